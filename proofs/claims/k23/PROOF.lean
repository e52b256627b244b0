import PyProof.Rows.All
import HandS.Words
import HandS.Ends
import HandS.Defaults
import Wide.All
import OpenK.AllK
import Wide.FinOn
import HandS.ForMost
import HandS.Flow
import HandS.TupAny
import HandS.Deep
import HandS.Small
import HandS.TupLen
import HandS.WordsDict
import HandS.IsInst
import HandS.Conv
import HandS.ListItems
import HandS.SortInts
import HandS.Rev
import HandS.TryOnly
import HandS.Zip
import HandS.Strs
import HandS.Sort
import PyProof.ReprRoads
import PyProof.ReprLen
import PySem.Challenge.RW_swapwarrant_k23_machines_trimmed
set_option Elab.async false
set_option linter.all false
set_option maxRecDepth 100000
set_option maxHeartbeats 8000000
/-! DLo: defs that are called where no repr is under way (so that repr's answer is known), and a law's end over such a def. -/
namespace DL
open PySem PySem.Spec L2
open PyProof.Rows hiding St

/-- a def's promise where no guard is under way -/
structure FnG (P : Program) (w : World) (K : PySem.W.Frag) (mg : Str → Option Value) (base : Heap) (CX : CXT) (k : Nat) (f : Addr) (fd : FuncData) (ps : List Str) (sp : Sp) : Prop where
  len : ∀ vs H Q E, sp vs H Q E → vs.length = ps.length
  run : ∀ (A : Around) (outer : List Env) (s : Shared) (H : Hp) (args : Args) (us : List Value) (vs : List V) (Q : VK) (E : XK), Room k A → A.guards = some [] → Env0 P w K mg base A outer s H → BindsTo s fd args (ps.zip us) → Vals vs us → sp vs H Q E →
    codeAny (model P w) A (.call (.ref f) args) (CR CX outer P w H s Q E) s
section
variable {P : Program} {w : World} {K : PySem.W.Frag} {mg : Str → Option Value} {base : Heap} {CX : CXT}
theorem FnG.mono {j k : Nat} {f : Addr} {fd : FuncData} {ps : List Str} {sp : Sp} (F : FnG P w K mg base CX j f fd ps sp) (h : j ≤ k) : FnG P w K mg base CX k f fd ps sp :=
  ⟨F.len, fun A outer s H args us vs Q E r => F.run A outer s H args us vs Q E (r.mono h)⟩
end
section
variable {X : Cx} {CX : CXT} {k : Nat} {f C : Addr} {fd : FuncData} {ps : List Str} {sp : Sp} {dvs : List V} {ds : List Value} {E : XK} {x m : Str} {p pos apos : Pos} {e o : Expr} {es : List Expr} {ta : TE} {t : TA}
/-- what a code's end says of the caller -/
theorem crG {pins : List (Addr × Obj)} {σ : St} {H : Hp} {s s' : Shared} {Q : VK} {r : Result} (hx : Passes CX X E) (I : Inv X pins σ H s) (hq : CR CX X.stack X.prog X.w H s Q E r s') {R : Result → Prop} :
    match r with
    | .ok (.ret u) => EP X pins σ Q u s'
    | .ok _ => False
    | .error e => X.xe e s' := by
  cases r with
  | error e => exact hx pins σ H s e s' I hq
  | ok fl => cases fl <;> first | exact I.after hq | exact False.elim hq
theorem run_fnG {pins : List (Addr × Obj)} {σ : St} {H : Hp} {s : Shared} {Q : VK} {us : List Value} {vs : List V} (F : FnG X.prog X.w X.K X.mg X.base CX k f fd ps sp) (hr : Room k X.A) (hgd : X.A.guards = some []) (hb : Binds X.K fd ps ds) (hd : Vals dvs ds) (hx : Passes CX X E)
    (I : Inv X pins σ H s) (r : Vals vs us) (h : sp (vs ++ dvs) H Q E) : wpAny (model X.prog X.w) X.A (call (.ref f) us) (EP X pins σ Q) X.xe s := by
  have r2 : Vals (vs ++ dvs) (us ++ ds) := r.append hd
  have hl : (us ++ ds).length = ps.length := (r2.length.symm).trans (F.len _ _ _ _ h)
  refine wpAny_call (codeAny_mono (F.run X.A X.stack s H ⟨us, []⟩ (us ++ ds) (vs ++ dvs) Q E hr hgd I.env0 (hb s us I.kIn hl) r2 h) fun r s' hq => ?_)
  have g := crG (R := fun _ => True) hx I hq
  cases r with
  | error e => exact g
  | ok fl => cases fl <;> exact g
/-- f(e, ..), f a def of the module -/
theorem pe_callG (F : FnG X.prog X.w X.K X.mg X.base CX k f fd ps sp) (hr : Room k X.A) (hgd : X.A.guards = some []) (hg : Gl X x) (hm : X.mg x = some (.ref f)) (hk : PySem.W.keepIn X.K (.ref f) = true) (hb : Binds X.K fd ps ds) (hd : Vals dvs ds) (hx : Passes CX X E)
    (ha : PA X (e :: es) t) (hdb : (x == ("__debug__" : Str)) = false) (he : starEach (e :: es) X.env = (false, eval e X.env) :: starEach es X.env) (hpl : (backTo pos (starEach es X.env)).any (·.1) = false) :
    PE X (.Call (.Name x p) (e :: es) [] pos) (tCall sp dvs E t) :=
  ⟨fun pins s σ H Q I h => wpAny_Call_Name_kw (ld_glob I hg hm (PySem.W.callWith_K (h₀ := X.base) I.ok.mod.kin hk (thn (ha.run pos pins s σ H _ I h) fun us s1 ⟨vs, H1, I1, r, q⟩ => ⟨I1.kIn, run_fnG F hr hgd hb hd hx I1 r q⟩) he hpl) hdb)⟩
theorem pe_callG0 (F : FnG X.prog X.w X.K X.mg X.base CX k f fd ps sp) (hr : Room k X.A) (hgd : X.A.guards = some []) (hg : Gl X x) (hm : X.mg x = some (.ref f)) (hk : PySem.W.keepIn X.K (.ref f) = true) (hb : Binds X.K fd ps ds) (hd : Vals dvs ds) (hx : Passes CX X E)
    (hdb : (x == ("__debug__" : Str)) = false) : PE X (.Call (.Name x p) [] [] pos) (tCall sp dvs E tNil) :=
  ⟨fun pins s σ H Q I h => wpAny_Call_Name_kw (ld_glob I hg hm (PySem.W.callWith_K0 I.kIn hk (run_fnG (us := []) F hr hgd hb hd hx I .nil h)) hdb)⟩
end

section
variable {P : Program} {w : World} {K : PySem.W.Frag} {mg : Str → Option Value} {base : Heap} {CX : CXT}
/-- a def of the text, by its body -/
theorem fn_ofG {k : Nat} {f : Addr} {name qual : Str} {params : Arguments} {body : List Stmt} {scope : Scope} {dV kV doc pm cdv ct oc : Value} {an od : Option Addr} {osl : Array (Option Value)} {N ps : List Str} {sp : Sp}
    (lk : K.lookup f = some ⟨oc, od, .func (PySem.W.fnOf name qual params body scope dV kV doc pm an cdv ct), osl⟩) (hcd : PySem.W.codeIn K cdv qual = true) (S : FnScope N ps scope) (len : ∀ vs H Q E, sp vs H Q E → vs.length = ps.length)
    (hbody : ∀ (A : Around) (outer : List Env) (s : Shared) (H : Hp) (vs : List V) (Q : VK) (E : XK), Room k (A.deeper (envOfC qual scope s.heap.objs.size f cdv)) → A.guards = some [] → sp vs H Q E →
      ∃ t, PSs (cxOf CX P w K mg base N qual scope f cdv A outer s H E) body t ∧ t { nx := fun _ H' => Q .non H', rt := Q } (L2.start N vs) H) :
    FnG P w K mg base CX (k + 1) f (PySem.W.fnOf name qual params body scope dV kV doc pm an cdv ct) ps sp := by
  refine ⟨len, fun A outer s H args us vs Q E hr hgd e0 hb r hsp => ?_⟩
  have KX : K.In s.heap := e0.mod.kin.keeps fun b o e => (e0.bs b o e).1
  have kinds : ∀ y ∈ ps.zip us, scope.names.lookup y.1 = some .local ∨ (scope.names.lookup y.1 = some .cell ∧ ((cellsFrom (s.heap.objs.size + 1) scope.names []).lookup y.1).isSome = true) :=
    fun ⟨n, v⟩ hy => (S.par n (List.of_mem_zip hy).1).imp id fun q => ⟨q, PySem.W.cellsFrom_some _ _ _ (.inl q)⟩
  refine codeAny_call_function hr.depth (KX _ _ lk) rfl S.co S.gen rfl (PySem.W.codeRec_of KX hcd) (hb _ _ _ _ (wpAny_newFunctionEnv_cells S.kind kinds fun env he s1 x => ?_))
  subst he
  refine ⟨(e0.mod.nolimit.keeps fun b o e => (e0.bs b o e).1).keeps x.toInCall.keep, codeAny_func ?_⟩
  obtain ⟨t, ht, hq⟩ := hbody A outer s H vs Q E (hr.deeper _) hgd hsp
  refine wpAny_mono (ht.run [] s1 (L2.start N vs) H _ (inv_start S hr.hd e0 (len _ _ _ _ hsp) r x) hq) (fun fl s' hs => ?_) fun e s' hs => hs
  cases fl with
  | ret u => exact let ⟨v, σ', H', J, rv, q⟩ := hs; ⟨v, H', J.os, J.bare, J.base, J.hok, rv, q⟩
  | next => exact let ⟨σ', H', J, q⟩ := hs; ⟨V.non, H', J.os, J.bare, J.base, J.hok, rfl, q⟩
  | brk => exact let ⟨_, _, _, q⟩ := hs; q.elim
  | cont => exact let ⟨_, _, _, q⟩ := hs; q.elim
theorem Fun.okG {x qual : Str} {st : Stmt} {f : Addr} {fd : FuncData} {N ps : List Str} {k : Nat} {sp : Sp} (F : Fun K x qual st f fd) (S : FnScope N ps (defScope st)) (len : ∀ vs H Q E, sp vs H Q E → vs.length = ps.length)
    (hbody : ∀ (cdv : Value) (A : Around) (outer : List Env) (s : Shared) (H : Hp) (vs : List V) (Q : VK) (E : XK), Room k (A.deeper (envOfC qual (defScope st) s.heap.objs.size f cdv)) → A.guards = some [] → sp vs H Q E →
      ∃ t, PSs (cxOf CX0 P w K mg base N qual (defScope st) f cdv A outer s H E).nox (defBody st) t ∧ t { nx := fun _ H' => Q .non H', rt := Q } (L2.start N vs) H) : FnG P w K mg base CX0 (k + 1) f fd ps sp := by
  obtain ⟨oc, od, kV, doc, pm, an, cdv, ct, osl, rfl, lk, hcd⟩ := F.ex
  exact fn_ofG lk hcd S len fun A outer s H vs Q E hr hgd hsp => let ⟨t, h, q⟩ := hbody cdv A outer s H vs Q E hr hgd hsp; ⟨t, h.nox, q⟩
end

/-- the law's def at the heap behind the top: what may be tracked is at most the script -/
theorem law_callG {P : Program} {w : World} {K : PySem.W.Frag} {mg mb : Str → Option Value} {k : Nat} {fa a : Addr} {fd : FuncData} {x : Str} {sp : Sp} {s₁ : Shared} {vs : List Value} {ns : List Int}
    (KX : K.In s₁.heap) (hns : s₁.heap.Ns mainGlobals mg) (hb : s₁.heap.Ns builtinsNs mb) (hbb : ∀ x : Str, x ≠ "__name__" → mb x = bootBuiltins x) (hlim : s₁.heap.NoLimit) (hg : s₁.gens = #[])
    (ha : s₁.heap.get? a = some { cls := .type "list", data := .seq vs.toArray }) (hi : IntsAre vs ns) (hl : ns.length ≤ sizeLine) (hr : Room k callerA)
    (F : ∀ base : Heap, K.In base → base.Ns mainGlobals mg → FnG P w K mg base CX0 k fa fd [x] sp) (hbind : ∀ (s : Shared) (u : Value), BindsTo s fd ⟨[u], []⟩ [(x, u)])
    (hsp : ∀ H : Hp, Only H → SqL K H a (ns.map V.int) → sp [.ref a] H (fun v _ => v = .bl true) fun _ _ _ => False) :
    codeAny (model P w) callerA (.call (.ref fa) ⟨[.ref a], []⟩) (fun r s' => r = .ok (.ret (.bool true)) ∧ OldK s₁.heap s'.heap ∧ s'.os = s₁.os ∧ AllBare s'.gens) s₁ := by
  have rv := vals_ints hi
  suffices core : ∀ H : Hp, Only H → SqL K H a (ns.map V.int) → HOk P w H s₁.heap → (∀ b u, H b = some u → b = a ∧ K.lookup b = none) →
      codeAny (model P w) callerA (.call (.ref fa) ⟨[.ref a], []⟩) (fun r s' => r = .ok (.ret (.bool true)) ∧ OldK s₁.heap s'.heap ∧ s'.os = s₁.os ∧ AllBare s'.gens) s₁ by
    cases hk : K.lookup a with
    | some o =>
      have e := KX a o hk
      rw [ha] at e
      cases e
      exact core (fun _ => none) (fun _ => .inl rfl) (.inr ⟨_, vs.toArray, _, hk, rfl, rfl, rfl, by rw [List.size_toArray, hi.length]; exact hl, by simpa using rv⟩) (fun b u z => nomatch z) (fun b u z => nomatch z)
    | none =>
      have at_ : ∀ {b : Addr} {u : HO}, (if b = a then some (HO.frz { cls := .type "list", data := .seq vs.toArray } (.lst (ns.map V.int))) else none) = some u → b = a ∧ u = HO.frz { cls := .type "list", data := .seq vs.toArray } (.lst (ns.map V.int)) := fun {b u} z => by
        split at z
        · cases z
          exact ⟨by assumption, rfl⟩
        · cases z
      refine core (fun b => if b = a then some (.frz { cls := .type "list", data := .seq vs.toArray } (.lst (ns.map V.int))) else none) (fun b => ?_) (.inl (.inr ⟨_, if_pos rfl⟩)) (fun b u z => ?_) (fun b u z => ?_)
      · by_cases hb : b = a
        · exact .inr ⟨_, _, if_pos hb⟩
        · exact .inl (if_neg hb)
      · obtain ⟨rfl, rfl⟩ := at_ z
        exact ⟨ha, by rw [List.length_map]; exact hl, vs, _, rv, ha⟩
      · obtain ⟨rfl, rfl⟩ := at_ z
        exact ⟨rfl, hk⟩
  intro H hO hS hok hA
  have free : ∀ {b : Addr} {o : Obj} {es : Array DictEntry} {ep : Nat}, s₁.heap.get? b = some o → o.data = .dict es ep → H b = none := fun {b o es ep} e d => by
    cases q : H b with
    | none => rfl
    | some u =>
      obtain ⟨rfl, _⟩ := hA b u q
      rw [ha] at e
      cases e
      cases d
  have nsK : ∀ {b : Addr} {m : Str → Option Value}, s₁.heap.Ns b m → (hidT s₁.heap H).Ns b m := fun {b m} ⟨o, es, ep, e, d, r⟩ => ⟨o, es, ep, hidT_get e (free e d), d, r⟩
  have hKb : K.In (hidT s₁.heap H) := fun b o e => hidT_get (KX b o e) (by
    cases q : H b with
    | none => rfl
    | some u =>
      rw [(hA b u q).2] at e
      cases e)
  have hM : Mod K mg (hidT s₁.heap H) := ⟨hKb, nsK hns, ⟨mb, nsK hb, hbb⟩, let ⟨mc, h1, h2⟩ := hlim; ⟨mc, nsK h1, h2⟩⟩
  have e0 : Env0 P w K mg (hidT s₁.heap H) callerA [] s₁ H := ⟨rfl, hM, fun b o e => of_hidT e, Nat.le_of_eq (hidT_size _ _), trivial, fun b hb => absurd (show b ∈ ([] : List Addr) from hb) List.not_mem_nil, hok, .of_eq hg⟩
  refine codeAny_mono ((F _ hKb (nsK hns)).run callerA [] s₁ H ⟨[.ref a], []⟩ [.ref a] [.ref a] _ _ hr rfl e0 (hbind s₁ (.ref a)) (.cons rfl .nil) (hsp H hO hS)) fun r s' h => ?_
  match r, h with
  | .ok (.ret u), ⟨v, H', os, bare, un, hok', r', q⟩ =>
    have q' : v = .bl true := q
    subst q'
    obtain rfl : u = Value.bool true := r'
    refine ⟨rfl, OldK.of_keep fun b o e => ?_, os, bare⟩
    cases q : H b with
    | none => exact un.keep b o e q (fun z => absurd (show b ∈ ([] : List Addr) from z) List.not_mem_nil) List.not_mem_nil
    | some u =>
      rcases hO b with z | ⟨ob, xs, z⟩
      · rw [q] at z; cases z
      · have e1 := (hok b _ z).1
        rw [e] at e1
        cases e1
        exact (hok' b _ (un.frzs b _ _ z)).1
/-- the goal that k_head leaves, from the law's promise -/
theorem walk_ofG {l : PySem.W.OpenLaw} {n k : Nat} {q : Program} {loose : List Str} {XP : (Str → Option Value) → Heap → Prop} {YP : World → Heap → Prop} {d : DefRec} {K : Params → PySem.W.Frag} {sp : World → Sp} {x : Str}
    (hn : l.most = some n) (hn2 : n ≤ sizeLine) (hdf : d.params.defaults = []) (hr : Room k callerA) (hY : ∀ (w : World) (h : Heap), YP w h → (K w.params).In h)
    (F : ∀ (w : World) (mg : Str → Option Value) (fa : Addr) (h : Heap), (K w.params).In h → h.Ns mainGlobals mg → mg d.name = some (.ref fa) →
      ∃ fd : FuncData, (∀ (s : Shared) (u : Value), BindsTo s fd ⟨[u], []⟩ [(x, u)]) ∧ ∀ base : Heap, (K w.params).In base → base.Ns mainGlobals mg → FnG l.prog w (K w.params) mg base CX0 k fa fd [x] (sp w))
    (hsp : ∀ (w : World) (H : Hp) (a : Addr) (ns : List Int), ns.length ≤ n → Only H → SqL (K w.params) H a (ns.map V.int) → sp w [.ref a] H (fun v _ => v = .bl true) fun _ _ _ => False) :
    PySem.W.WalkO q loose XP YP l.row.toRowW d [] (fun f vs => PySem.call f vs) := by
  refine Att.attach_call hn hdf fun w s₀ s₁ mg mb fa o pm cd doc a vs ns G Y ho hd hcd hmg hobj hints hlen hg => ?_
  have KX := hY w _ Y
  obtain ⟨fd, hb, hF⟩ := F w mg fa _ KX G.T.g hmg
  exact law_callG KX G.T.g G.T.b G.T.builtins G.T.nolimit hg hobj hints (Nat.le_trans hlen hn2) hr hF hb fun H hO hS => hsp w H a ns hlen hO hS
end DL
/-! DLa: a data layer over the hand layer: deep data D, a heap Mh of what may change, and the relation to V and Hp. -/
namespace DL
open PySem PySem.Spec L2
open PyProof.Rows hiding St

/-- data: tuples by value (ktp: one that the module's top made), what may change by its address -/
inductive D where
  | non
  | bl (b : Bool)
  | int (i : Int)
  | str (x : Str)
  | tup (ds : List D)
  | ktp (ds : List D)
  | rol (ds : List D)
  | ref (a : Addr)

/-- what may change -/
inductive MO where
  | lst (ds : List D)
  | dk (kvs : List (Key × D))
  | dt (kvs : List (List Key × D))

abbrev Mh := Addr → Option MO
def mup (M : Mh) (a : Addr) (o : MO) : Mh := fun b => if b = a then some o else M b
@[simp] theorem mup_same {M : Mh} {a : Addr} {o : MO} : mup M a o a = some o := if_pos rfl
theorem mup_ne {M : Mh} {a b : Addr} {o : MO} (h : b ≠ a) : mup M a o b = M b := if_neg h

abbrev Ev := List (Option D)
abbrev PQ := D → Mh → Prop
abbrev DT := Ev → Mh → PQ → Prop
abbrev DB := Ev → Mh → (Bool → Mh → Prop) → Prop
abbrev DA := Ev → Mh → (List D → Mh → Prop) → Prop
structure De where
  nx : Ev → Mh → Prop
  rt : PQ
  bk : Ev → Mh → Prop := fun _ _ => False
  ct : Ev → Mh → Prop := fun _ _ => False
abbrev DS := De → Ev → Mh → Prop

section
variable (K : PySem.W.Frag) (H : Hp)
/-- a list that is never written -/
def SqF (a : Addr) (xs : List V) : Prop :=
  (∃ o, H a = some (.frz o (.lst xs))) ∨
    ∃ (o : Obj) (its : Array Value) (n : Nat), K.lookup a = some o ∧ o.cls = .type "list" ∧ o.dict = none ∧ o.data = .seq its n ∧ its.size ≤ sizeLine ∧ Vals xs its.toList
/-- a tuple that is known to its object, which has no dict -/
def SqN (a : Addr) (xs : List V) : Prop :=
  (∃ o, H a = some (.frz o (.tup xs)) ∧ o.dict = none) ∨
    ∃ (o : Obj) (its : Array Value) (n : Nat), K.lookup a = some o ∧ o.cls = .type "tuple" ∧ o.dict = none ∧ o.data = .seq its n ∧ its.size ≤ sizeLine ∧ Vals xs its.toList
mutual
inductive DR : D → V → Prop
  | non : DR .non .non
  | bl (b : Bool) : DR (.bl b) (.bl b)
  | int (i : Int) : DR (.int i) (.int i)
  | str (x : Str) : DR (.str x) (.str x)
  | tup {a : Addr} {vs : List V} {ds : List D} : H a = some (.tup vs) → DRs ds vs → DR (.tup ds) (.ref a)
  | ktp {a : Addr} {vs : List V} {ds : List D} : SqN K H a vs → DRs ds vs → DR (.ktp ds) (.ref a)
  | rol {a : Addr} {vs : List V} {ds : List D} : SqF K H a vs → DRs ds vs → DR (.rol ds) (.ref a)
  | ref (a : Addr) : DR (.ref a) (.ref a)
inductive DRs : List D → List V → Prop
  | nil : DRs [] []
  | cons {d : D} {v : V} {ds : List D} {vs : List V} : DR d v → DRs ds vs → DRs (d :: ds) (v :: vs)
end
/-- a table of values -/
abbrev DKs {κ : Type} : List (κ × D) → List (κ × V) → Prop := Paired fun p q => p.1 = q.1 ∧ DR K H p.2 q.2
def MR (a : Addr) : MO → Prop
  | .lst ds => ∃ vs, H a = some (.lst vs) ∧ DRs K H ds vs
  | .dk kvs => ∃ ws, H a = some (.dK ws) ∧ DKs K H kvs ws
  | .dt kvs => ∃ ws, H a = some (.dT ws) ∧ DKs K H kvs ws
/-- what stands for a changing thing -/
def IsM : HO → Prop
  | .lst _ => True
  | .dK _ => True
  | .dT _ => True
  | _ => False
def HR (M : Mh) : Prop := ∀ a o, M a = some o → MR K H a o
/-- slots -/
def ER (ρ : Ev) (σ : St) : Prop := ρ.length = σ.length ∧ ∀ (i : Nat) (d : D), ρ[i]? = some (some d) → ∃ v, σ[i]? = some (some v) ∧ DR K H d v
end
/-- the tuples and what is frozen stand -/
structure Ext (K : PySem.W.Frag) (H H' : Hp) : Prop where
  tup : ∀ a vs, H a = some (.tup vs) → H' a = some (.tup vs)
  frz : ∀ a o u, H a = some (.frz o u) → H' a = some (.frz o u)

section
variable {K : PySem.W.Frag} {H H1 H2 : Hp}
theorem Ext.refl (K : PySem.W.Frag) (H : Hp) : Ext K H H := ⟨fun _ _ h => h, fun _ _ _ h => h⟩
theorem Ext.trans (x : Ext K H H1) (y : Ext K H1 H2) : Ext K H H2 := ⟨fun a vs h => y.tup a vs (x.tup a vs h), fun a o u h => y.frz a o u (x.frz a o u h)⟩
theorem Ext.of_ne {p : Addr} {o : HO} (ht : ∀ xs, H p ≠ some (.tup xs)) (hf : ∀ ob u, H p ≠ some (.frz ob u)) : Ext K H (upd H p o) := by
  have nt : ∀ a xs, H a = some (.tup xs) → a ≠ p := fun a xs e z => ht xs (z ▸ e)
  have nf : ∀ a ob u, H a = some (.frz ob u) → a ≠ p := fun a ob u e z => hf ob u (z ▸ e)
  exact ⟨fun a vs q => by rw [upd_ne (nt a _ q)]; exact q, fun a ob u q => by rw [upd_ne (nf a ob u q)]; exact q⟩
theorem Ext.sqT (x : Ext K H H1) {a : Addr} {vs : List V} (q : SqT K H a vs) : SqT K H1 a vs := by
  rcases q with (q | ⟨ob, q⟩) | q
  · exact .inl (.inl (x.tup _ _ q))
  · exact .inl (.inr ⟨ob, x.frz _ _ _ q⟩)
  · exact .inr q
theorem Ext.fresh {p : Addr} {o : HO} (h : H p = none) : Ext K H (upd H p o) := .of_ne (fun xs z => by rw [h] at z; cases z) fun ob u z => by rw [h] at z; cases z
theorem Ext.lst {p : Addr} {xs : List V} {o : HO} (h : H p = some (.lst xs)) : Ext K H (upd H p o) := .of_ne (fun xs z => by rw [h] at z; cases z) fun ob u z => by rw [h] at z; cases z
theorem Ext.isM {p : Addr} {u o : HO} (h : H p = some u) (m : IsM u) : Ext K H (upd H p o) := .of_ne (fun xs z => by rw [h] at z; cases z; exact m) fun ob u z => by rw [h] at z; cases z; exact m
theorem SqF.mono {a : Addr} {xs : List V} (x : Ext K H H1) (h : SqF K H a xs) : SqF K H1 a xs := by
  rcases h with ⟨o, h⟩ | h
  · exact .inl ⟨o, x.frz _ _ _ h⟩
  · exact .inr h
theorem SqN.mono {a : Addr} {xs : List V} (x : Ext K H H1) (h : SqN K H a xs) : SqN K H1 a xs := by
  rcases h with ⟨o, h, d⟩ | h
  · exact .inl ⟨o, x.frz _ _ _ h, d⟩
  · exact .inr h
theorem SqN.t {a : Addr} {xs : List V} (h : SqN K H a xs) : SqT K H a xs := by
  rcases h with ⟨o, h, d⟩ | ⟨o, its, n, h1, h2, h3, h4, h5, h6⟩
  · exact .inl (.inr ⟨o, h⟩)
  · exact .inr ⟨o, its, n, h1, h2, h4, h5, h6⟩
theorem SqF.seq {a : Addr} {xs : List V} (h : SqF K H a xs) : SqL K H a xs := by
  rcases h with ⟨o, h⟩ | h
  · exact .inl (.inr ⟨o, h⟩)
  · exact .inr h
mutual
theorem DR.mono (x : Ext K H H1) : ∀ {d : D} {v : V}, DR K H d v → DR K H1 d v
  | _, _, .non => .non
  | _, _, .bl b => .bl b
  | _, _, .int i => .int i
  | _, _, .str z => .str z
  | _, _, .tup h r => .tup (x.tup _ _ h) (DRs.mono x r)
  | _, _, .ktp h r => .ktp (h.mono x) (DRs.mono x r)
  | _, _, .rol h r => .rol (h.mono x) (DRs.mono x r)
  | _, _, .ref a => .ref a
theorem DRs.mono (x : Ext K H H1) : ∀ {ds : List D} {vs : List V}, DRs K H ds vs → DRs K H1 ds vs
  | _, _, .nil => .nil
  | _, _, .cons h r => .cons (DR.mono x h) (DRs.mono x r)
end
theorem DRs.length : ∀ {ds : List D} {vs : List V}, DRs K H ds vs → ds.length = vs.length
  | _, _, .nil => rfl
  | _, _, .cons _ r => by rw [List.length_cons, List.length_cons, r.length]
theorem DRs.get : ∀ {ds : List D} {vs : List V} {i : Nat} {d : D}, DRs K H ds vs → ds[i]? = some d → ∃ v, vs[i]? = some v ∧ DR K H d v
  | _, _, _, _, .nil, e => by simp at e
  | _, _, 0, _, .cons h _, e => by
    simp only [List.getElem?_cons_zero, Option.some.injEq] at e
    exact ⟨_, rfl, e ▸ h⟩
  | _, _, i + 1, _, .cons _ r, e => by
    simp only [List.getElem?_cons_succ] at e
    obtain ⟨v, h1, h2⟩ := DRs.get r e
    exact ⟨v, by simpa using h1, h2⟩
theorem DRs.get' : ∀ {ds : List D} {vs : List V} {i : Nat} {v : V}, DRs K H ds vs → vs[i]? = some v → ∃ d, ds[i]? = some d ∧ DR K H d v
  | _, _, _, _, .nil, e => by simp at e
  | _, _, 0, _, .cons h _, e => by
    simp only [List.getElem?_cons_zero, Option.some.injEq] at e
    exact ⟨_, rfl, e ▸ h⟩
  | _, _, i + 1, _, .cons _ r, e => by
    simp only [List.getElem?_cons_succ] at e
    obtain ⟨v, h1, h2⟩ := DRs.get' r e
    exact ⟨v, by simpa using h1, h2⟩
theorem DRs.append : ∀ {ds es : List D} {vs ws : List V}, DRs K H ds vs → DRs K H es ws → DRs K H (ds ++ es) (vs ++ ws)
  | _, _, _, _, .nil, s => s
  | _, _, _, _, .cons h r, s => .cons h (DRs.append r s)
theorem DRs.nil_of {ds : List D} {vs : List V} (r : DRs K H ds vs) (e : vs = []) : ds = [] := by
  subst e
  cases r
  rfl
theorem DRs.drop : ∀ {ds : List D} {vs : List V} (n : Nat), DRs K H ds vs → DRs K H (ds.drop n) (vs.drop n)
  | _, _, 0, r => r
  | _, _, _ + 1, .nil => .nil
  | _, _, n + 1, .cons _ r => DRs.drop n r
theorem DRs.take : ∀ {ds : List D} {vs : List V} (n : Nat), DRs K H ds vs → DRs K H (ds.take n) (vs.take n)
  | _, _, 0, _ => .nil
  | _, _, _ + 1, .nil => .nil
  | _, _, n + 1, .cons h r => .cons h (DRs.take n r)
theorem DRs.set : ∀ {ds : List D} {vs : List V} (i : Nat) {d : D} {v : V}, DRs K H ds vs → DR K H d v → DRs K H (ds.set i d) (vs.set i v)
  | _, _, _, _, _, .nil, _ => .nil
  | _, _, 0, _, _, .cons _ r, q => .cons q r
  | _, _, i + 1, _, _, .cons h r, q => .cons h (DRs.set i r q)
theorem DRs.erase : ∀ {ds : List D} {vs : List V} (i : Nat), DRs K H ds vs → DRs K H (ds.eraseIdx i) (vs.eraseIdx i)
  | _, _, _, .nil => .nil
  | _, _, 0, .cons _ r => r
  | _, _, i + 1, .cons h r => .cons h (DRs.erase i r)
theorem DRs.dropLast {ds : List D} {vs : List V} (r : DRs K H ds vs) : DRs K H ds.dropLast vs.dropLast := by
  rw [List.dropLast_eq_take, List.dropLast_eq_take, r.length]; exact r.take _
theorem DRs.one {d : D} {v : V} (h : DR K H d v) : DRs K H [d] [v] := .cons h .nil
theorem DRs.two {d e : D} {v w : V} (h : DR K H d v) (g : DR K H e w) : DRs K H [d, e] [v, w] := .cons h (.cons g .nil)

theorem ER.mono {ρ : Ev} {σ : St} (x : Ext K H H1) (e : ER K H ρ σ) : ER K H1 ρ σ := ⟨e.1, fun i d h => let ⟨v, h1, h2⟩ := e.2 i d h; ⟨v, h1, h2.mono x⟩⟩
theorem ER.set {ρ : Ev} {σ : St} {i : Nat} {d : D} {v : V} (e : ER K H ρ σ) (h : DR K H d v) : ER K H (ρ.set i (some d)) (σ.set i (some v)) := by
  refine ⟨by rw [List.length_set, List.length_set, e.1], fun j c q => ?_⟩
  by_cases hj : i = j
  · subst hj
    rw [List.getElem?_set] at q
    by_cases hl : i < ρ.length
    · rw [if_pos rfl, if_pos hl] at q
      cases q
      exact ⟨v, by rw [List.getElem?_set, if_pos rfl, if_pos (by rw [← e.1]; exact hl)], h⟩
    · rw [if_pos rfl, if_neg hl] at q
      cases q
  · rw [List.getElem?_set_ne hj] at q
    obtain ⟨w, h1, h2⟩ := e.2 j c q
    exact ⟨w, by rw [List.getElem?_set_ne hj]; exact h1, h2⟩

theorem DKs.mono {κ : Type} {kvs : List (κ × D)} {ws : List (κ × V)} (x : Ext K H H1) (h : DKs K H kvs ws) : DKs K H1 kvs ws := Paired.mapP h fun _ _ z => ⟨z.1, z.2.mono x⟩
/-- what M speaks of is there -/
theorem MR.there {a : Addr} {o : MO} (h : MR K H a o) : ∃ u, H a = some u ∧ IsM u := by
  cases o with
  | lst ds => obtain ⟨vs, q, _⟩ := h; exact ⟨_, q, trivial⟩
  | dk ds => obtain ⟨vs, q, _⟩ := h; exact ⟨_, q, trivial⟩
  | dt ds => obtain ⟨vs, q, _⟩ := h; exact ⟨_, q, trivial⟩
theorem HR.free {M : Mh} {p : Addr} (r : HR K H M) (h : H p = none) : M p = none := by
  cases e : M p with
  | none => rfl
  | some o =>
    obtain ⟨u, q, _⟩ := (r p _ e).there
    rw [h] at q; cases q
theorem MR.keep {a : Addr} {o : MO} (h : MR K H a o) (x : Ext K H H1) (k : ∀ u, IsM u → H a = some u → H1 a = some u) : MR K H1 a o := by
  cases o with
  | lst ds => obtain ⟨vs, q, d⟩ := h; exact ⟨vs, k _ trivial q, d.mono x⟩
  | dk ds => obtain ⟨vs, q, d⟩ := h; exact ⟨vs, k _ trivial q, d.mono x⟩
  | dt ds => obtain ⟨vs, q, d⟩ := h; exact ⟨vs, k _ trivial q, d.mono x⟩
/-- the objects of M elsewhere stand -/
theorem HR.keep {M : Mh} (r : HR K H M) (x : Ext K H H1) (k : ∀ a u, (M a).isSome = true → IsM u → H a = some u → H1 a = some u) : HR K H1 M := fun a o e =>
  (r a o e).keep x fun u m q => k a u (by rw [e]; rfl) m q
/-- something new that M does not speak of -/
theorem HR.fresh {M : Mh} {p : Addr} {o : HO} (r : HR K H M) (h : H p = none) : HR K (upd H p o) M :=
  r.keep (.fresh h) fun a vs _ _ e => by rw [upd_ne (ne_of_none e h)]; exact e
/-- a place is written -/
theorem HR.put {M : Mh} {p : Addr} {mo : MO} {o : HO} (r : HR K H M) (x : Ext K H (upd H p o)) (d : MR K (upd H p o) p mo) : HR K (upd H p o) (mup M p mo) := fun a o e => by
  by_cases z : a = p
  · subst z
    rw [mup_same] at e; cases e
    exact d
  · rw [mup_ne z] at e
    exact (r a o e).keep x fun u _ q => by rw [upd_ne z]; exact q
/-- a new list -/
theorem HR.new {M : Mh} {p : Addr} {ds : List D} {vs : List V} (r : HR K H M) (h : H p = none) (d : DRs K H ds vs) : HR K (upd H p (.lst vs)) (mup M p (.lst ds)) :=
  r.put (.fresh h) ⟨vs, upd_same, d.mono (.fresh h)⟩
/-- a list is written -/
theorem HR.write {M : Mh} {p : Addr} {ds : List D} {vs xs : List V} (r : HR K H M) (h : H p = some (.lst xs)) (d : DRs K H ds vs) : HR K (upd H p (.lst vs)) (mup M p (.lst ds)) :=
  r.put (.lst h) ⟨vs, upd_same, d.mono (.lst h)⟩
end
end DL
/-! DLb: rules of the data layer for expressions and tests. -/
namespace DL
open PySem PySem.Spec L2
open PyProof.Rows hiding St

/-! ### transformers over data, seen as the hand layer's readings -/
def up (K : PySem.W.Frag) (w : DT) : TE := fun σ H Q => ∃ ρ M P, ER K H ρ σ ∧ HR K H M ∧ w ρ M P ∧ ∀ d M' v H', P d M' → Ext K H H' → DR K H' d v → HR K H' M' → Q v H'
def upB (K : PySem.W.Frag) (w : DB) : TT := fun σ H Q => ∃ ρ M P, ER K H ρ σ ∧ HR K H M ∧ w ρ M P ∧ ∀ b M' H', P b M' → Ext K H H' → HR K H' M' → Q b H'
def upA (K : PySem.W.Frag) (w : DA) : TA := fun σ H Q => ∃ ρ M P, ER K H ρ σ ∧ HR K H M ∧ w ρ M P ∧ ∀ ds M' vs H', P ds M' → Ext K H H' → DRs K H' ds vs → HR K H' M' → Q vs H'
/-- operations on values -/
def up1 (K : PySem.W.Frag) (r : D → Mh → PQ → Prop) : V → Hp → VK → Prop := fun v H Q => ∃ x M P, DR K H x v ∧ HR K H M ∧ r x M P ∧ ∀ d M' v' H', P d M' → Ext K H H' → DR K H' d v' → HR K H' M' → Q v' H'
def up2 (K : PySem.W.Frag) (r : D → D → Mh → PQ → Prop) : R2 := fun v u H Q => ∃ x y M P, DR K H x v ∧ DR K H y u ∧ HR K H M ∧ r x y M P ∧ ∀ d M' v' H', P d M' → Ext K H H' → DR K H' d v' → HR K H' M' → Q v' H'
def upL (K : PySem.W.Frag) (r : List D → Mh → PQ → Prop) : List V → Hp → VK → Prop := fun vs H Q => ∃ xs M P, DRs K H xs vs ∧ HR K H M ∧ r xs M P ∧ ∀ d M' v' H', P d M' → Ext K H H' → DR K H' d v' → HR K H' M' → Q v' H'
def upM (K : PySem.W.Frag) (r : D → List D → Mh → PQ → Prop) : V → List V → Hp → VK → Prop := fun v vs H Q => ∃ x xs M P, DR K H x v ∧ DRs K H xs vs ∧ HR K H M ∧ r x xs M P ∧ ∀ d M' v' H', P d M' → Ext K H H' → DR K H' d v' → HR K H' M' → Q v' H'
abbrev Dx (X : Cx) (e : Expr) (w : DT) : Prop := PE X e (up X.K w)
abbrev Dt (X : Cx) (e : Expr) (w : DB) : Prop := PT X e (upB X.K w)
abbrev Da (X : Cx) (es : List Expr) (w : DA) : Prop := PA X es (upA X.K w)
theorem pe_wk {X : Cx} {e : Expr} {t t' : TE} (h : PE X e t) (k : ∀ σ H Q, t' σ H Q → t σ H Q) : PE X e t' := ⟨fun pins s σ H Q I q => h.run pins s σ H Q I (k σ H Q q)⟩
theorem pt_wk {X : Cx} {e : Expr} {t t' : TT} (h : PT X e t) (k : ∀ σ H Q, t' σ H Q → t σ H Q) : PT X e t' := ⟨fun pins s σ H Q I q => h.run pins s σ H Q I (k σ H Q q)⟩
theorem pa_wk {X : Cx} {es : List Expr} {t t' : TA} (h : PA X es t) (k : ∀ σ H Q, t' σ H Q → t σ H Q) : PA X es t' := ⟨fun pos pins s σ H Q I q => h.run pos pins s σ H Q I (k σ H Q q)⟩

/-! ### the combinators -/
def slot : Ev → Nat → Option D
  | [], _ => none
  | x :: _, 0 => x
  | _ :: r, n + 1 => slot r n
theorem slot_get : ∀ {ρ : Ev} {i : Nat} {d : D}, slot ρ i = some d → ρ[i]? = some (some d)
  | x :: _, 0, d, h => by simpa [slot] using h
  | _ :: r, n + 1, d, h => by
    have := slot_get (ρ := r) (i := n) (d := d) h
    simpa using this
def eVar (i : Nat) : DT := fun ρ M P => match slot ρ i with
  | some d => P d M
  | none => False
def eC (d : D) : DT := fun _ M P => P d M
def eBin (r : D → D → Mh → PQ → Prop) (a b : DT) : DT := fun ρ M P => a ρ M fun x M1 => b ρ M1 fun y M2 => r x y M2 P
def eUn (r : D → Mh → PQ → Prop) (a : DT) : DT := fun ρ M P => a ρ M fun x M1 => r x M1 P
/-- a comparison's answer -/
abbrev Cmp := D → D → Mh → (Bool → Prop) → Prop
def eCmp (r : Cmp) (a b : DT) : DT := fun ρ M P => a ρ M fun x M1 => b ρ M1 fun y M2 => r x y M2 fun k => P (.bl k) M2
def bCmp (r : Cmp) (a b : DT) : DB := fun ρ M P => a ρ M fun x M1 => b ρ M1 fun y M2 => r x y M2 fun k => P k M2
/-- truth -/
def truD (x : D) (M : Mh) (P : Bool → Prop) : Prop := match x with
  | .non => P false
  | .bl b => P b
  | .int i => P (i != 0)
  | .str z => z.length ≤ sizeLine ∧ P ((z.length : Int) != 0)
  | .tup ds => P (!ds.isEmpty)
  | .ktp ds => P (!ds.isEmpty)
  | .rol ds => P (!ds.isEmpty)
  | .ref a => match M a with
    | some (.lst ds) => P (!ds.isEmpty)
    | _ => False
def bTru (a : DT) : DB := fun ρ M P => a ρ M fun x M1 => truD x M1 fun k => P k M1
def bNot (a : DB) : DB := fun ρ M P => a ρ M fun k M1 => P (!k) M1
def bAnd (a b : DB) : DB := fun ρ M P => a ρ M fun k M1 => if k = true then b ρ M1 P else P false M1
def bOr (a b : DB) : DB := fun ρ M P => a ρ M fun k M1 => if k = true then P true M1 else b ρ M1 P
def eNot (a : DT) : DT := fun ρ M P => a ρ M fun x M1 => truD x M1 fun k => P (.bl (!k)) M1
def eAnd (a b : DT) : DT := fun ρ M P => a ρ M fun x M1 => truD x M1 fun k => if k = true then b ρ M1 P else P x M1
def eOr (a b : DT) : DT := fun ρ M P => a ρ M fun x M1 => truD x M1 fun k => if k = true then P x M1 else b ρ M1 P
def eIf (c : DB) (a b : DT) : DT := fun ρ M P => c ρ M fun k M1 => if k = true then a ρ M1 P else b ρ M1 P
def aNil : DA := fun _ M P => P [] M
def aCons (a : DT) (r : DA) : DA := fun ρ M P => a ρ M fun x M1 => r ρ M1 fun xs M2 => P (x :: xs) M2
def eTup (a : DA) : DT := fun ρ M P => a ρ M fun xs M1 => xs.length ≤ sizeLine ∧ P (.tup xs) M1
def eLst (a : DA) : DT := fun ρ M P => a ρ M fun xs M1 => xs.length ≤ sizeLine ∧ ∀ p, M1 p = none → P (.ref p) (mup M1 p (.lst xs))
/-- f(..) by what f promises -/
def eCall (sp : List D → Mh → PQ → Prop) (a : DA) : DT := fun ρ M P => a ρ M fun xs M1 => sp xs M1 P
/-- o.m(..) -/
def eMet (r : D → List D → Mh → PQ → Prop) (o : DT) (a : DA) : DT := fun ρ M P => o ρ M fun x M1 => a ρ M1 fun xs M2 => r x xs M2 P

section
variable {X : Cx}
theorem dx_var {i : Nat} {x : Str} {pos : Pos} (hN : X.N[i]? = some x) (hv : Vis X.env.scope x) (hd : (x == ("__debug__" : Str)) = false) (hcd : (x == ("__classdict__" : Str)) = false) : Dx X (.Name x pos) (eVar i) :=
  pe_wk (pe_var hN hv hd hcd) fun σ H Q ⟨ρ, M, P, er, hr, w, k⟩ => by
    unfold eVar at w
    cases e : slot ρ i with
    | none => rw [e] at w; exact w.elim
    | some d =>
      rw [e] at w
      obtain ⟨v, h1, h2⟩ := er.2 i d (slot_get e)
      exact ⟨v, h1, k d M v H w (.refl _ _) h2 hr⟩
theorem dx_c {e : Expr} {v : V} {d : D} (h : PE X e (tC v)) (r : ∀ H, DR X.K H d v) : Dx X e (eC d) :=
  pe_wk h fun σ H Q ⟨ρ, M, P, er, hr, w, k⟩ => k d M v H w (.refl _ _) (r H) hr
theorem dx_bin {op : Operator} {r : D → D → Mh → PQ → Prop} {a b : Expr} {wa wb : DT} {pos : Pos} (ho : OpR X (binaryOp op) (up2 X.K r)) (ha : Dx X a wa) (hb : Dx X b wb) : Dx X (.BinOp a op b pos) (eBin r wa wb) :=
  pe_wk (pe_op ho ha hb) fun σ H Q ⟨ρ, M, P, er, hr, w, k⟩ =>
    ⟨ρ, M, _, er, hr, w, fun x M1 v H1 p1 e1 d1 h1 => ⟨ρ, M1, _, er.mono e1, h1, p1, fun y M2 u H2 p2 e2 d2 h2 => ⟨x, y, M2, P, d1.mono e2, d2, h2, p2, fun d M3 v3 H3 p3 e3 => k d M3 v3 H3 p3 (e1.trans (e2.trans e3))⟩⟩⟩
theorem dx_un {op : UnaryOp} {r : D → Mh → PQ → Prop} {a : Expr} {wa : DT} {pos : Pos} (ho : UnR X (unaryOp op) (up1 X.K r)) (ha : Dx X a wa) : Dx X (.UnaryOp op a pos) (eUn r wa) :=
  pe_wk (pe_un ho ha) fun σ H Q ⟨ρ, M, P, er, hr, w, k⟩ =>
    ⟨ρ, M, _, er, hr, w, fun x M1 v H1 p1 e1 d1 h1 => ⟨x, M1, P, d1, h1, p1, fun d M3 v3 H3 p3 e3 => k d M3 v3 H3 p3 (e1.trans e3)⟩⟩
/-- a comparison by values -/
def upC (K : PySem.W.Frag) (r : Cmp) : R2 := fun v u H Q => ∃ x y M P, DR K H x v ∧ DR K H y u ∧ HR K H M ∧ r x y M P ∧ ∀ k, P k → Q (.bl k) H
theorem dx_cmp {op : CmpOp} {r : Cmp} {a b : Expr} {wa wb : DT} {pos : Pos} (ho : OpR X (compareOp op) (upC X.K r)) (ha : Dx X a wa) (hb : Dx X b wb) (hm : behindInMarks op b = false) : Dx X (.Compare a [op] [b] pos) (eCmp r wa wb) :=
  pe_wk (pe_cmpR ho ha hb hm) fun σ H Q ⟨ρ, M, P, er, hr, w, k⟩ =>
    ⟨ρ, M, _, er, hr, w, fun x M1 v H1 p1 e1 d1 h1 => ⟨ρ, M1, _, er.mono e1, h1, p1, fun y M2 u H2 p2 e2 d2 h2 => ⟨x, y, M2, _, d1.mono e2, d2, h2, p2, fun c p3 => k _ M2 _ H2 p3 (e1.trans e2) (.bl c) h2⟩⟩⟩
theorem dt_cmp {op : CmpOp} {r : Cmp} {a b : Expr} {wa wb : DT} {pos : Pos} (ho : OpR X (compareOp op) (upC X.K r)) (ha : Dx X a wa) (hb : Dx X b wb) (hm : behindInMarks op b = false) : Dt X (.Compare a [op] [b] pos) (bCmp r wa wb) :=
  pt_wk (pt_cmpR ho ha hb hm) fun σ H Q ⟨ρ, M, P, er, hr, w, k⟩ =>
    ⟨ρ, M, _, er, hr, w, fun x M1 v H1 p1 e1 d1 h1 => ⟨ρ, M1, _, er.mono e1, h1, p1, fun y M2 u H2 p2 e2 d2 h2 => ⟨x, y, M2, _, d1.mono e2, d2, h2, p2, fun c p3 => ⟨c, rfl, k _ M2 H2 p3 (e1.trans e2) h2⟩⟩⟩⟩
theorem DRs.isEmpty {K : PySem.W.Frag} {H : Hp} : ∀ {ds : List D} {vs : List V}, DRs K H ds vs → ds.isEmpty = vs.isEmpty
  | _, _, .nil => rfl
  | _, _, .cons _ _ => rfl
/-- truth by values -/
theorem tru_of {K : PySem.W.Frag} {H : Hp} {x : D} {v : V} {M : Mh} {P : Bool → Prop} (d : DR K H x v) (h : HR K H M) (t : truD x M P) : ∃ k, TruV K v H k ∧ P k := by
  cases d with
  | non => exact ⟨false, rfl, t⟩
  | bl b => exact ⟨b, rfl, t⟩
  | int i => exact ⟨_, rfl, t⟩
  | str z => exact ⟨_, ⟨t.1, rfl⟩, t.2⟩
  | tup s r => exact ⟨_, .inr (.inl ⟨_, SqT.of s, rfl⟩), by rw [← r.isEmpty]; exact t⟩
  | ktp s r => exact ⟨_, .inr (.inl ⟨_, s.t, rfl⟩), by rw [← r.isEmpty]; exact t⟩
  | rol s r => exact ⟨_, .inl ⟨_, s.seq, rfl⟩, by rw [← r.isEmpty]; exact t⟩
  | ref a =>
    have t : (match M a with | some (.lst ds) => P (!ds.isEmpty) | _ => False) := t
    cases e : M a with
    | none => rw [e] at t; exact False.elim t
    | some o =>
      rw [e] at t
      cases o with
      | lst ds =>
        obtain ⟨vs, q, r⟩ := h a _ e
        exact ⟨_, .inl ⟨_, SqL.of q, rfl⟩, by rw [← r.isEmpty]; exact t⟩
      | _ => exact False.elim t
theorem dt_tru {a : Expr} {wa : DT} (ha : Dx X a wa) (he : ∀ whole, isTrue a X.env whole = (do let v ← whole; standAt a.pos; holding [v] (truthy v))) : Dt X a (bTru wa) :=
  pt_wk (pt_truth ha he) fun σ H Q ⟨ρ, M, P, er, hr, w, k⟩ =>
    ⟨ρ, M, _, er, hr, w, fun x M1 v H1 p1 e1 d1 h1 => let ⟨c, t, p⟩ := tru_of d1 h1 p1; ⟨c, t, k c M1 H1 p e1 h1⟩⟩
theorem dt_not {a : Expr} {wa : DB} {pos : Pos} (ha : Dt X a wa) : Dt X (.UnaryOp .Not a pos) (bNot wa) :=
  pt_wk (pt_not ha) fun σ H Q ⟨ρ, M, P, er, hr, w, k⟩ => ⟨ρ, M, _, er, hr, w, fun b M1 H1 p1 e1 h1 => k _ M1 H1 p1 e1 h1⟩
/-- a row of tests -/
abbrev Dw (X : Cx) (e : Expr) (w : DB) : Prop := PW X e (upB X.K w)
theorem pw_wk {e : Expr} {t t' : TT} (h : PW X e t) (k : ∀ σ H Q, t' σ H Q → t σ H Q) : PW X e t' := ⟨fun whole pins s σ H Q I q => h.run whole pins s σ H Q I (k σ H Q q)⟩
theorem dw_and {a b : Expr} {rest : List Expr} {wa wb : DB} {pos : Pos} (ha : Dt X a wa) (hb : Dw X (.BoolOp .And (b :: rest) pos) wb) : Dw X (.BoolOp .And (a :: b :: rest) pos) (bAnd wa wb) :=
  pw_wk (pw_and ha hb) fun σ H Q ⟨ρ, M, P, er, hr, w, k⟩ => ⟨ρ, M, _, er, hr, w, fun b M1 H1 p1 e1 h1 => by
    cases b with
    | true => exact ⟨ρ, M1, P, er.mono e1, h1, p1, fun c M2 H2 p2 e2 h2 => k c M2 H2 p2 (e1.trans e2) h2⟩
    | false => exact k _ M1 H1 p1 e1 h1⟩
theorem dw_or {a b : Expr} {rest : List Expr} {wa wb : DB} {pos : Pos} (ha : Dt X a wa) (hb : Dw X (.BoolOp .Or (b :: rest) pos) wb) : Dw X (.BoolOp .Or (a :: b :: rest) pos) (bOr wa wb) :=
  pw_wk (pw_or ha hb) fun σ H Q ⟨ρ, M, P, er, hr, w, k⟩ => ⟨ρ, M, _, er, hr, w, fun b M1 H1 p1 e1 h1 => by
    cases b with
    | false => exact ⟨ρ, M1, P, er.mono e1, h1, p1, fun c M2 H2 p2 e2 h2 => k c M2 H2 p2 (e1.trans e2) h2⟩
    | true => exact k _ M1 H1 p1 e1 h1⟩
theorem dx_not {a : Expr} {wa : DT} {pos : Pos} (ha : Dx X a wa) : Dx X (.UnaryOp .Not a pos) (eNot wa) :=
  pe_wk (pe_notT ha) fun σ H Q ⟨ρ, M, P, er, hr, w, k⟩ => ⟨ρ, M, _, er, hr, w, fun x M1 v H1 p1 e1 d1 h1 => let ⟨c, t, p⟩ := tru_of d1 h1 p1; ⟨c, t, k _ M1 _ H1 p e1 (.bl _) h1⟩⟩
theorem dx_and {a b : Expr} {rest : List Expr} {wa wb : DT} {pos : Pos} (ha : Dx X a wa) (hb : Dx X (.BoolOp .And (b :: rest) pos) wb) : Dx X (.BoolOp .And (a :: b :: rest) pos) (eAnd wa wb) :=
  pe_wk (pe_andT ha hb) fun σ H Q ⟨ρ, M, P, er, hr, w, k⟩ => ⟨ρ, M, _, er, hr, w, fun x M1 v H1 p1 e1 d1 h1 => by
    obtain ⟨c, t, p⟩ := tru_of d1 h1 p1
    refine ⟨c, t, ?_⟩
    cases c with
    | true => exact ⟨ρ, M1, P, er.mono e1, h1, p, fun d M2 v2 H2 p2 e2 => k d M2 v2 H2 p2 (e1.trans e2)⟩
    | false => exact k _ M1 _ H1 p e1 d1 h1⟩
theorem dx_or {a b : Expr} {rest : List Expr} {wa wb : DT} {pos : Pos} (ha : Dx X a wa) (hb : Dx X (.BoolOp .Or (b :: rest) pos) wb) : Dx X (.BoolOp .Or (a :: b :: rest) pos) (eOr wa wb) :=
  pe_wk (pe_orT ha hb) fun σ H Q ⟨ρ, M, P, er, hr, w, k⟩ => ⟨ρ, M, _, er, hr, w, fun x M1 v H1 p1 e1 d1 h1 => by
    obtain ⟨c, t, p⟩ := tru_of d1 h1 p1
    refine ⟨c, t, ?_⟩
    cases c with
    | false => exact ⟨ρ, M1, P, er.mono e1, h1, p, fun d M2 v2 H2 p2 e2 => k d M2 v2 H2 p2 (e1.trans e2)⟩
    | true => exact k _ M1 _ H1 p e1 d1 h1⟩
theorem dx_if {c a b : Expr} {wc : DB} {wa wb : DT} {pos : Pos} (hc : Dt X c wc) (ha : Dx X a wa) (hb : Dx X b wb) : Dx X (.IfExp c a b pos) (eIf wc wa wb) :=
  pe_wk (pe_ifExp hc ha hb) fun σ H Q ⟨ρ, M, P, er, hr, w, k⟩ => ⟨ρ, M, _, er, hr, w, fun c M1 H1 p1 e1 h1 => by
    cases c with
    | true => exact ⟨ρ, M1, P, er.mono e1, h1, p1, fun d M2 v2 H2 p2 e2 => k d M2 v2 H2 p2 (e1.trans e2)⟩
    | false => exact ⟨ρ, M1, P, er.mono e1, h1, p1, fun d M2 v2 H2 p2 e2 => k d M2 v2 H2 p2 (e1.trans e2)⟩⟩
theorem da_nil : Da X [] aNil := pa_wk pa_nil fun σ H Q ⟨ρ, M, P, er, hr, w, k⟩ => k [] M [] H w (.refl _ _) .nil hr
theorem da_cons {e : Expr} {es : List Expr} {wa : DT} {wr : DA} (ha : Dx X e wa) (hr : Da X es wr) (hs : starEach (e :: es) X.env = (false, eval e X.env) :: starEach es X.env) : Da X (e :: es) (aCons wa wr) :=
  pa_wk (pa_cons ha hr hs) fun σ H Q ⟨ρ, M, P, er, hr, w, k⟩ => ⟨ρ, M, _, er, hr, w, fun x M1 v H1 p1 e1 d1 h1 => ⟨ρ, M1, _, er.mono e1, h1, p1, fun xs M2 vs H2 p2 e2 d2 h2 => k _ M2 _ H2 p2 (e1.trans e2) (.cons (d1.mono e2) d2) h2⟩⟩
theorem dx_tup {es : List Expr} {wa : DA} {n : Nat} {pos : Pos} (ha : Da X es wa) : Dx X (.Tuple es n pos) (eTup wa) :=
  pe_wk (pe_tup ha) fun σ H Q ⟨ρ, M, P, er, hr, w, k⟩ => ⟨ρ, M, _, er, hr, w, fun xs M1 vs H1 p1 e1 d1 h1 => ⟨by rw [← d1.length]; exact p1.1, fun p np =>
    k _ M1 _ _ p1.2 (e1.trans (.fresh np)) (.tup upd_same (d1.mono (.fresh np))) (h1.fresh np)⟩⟩
theorem dx_lst {es : List Expr} {wa : DA} {pos : Pos} (ha : Da X es wa) : Dx X (.List es pos) (eLst wa) :=
  pe_wk (pe_lst ha) fun σ H Q ⟨ρ, M, P, er, hr, w, k⟩ => ⟨ρ, M, _, er, hr, w, fun xs M1 vs H1 p1 e1 d1 h1 => ⟨by rw [← d1.length]; exact p1.1, fun p np =>
    k _ _ _ _ (p1.2 p (h1.free np)) (e1.trans (.fresh np)) (.ref p) (h1.new np d1)⟩⟩
end
end DL
/-! DLk: dicts of the data layer. -/
namespace DL
open PySem PySem.Spec L2
open PyProof.Rows hiding St

section
variable {κ : Type} [DecidableEq κ]
def valD (kvs : List (κ × D)) (k : κ) : Option D := (kvs.find? fun kv => decide (kv.1 = k)).map (·.2)
def putD (kvs : List (κ × D)) (k : κ) (d : D) : List (κ × D) :=
  if (kvs.any fun kv => decide (kv.1 = k)) = true then kvs.map (fun kv => if kv.1 = k then (kv.1, d) else kv) else kvs ++ [(k, d)]
theorem valD_nil {k : κ} : valD ([] : List (κ × D)) k = none := rfl
theorem valD_pos {p : κ × D} {r : List (κ × D)} {k : κ} (e : p.1 = k) : valD (p :: r) k = some p.2 := by simp [valD, List.find?_cons, e]
theorem valD_neg {p : κ × D} {r : List (κ × D)} {k : κ} (e : ¬ p.1 = k) : valD (p :: r) k = valD r k := by simp [valD, List.find?_cons, e]
theorem valD_any (k : κ) : ∀ kvs : List (κ × D), (kvs.any fun kv => decide (kv.1 = k)) = (valD kvs k).isSome
  | [] => rfl
  | p :: r => by
    rw [List.any_cons]
    by_cases e : p.1 = k
    · simp only [valD_pos e, decide_eq_true e, Bool.true_or, Option.isSome_some]
    · rw [valD_neg e, decide_eq_false e, Bool.false_or]; exact valD_any k r
theorem putD_new {kvs : List (κ × D)} {k : κ} (d : D) (h : valD kvs k = none) : putD kvs k d = kvs ++ [(k, d)] := by
  unfold putD
  rw [valD_any, h]
  exact if_neg (by decide)
theorem putD_len (kvs : List (κ × D)) (k : κ) (d : D) : (putD kvs k d).length ≤ kvs.length + 1 := by
  unfold putD
  split
  · rw [List.length_map]; omega
  · rw [List.length_append, List.length_cons, List.length_nil]; omega
/-- the keys behind a put -/
theorem putD_keys (kvs : List (κ × D)) (k : κ) (d : D) : (putD kvs k d).map (·.1) = if k ∈ kvs.map (·.1) then kvs.map (·.1) else kvs.map (·.1) ++ [k] := by
  unfold putD
  have e : (kvs.any fun kv => decide (kv.1 = k)) = true ↔ k ∈ kvs.map (·.1) := by
    simp only [List.any_eq_true, decide_eq_true_eq, List.mem_map]
  by_cases h : k ∈ kvs.map (·.1)
  · rw [if_pos (e.mpr h), if_pos h, List.map_map]
    apply List.map_congr_left
    intro kv _
    show (if kv.1 = k then (kv.1, d) else kv).1 = kv.1
    split <;> rfl
  · rw [if_neg (fun z => h (e.mp z)), if_neg h, List.map_append]; rfl
theorem valD_mem {kvs : List (κ × D)} {k : κ} : (valD kvs k).isSome = decide (k ∈ kvs.map (·.1)) := by
  rw [← valD_any, Bool.eq_iff_iff]
  simp only [List.any_eq_true, decide_eq_true_eq, List.mem_map]
variable {K : PySem.W.Frag} {H : Hp}
theorem DKs.val {kvs : List (κ × D)} {ws : List (κ × V)} (h : DKs K H kvs ws) (k : κ) : (∀ d, valD kvs k = some d → ∃ v, valV ws k = some v ∧ DR K H d v) ∧ (valD kvs k).isSome = (valV ws k).isSome := by
  induction h with
  | nil => exact ⟨fun d e => (nomatch e), rfl⟩
  | @cons p q ps qs h _ ih =>
    by_cases e : p.1 = k
    · have e' : q.1 = k := h.1.symm.trans e
      rw [valD_pos e, valV_pos e']
      refine ⟨fun d z => ?_, rfl⟩
      cases z
      exact ⟨_, rfl, h.2⟩
    · have e' : ¬ q.1 = k := fun z => e (h.1.trans z)
      rw [valD_neg e, valV_neg e']
      exact ih
theorem DKs.any {kvs : List (κ × D)} {ws : List (κ × V)} (h : DKs K H kvs ws) (k : κ) : (kvs.any fun kv => decide (kv.1 = k)) = ws.any fun kv => decide (kv.1 = k) := by
  induction h with
  | nil => rfl
  | cons h _ ih => rw [List.any_cons, List.any_cons, ih, h.1]
theorem DKs.repl {kvs : List (κ × D)} {ws : List (κ × V)} (h : DKs K H kvs ws) (k : κ) {d : D} {v : V} (r : DR K H d v) : DKs K H (kvs.map fun kv => if kv.1 = k then (kv.1, d) else kv) (ws.map fun kv => if kv.1 = k then (kv.1, v) else kv) := by
  induction h with
  | nil => exact .nil
  | @cons p q ps qs h _ ih =>
    rw [List.map_cons, List.map_cons]
    refine .cons ?_ ih
    by_cases e : p.1 = k
    · rw [if_pos e, if_pos (h.1.symm.trans e)]; exact ⟨h.1, r⟩
    · rw [if_neg e, if_neg (fun z => e (h.1.trans z))]; exact h
theorem DKs.put {kvs : List (κ × D)} {ws : List (κ × V)} (h : DKs K H kvs ws) (k : κ) {d : D} {v : V} (r : DR K H d v) : DKs K H (putD kvs k d) (putK ws k v) := by
  unfold putD putK
  rw [h.any k]
  split
  · exact h.repl k r
  · exact Paired.snoc h ⟨rfl, r⟩
theorem DKs.length {kvs : List (κ × D)} {ws : List (κ × V)} (h : DKs K H kvs ws) : kvs.length = ws.length := Paired.length h
theorem DKs.keys {kvs : List (κ × D)} {ws : List (κ × V)} (h : DKs K H kvs ws) : kvs.map (·.1) = ws.map (·.1) := by
  induction h with
  | nil => rfl
  | cons h _ ih => rw [List.map_cons, List.map_cons, ih, h.1]
end

/-! ### keys -/
def keyD : D → Option Key
  | .int i => some (.inl i)
  | .str s => some (.inr s)
  | _ => none
def keysL : List D → Option (List Key)
  | [] => some []
  | d :: r => match keyD d, keysL r with
    | some k, some ks => some (k :: ks)
    | _, _ => none
def keysD : D → Option (List Key)
  | .tup ds => keysL ds
  | _ => none
def kD : Key → D
  | .inl i => .int i
  | .inr s => .str s
section
variable {K : PySem.W.Frag} {H : Hp}
theorem key_rel {d : D} {v : V} {k : Key} (r : DR K H d v) (e : keyD d = some k) : v = kV k := by
  cases r <;> cases e <;> rfl
theorem keys_rel : ∀ {ds : List D} {vs : List V} {ks : List Key}, DRs K H ds vs → keysL ds = some ks → vs = ks.map kV
  | _, _, _, .nil, e => by cases e; rfl
  | _, _, _, .cons (d := d) (ds := ds) h r, e => by
    have e : (match keyD d, keysL ds with | some k, some ks => some (k :: ks) | _, _ => none) = some _ := e
    cases e1 : keyD d with
    | none => rw [e1] at e; cases e
    | some k =>
      cases e2 : keysL ds with
      | none => rw [e1, e2] at e; cases e
      | some ks =>
        rw [e1, e2] at e
        cases e
        rw [key_rel h e1, keys_rel r e2]; rfl
theorem keyT_rel {d : D} {v : V} {ks : List Key} (r : DR K H d v) (e : keysD d = some ks) : ∃ b, v = .ref b ∧ H b = some (.tup (ks.map kV)) := by
  cases r with
  | tup s q => exact ⟨_, rfl, by rw [s, keys_rel q e]⟩
  | _ => cases e
end
def dGet (o : MO) (y : D) : Option (Option D) := match o with
  | .dk kvs => (keyD y).map (valD kvs)
  | .dt kvs => (keysD y).map (valD kvs)
  | _ => none
def dSize : MO → Nat
  | .lst ds => ds.length
  | .dk kvs => kvs.length
  | .dt kvs => kvs.length
def dPut (o : MO) (y d : D) : Option MO := match o with
  | .dk kvs => (keyD y).map fun k => .dk (putD kvs k d)
  | .dt kvs => (keysD y).map fun k => .dt (putD kvs k d)
  | _ => none
/-- the dict that x is -/
def dictD (x : D) (M : Mh) : Option MO := match x with
  | .ref a => match M a with
    | some (.dk kvs) => some (.dk kvs)
    | some (.dt kvs) => some (.dt kvs)
    | _ => none
  | _ => none
/-- its keys in order -/
def dKeys : MO → List D
  | .dk kvs => kvs.map fun kv => kD kv.1
  | .dt kvs => kvs.map fun kv => .tup (kv.1.map kD)
  | _ => []
section
variable {K : PySem.W.Frag} {H : Hp} {M : Mh}
theorem dict_of {x : D} {o : MO} (e : dictD x M = some o) : ∃ a, x = .ref a ∧ M a = some o ∧ ((∃ kvs, o = .dk kvs) ∨ ∃ kvs, o = .dt kvs) := by
  cases x with
  | ref a =>
    have e : (match M a with | some (.dk kvs) => some (MO.dk kvs) | some (.dt kvs) => some (.dt kvs) | _ => none) = some o := e
    refine ⟨a, rfl, ?_⟩
    cases q : M a with
    | none => rw [q] at e; cases e
    | some u =>
      rw [q] at e
      cases u with
      | lst _ => cases e
      | dk kvs => cases e; exact ⟨rfl, .inl ⟨_, rfl⟩⟩
      | dt kvs => cases e; exact ⟨rfl, .inr ⟨_, rfl⟩⟩
  | _ => cases e
theorem dget_of {x y : D} {o : MO} {r : Option D} {v u : V} (hr : HR K H M) (dx : DR K H x v) (dy : DR K H y u) (e : dictD x M = some o) (g : dGet o y = some r) :
    ∃ a r', v = .ref a ∧ DGet H a u r' ∧ r.isSome = r'.isSome ∧ ∀ d, r = some d → ∃ w, r' = some w ∧ DR K H d w := by
  obtain ⟨a, rfl, e1, ⟨kvs, rfl⟩ | ⟨kvs, rfl⟩⟩ := dict_of e
  · obtain ⟨ws, q, p⟩ := hr _ _ e1
    obtain ⟨k, e2, rfl⟩ := Option.map_eq_some_iff.mp g
    cases dx
    obtain rfl := key_rel dy e2
    exact ⟨a, _, rfl, DGet.k q, (p.val k).2, (p.val k).1⟩
  · obtain ⟨ws, q, p⟩ := hr _ _ e1
    obtain ⟨k, e2, rfl⟩ := Option.map_eq_some_iff.mp g
    cases dx
    obtain ⟨b, rfl, hb⟩ := keyT_rel dy e2
    exact ⟨a, _, rfl, DGet.t q hb, (p.val k).2, (p.val k).1⟩
theorem dput_of {x y d : D} {o o' : MO} {v u z : V} (hr : HR K H M) (dx : DR K H x v) (dy : DR K H y u) (dz : DR K H d z) (e : dictD x M = some o) (g : dPut o y d = some o') (l : dSize o < sizeLine) :
    ∃ a H', x = .ref a ∧ v = .ref a ∧ DPut H a u z H' ∧ Ext K H H' ∧ HR K H' (mup M a o') := by
  obtain ⟨a, rfl, e1, ⟨kvs, rfl⟩ | ⟨kvs, rfl⟩⟩ := dict_of e
  · obtain ⟨ws, q, p⟩ := hr _ _ e1
    obtain ⟨k, e2, rfl⟩ := Option.map_eq_some_iff.mp g
    cases dx
    obtain rfl := key_rel dy e2
    have x1 : Ext K H (upd H a (.dK (putK ws k z))) := .isM q trivial
    exact ⟨a, _, rfl, rfl, DPut.k q (by rw [← p.length]; exact l), x1, hr.put x1 ⟨_, upd_same, (p.put k dz).mono x1⟩⟩
  · obtain ⟨ws, q, p⟩ := hr _ _ e1
    obtain ⟨k, e2, rfl⟩ := Option.map_eq_some_iff.mp g
    cases dx
    obtain ⟨b, rfl, hb⟩ := keyT_rel dy e2
    have x1 : Ext K H (upd H a (.dT (putK ws k z))) := .isM q trivial
    exact ⟨a, _, rfl, rfl, DPut.t q hb (by rw [← p.length]; exact l), x1, hr.put x1 ⟨_, upd_same, (p.put k dz).mono x1⟩⟩
end

/-! ### {} -/
/-- a new dict: the proof says which keys it is for -/
def eDct : DT := fun _ M P => (∀ p, M p = none → P (.ref p) (mup M p (.dk []))) ∨ ∀ p, M p = none → P (.ref p) (mup M p (.dt []))
theorem dx_dct {X : Cx} {pos : Pos} : Dx X (.Dict [] [] pos) eDct :=
  ⟨fun pins s σ H Q I ⟨ρ, M, P, er, hr, w, k⟩ => by
    rcases w with w | w
    · exact pe_dnewK.run pins s σ H Q I fun p np => k _ _ _ _ (w p (hr.free np)) (.fresh np) (.ref p) (hr.put (.fresh np) ⟨[], upd_same, .nil⟩)
    · exact pe_dnewT.run pins s σ H Q I fun p np => k _ _ _ _ (w p (hr.free np)) (.fresh np) (.ref p) (hr.put (.fresh np) ⟨[], upd_same, .nil⟩)⟩
/-- {k: v} -/
def eD1 (a b : DT) : DT := fun ρ M P => ∀ p, M p = none → a ρ (mup M p (.dk [])) fun x M1 => b ρ M1 fun y M2 => M2 p = some (.dk []) ∧ match keyD x with
  | some k => P (.ref p) (mup M2 p (.dk [(k, y)]))
  | none => False
theorem dx_d1 {X : Cx} {e f : Expr} {wa wb : DT} {pos : Pos} (he : Dx X e wa) (hf : Dx X f wb) : Dx X (.Dict [some e] [f] pos) (eD1 wa wb) :=
  pe_wk (pe_disp (pps_cons he hf pps_nil) rfl rfl (by simp) (Nat.le_of_ble_eq_true rfl)) fun σ H Q ⟨ρ, M, P, er, hr, w, k⟩ => fun p np =>
    ⟨ρ, mup M p (.dk []), _, er.mono (.fresh np), hr.put (.fresh np) ⟨[], upd_same, .nil⟩, w p (hr.free np), fun x M1 v H1 p1 e1 d1 h1 =>
      ⟨ρ, M1, _, er.mono ((Ext.fresh np).trans e1), h1, p1, fun y M2 u H2 p2 e2 d2 h2 => by
        obtain ⟨q1, q2⟩ := p2
        obtain ⟨ws, hp, q⟩ := h2 _ _ q1
        cases q
        refine ⟨hp, ?_⟩
        split at q2
        · rename_i kk ek
          have hv := key_rel (d1.mono e2) ek
          have x1 : Ext X.K H2 (upd H2 p (.dK [(kk, u)])) := .isM hp trivial
          refine ⟨[(kk, u)], by rw [hv]; rfl, Nat.le_of_ble_eq_true rfl, ?_⟩
          exact k _ _ _ _ q2 (((Ext.fresh np).trans e1).trans (e2.trans x1)) (.ref p) (h2.put x1 ⟨_, upd_same, .cons ⟨rfl, d2.mono x1⟩ .nil⟩)
        · exact q2.elim⟩⟩
end DL
/-! DLc: operations of the data layer by values. -/
namespace DL
open PySem PySem.Spec L2
open PyProof.Rows hiding St

/-- the items of a list or tuple -/
def itemsD (x : D) (M : Mh) : Option (List D) := match x with
  | .tup ds => some ds
  | .ktp ds => some ds
  | .rol ds => some ds
  | .ref a => match M a with
    | some (.lst ds) => some ds
    | _ => none
  | _ => none
theorem items_of {K : PySem.W.Frag} {H : Hp} {x : D} {v : V} {M : Mh} {ds : List D} (d : DR K H x v) (h : HR K H M) (e : itemsD x M = some ds) : ∃ p vs, v = .ref p ∧ (SqL K H p vs ∨ SqT K H p vs) ∧ DRs K H ds vs := by
  cases d with
  | tup s r => cases e; exact ⟨_, _, rfl, .inr (SqT.of s), r⟩
  | ktp s r => cases e; exact ⟨_, _, rfl, .inr s.t, r⟩
  | rol s r => cases e; exact ⟨_, _, rfl, .inl s.seq, r⟩
  | ref a =>
    have e : (match M a with | some (.lst ds) => some ds | _ => none) = some ds := e
    cases q : M a with
    | none => rw [q] at e; cases e
    | some o =>
      rw [q] at e
      cases o with
      | lst es =>
        cases e
        obtain ⟨vs, q, r⟩ := h a _ q
        exact ⟨_, _, rfl, .inl (SqL.of q), r⟩
      | _ => cases e
  | _ => cases e

/-- the items of a list -/
def litemsD (x : D) (M : Mh) : Option (List D) := match x with
  | .rol ds => some ds
  | .ref a => match M a with
    | some (.lst ds) => some ds
    | _ => none
  | _ => none
theorem litems_of {K : PySem.W.Frag} {H : Hp} {x : D} {v : V} {M : Mh} {ds : List D} (d : DR K H x v) (h : HR K H M) (e : litemsD x M = some ds) : ∃ p vs, v = .ref p ∧ SqL K H p vs ∧ DRs K H ds vs := by
  cases d with
  | rol s r => cases e; exact ⟨_, _, rfl, s.seq, r⟩
  | ref a =>
    have e : (match M a with | some (.lst ds) => some ds | _ => none) = some ds := e
    cases q : M a with
    | none => rw [q] at e; cases e
    | some o =>
      rw [q] at e
      cases o with
      | lst es =>
        cases e
        obtain ⟨vs, q, r⟩ := h a _ q
        exact ⟨_, _, rfl, SqL.of q, r⟩
      | _ => cases e
  | _ => cases e
/-! ### arithmetic -/
def addD : D → D → Mh → PQ → Prop
  | .int i, .int j, M, P => P (.int (i + j)) M
  | .str a, .str b, M, P => a.length + b.length ≤ sizeLine ∧ P (.str (a ++ b)) M
  | .tup xs, .tup ys, M, P => xs.length + ys.length ≤ sizeLine ∧ P (.tup (xs ++ ys)) M
  | .ktp xs, .tup ys, M, P => xs ≠ [] ∧ ys ≠ [] ∧ xs.length + ys.length ≤ sizeLine ∧ P (.tup (xs ++ ys)) M
  | .tup xs, .ktp ys, M, P => xs ≠ [] ∧ ys ≠ [] ∧ xs.length + ys.length ≤ sizeLine ∧ P (.tup (xs ++ ys)) M
  | .ktp xs, .ktp ys, M, P => xs ≠ [] ∧ ys ≠ [] ∧ xs.length + ys.length ≤ sizeLine ∧ P (.tup (xs ++ ys)) M
  | .ref a, .ref b, M, P => ∃ xs ys, M a = some (.lst xs) ∧ M b = some (.lst ys) ∧ xs.length + ys.length ≤ sizeLine ∧ ∀ p, M p = none → P (.ref p) (mup M p (.lst (xs ++ ys)))
  | _, _, _, _ => False
def subD : D → D → Mh → PQ → Prop
  | .int i, .int j, M, P => P (.int (i - j)) M
  | _, _, _, _ => False
def mulD : D → D → Mh → PQ → Prop
  | .int i, .int j, M, P => CMul i j ∧ P (.int (i * j)) M
  | .str a, .int j, M, P => (0 ≤ j ∧ j ≤ 1) ∧ P (.str (if j = 1 then a else Str.empty)) M
  | _, _, _, _ => False
def divD : D → D → Mh → PQ → Prop
  | .int i, .int j, M, P => (0 < j ∧ j < 1073741824) ∧ P (.int (i / j)) M
  | _, _, _, _ => False
def modD : D → D → Mh → PQ → Prop
  | .int i, .int j, M, P => 0 < j ∧ P (.int (i % j)) M
  | _, _, _, _ => False
def powD : D → D → Mh → PQ → Prop
  | .int i, .int j, M, P => CPow i j ∧ P (.int (i ^ j.toNat)) M
  | _, _, _, _ => False
def negD : D → Mh → PQ → Prop
  | .int i, M, P => P (.int (-i)) M
  | _, _, _ => False

section
variable {X : Cx}
theorem od_sub : OpR X (binaryOp .Sub) (up2 X.K subD) := by
  rintro pins s σ H v u a b Q I ra rb ⟨x, y, M, P, dx, dy, hr, w, k⟩
  cases dx <;> cases dy <;> first | exact False.elim w | skip
  exact op_sub pins s σ H _ _ a b Q I ra rb ⟨_, _, rfl, rfl, k _ _ _ _ w (.refl _ _) (.int _) hr⟩
theorem iod_sub : OpR X (inplaceOp .Sub) (up2 X.K subD) := by
  rintro pins s σ H v u a b Q I ra rb ⟨x, y, M, P, dx, dy, hr, w, k⟩
  cases dx <;> cases dy <;> first | exact False.elim w | skip
  exact iop_sub pins s σ H _ _ a b Q I ra rb ⟨_, _, rfl, rfl, k _ _ _ _ w (.refl _ _) (.int _) hr⟩
theorem od_div : OpR X (binaryOp .FloorDiv) (up2 X.K divD) := by
  rintro pins s σ H v u a b Q I ra rb ⟨x, y, M, P, dx, dy, hr, w, k⟩
  cases dx <;> cases dy <;> first | exact False.elim w | skip
  exact op_fdiv pins s σ H _ _ a b Q I ra rb ⟨_, _, rfl, rfl, w.1, k _ _ _ _ w.2 (.refl _ _) (.int _) hr⟩
theorem od_mod : OpR X (binaryOp .Mod) (up2 X.K modD) := by
  rintro pins s σ H v u a b Q I ra rb ⟨x, y, M, P, dx, dy, hr, w, k⟩
  cases dx <;> cases dy <;> first | exact False.elim w | skip
  exact op_mod pins s σ H _ _ a b Q I ra rb ⟨_, _, rfl, rfl, w.1, k _ _ _ _ w.2 (.refl _ _) (.int _) hr⟩
theorem od_pow : OpR X (binaryOp .Pow) (up2 X.K powD) := by
  rintro pins s σ H v u a b Q I ra rb ⟨x, y, M, P, dx, dy, hr, w, k⟩
  cases dx <;> cases dy <;> first | exact False.elim w | skip
  exact op_pow pins s σ H _ _ a b Q I ra rb ⟨_, _, rfl, rfl, w.1, k _ _ _ _ w.2 (.refl _ _) (.int _) hr⟩
theorem ud_neg : UnR X (unaryOp .USub) (up1 X.K negD) := by
  rintro pins s σ H v a Q I ra ⟨x, M, P, dx, hr, w, k⟩
  cases dx <;> first | exact False.elim w | skip
  exact un_neg pins s σ H _ a Q I ra ⟨_, rfl, k _ _ _ _ w (.refl _ _) (.int _) hr⟩
theorem od_mul : OpR X (binaryOp .Mult) (up2 X.K mulD) := by
  rintro pins s σ H v u a b Q I ra rb ⟨x, y, M, P, dx, dy, hr, w, k⟩
  cases dx <;> cases dy <;> first | exact False.elim w | skip
  · exact op_mul pins s σ H _ _ a b Q I ra rb ⟨_, _, rfl, rfl, w.1, k _ _ _ _ w.2 (.refl _ _) (.int _) hr⟩
  · rename_i z j
    obtain ⟨⟨h0, h1⟩, w⟩ := w
    obtain ⟨t, rfl⟩ := ra
    obtain ⟨t', rfl⟩ := rb
    have hj : j = 0 ∨ j = 1 := by omega
    rcases hj with rfl | rfl
    · exact PySem.P.mul_str_none (by decide) (by decide) ⟨.str _, H, I.tok _, ⟨_, rfl⟩, k _ _ _ _ w (.refl _ _) (.str _) hr⟩
    · refine PySem.P.mul_str (by decide) (fun _ h => ?_) (fun _ h => ?_) ?_
      · simp at h
      · simp at h
      · rw [if_neg (by decide), if_pos (by simp)]
        exact ⟨.str _, H, I, ⟨_, rfl⟩, k _ _ _ _ w (.refl _ _) (.str _) hr⟩
theorem od_add : OpR X (binaryOp .Add) (up2 X.K addD) := by
  rintro pins s σ H v u a b Q I ra rb ⟨x, y, M, P, dx, dy, hr, w, k⟩
  cases dx <;> cases dy <;> first | exact False.elim w | skip
  · exact op_add pins s σ H _ _ a b Q I ra rb ⟨_, _, rfl, rfl, k _ _ _ _ w (.refl _ _) (.int _) hr⟩
  · exact op_add_str pins s σ H _ _ a b Q I ra rb ⟨_, _, rfl, rfl, w.1, k _ _ _ _ w.2 (.refl _ _) (.str _) hr⟩
  · rename_i s1 r1 _ _ _ s2 r2
    obtain ⟨hz, w⟩ := w
    refine op_catA pins s σ H _ _ a b Q I ra rb ⟨_, _, _, _, rfl, rfl, SqT.of s1, SqT.of s2, by rw [← r1.length, ← r2.length]; exact hz, fun e => ?_, fun e1 e2 => ?_, fun e1 e2 p np => ?_⟩
    · subst e
      cases r1
      exact k _ _ _ _ w (.refl _ _) (.tup s2 r2) hr
    · subst e2
      cases r2
      rw [List.append_nil] at w
      exact k _ _ _ _ w (.refl _ _) (.tup s1 r1) hr
    · exact k _ _ _ _ w (.fresh np) (.tup upd_same ((r1.append r2).mono (.fresh np))) (hr.fresh np)
  · rename_i s1 r1 _ _ _ s2 r2
    obtain ⟨n1, n2, hz, w⟩ := w
    exact op_catA pins s σ H _ _ a b Q I ra rb ⟨_, _, _, _, rfl, rfl, SqT.of s1, s2.t, by rw [← r1.length, ← r2.length]; exact hz, fun e => absurd (r1.nil_of e) n1, fun e1 e2 => absurd (r2.nil_of e2) n2, fun e1 e2 p np => k _ _ _ _ w (.fresh np) (.tup upd_same ((r1.append r2).mono (.fresh np))) (hr.fresh np)⟩
  · rename_i s1 r1 _ _ _ s2 r2
    obtain ⟨n1, n2, hz, w⟩ := w
    exact op_catA pins s σ H _ _ a b Q I ra rb ⟨_, _, _, _, rfl, rfl, s1.t, SqT.of s2, by rw [← r1.length, ← r2.length]; exact hz, fun e => absurd (r1.nil_of e) n1, fun e1 e2 => absurd (r2.nil_of e2) n2, fun e1 e2 p np => k _ _ _ _ w (.fresh np) (.tup upd_same ((r1.append r2).mono (.fresh np))) (hr.fresh np)⟩
  · rename_i s1 r1 _ _ _ s2 r2
    obtain ⟨n1, n2, hz, w⟩ := w
    exact op_catA pins s σ H _ _ a b Q I ra rb ⟨_, _, _, _, rfl, rfl, s1.t, s2.t, by rw [← r1.length, ← r2.length]; exact hz, fun e => absurd (r1.nil_of e) n1, fun e1 e2 => absurd (r2.nil_of e2) n2, fun e1 e2 p np => k _ _ _ _ w (.fresh np) (.tup upd_same ((r1.append r2).mono (.fresh np))) (hr.fresh np)⟩
  · obtain ⟨xs, ys, e1, e2, hz, w⟩ := w
    obtain ⟨vs, q1, r1⟩ := hr _ _ e1
    obtain ⟨ws, q2, r2⟩ := hr _ _ e2
    exact op_cat pins s σ H _ _ a b Q I ra rb ⟨_, _, _, _, rfl, rfl, q1, q2, by rw [← r1.length, ← r2.length]; exact hz, fun p np => k _ _ _ _ (w p (hr.free np)) (.fresh np) (.ref p) (hr.new np (r1.append r2))⟩
/-- += : ints and texts -/
def iaddD : D → D → Mh → PQ → Prop
  | .int i, .int j, M, P => P (.int (i + j)) M
  | .str a, .str b, M, P => a.length + b.length ≤ sizeLine ∧ P (.str (a ++ b)) M
  | _, _, _, _ => False
theorem iod_add : OpR X (inplaceOp .Add) (up2 X.K iaddD) := by
  rintro pins s σ H v u a b Q I ra rb ⟨x, y, M, P, dx, dy, hr, w, k⟩
  cases dx <;> cases dy <;> first | exact False.elim w | skip
  · exact iop_add pins s σ H _ _ a b Q I ra rb ⟨_, _, rfl, rfl, k _ _ _ _ w (.refl _ _) (.int _) hr⟩
  · exact iop_add_str pins s σ H _ _ a b Q I ra rb ⟨_, _, rfl, rfl, w.1, k _ _ _ _ w.2 (.refl _ _) (.str _) hr⟩
end

/-! ### equality, membership, order -/
mutual
def pd : D → PyData
  | .non => .none
  | .bl b => .bool b
  | .int i => .int i
  | .str x => .str x
  | .tup ds => .tuple (pds ds)
  | .ktp ds => .tuple (pds ds)
  | .rol ds => .list (pds ds)
  | .ref _ => .dict []
def pds : List D → List PyData
  | [] => []
  | d :: ds => pd d :: pds ds
end
def deq (x y : D) : Bool := PyData.eqv (pd x) (pd y)
def okD (x : D) : Bool := SeqAt.shaped (pd x)
/-- what == of two scalars asks nothing for -/
def scalD : D → D → Bool
  | .non, .non => true | .non, .int _ => true | .int _, .non => true | .non, .bl _ => true | .bl _, .non => true | .non, .str _ => true | .str _, .non => true
  | .int _, .int _ => true | .bl _, .bl _ => true | .str _, .str _ => true
  | .int _, .str _ => true | .str _, .int _ => true | .bl _, .str _ => true | .str _, .bl _ => true
  | _, _ => false
def eqD : Cmp := fun x y M P => ((scalD x y = true ∨ (okD x = true ∧ okD y = true)) ∧ P (deq x y)) ∨
  ∃ xs ys, litemsD x M = some xs ∧ litemsD y M = some ys ∧ (okD (.rol xs) = true ∧ okD (.rol ys) = true) ∧ P (deq (.rol xs) (.rol ys))
def neD : Cmp := fun x y M P => ((scalD x y = true ∨ (okD x = true ∧ okD y = true)) ∧ P (!deq x y)) ∨
  ∃ xs ys, litemsD x M = some xs ∧ litemsD y M = some ys ∧ (okD (.rol xs) = true ∧ okD (.rol ys) = true) ∧ P (!deq (.rol xs) (.rol ys))
def flatD : D → Bool
  | .non => true | .bl _ => true | .int _ => true | .str _ => true
  | _ => false
def memD (x : D) (ys : List D) : Bool := ys.any fun y => deq y x
def strIn (i j : Str) : Bool := !(Builtin.Str.occurrences j i 0 j.length 1).isEmpty
/-- what x in y asks of the items -/
def inOk (x : D) (ys : List D) : Prop := (flatD x = true ∧ ys.all flatD = true) ∨ (okD x = true ∧ okD (.tup ys) = true)
def inD : Cmp := fun x y M P => match dictD y M with
  | some o => match dGet o x with
    | some r => P r.isSome
    | none => False
  | none => match x, y with
    | .str i, .str j => P (strIn i j)
    | x, y => match itemsD y M with
      | some ys => inOk x ys ∧ P (memD x ys)
      | none => False
def ninD : Cmp := fun x y M P => inD x y M fun k => P (!k)
def ltD : Cmp := fun x y _ P => match x, y with
  | .int i, .int j => P (decide (i < j))
  | .str i, .str j => P (decide (i.cps.toList < j.cps.toList))
  | _, _ => False
def leD : Cmp := fun x y _ P => match x, y with
  | .int i, .int j => P (decide (i ≤ j))
  | .str i, .str j => P (!decide (j.cps.toList < i.cps.toList))
  | _, _ => False
def gtD : Cmp := fun x y _ P => match x, y with
  | .int i, .int j => P (decide (j < i))
  | .str i, .str j => P (decide (j.cps.toList < i.cps.toList))
  | _, _ => False
def geD : Cmp := fun x y _ P => match x, y with
  | .int i, .int j => P (decide (j ≤ i))
  | .str i, .str j => P (!decide (i.cps.toList < j.cps.toList))
  | _, _ => False
def isNon : D → Bool
  | .non => true
  | _ => false
def isD : Cmp := fun x y _ P => match y with
  | .non => P (isNon x)
  | _ => False
def isnD : Cmp := fun x y _ P => match y with
  | .non => P (!isNon x)
  | _ => False

section
variable {K : PySem.W.Frag} {H : Hp}
mutual
theorem dp_of : ∀ {x : D} {v : V}, DR K H x v → (pd x).canLay0 = true → Dp K H v (pd x)
  | _, _, .non, _ => .non
  | _, _, .bl b, _ => .bl b
  | _, _, .int i, _ => .int i
  | _, _, .str z, _ => .str z
  | _, _, .tup s r, h => by
    rw [pd] at h ⊢
    exact .tup (SqT.of s) (dps_of r (by simpa [PyData.canLay0] using h))
  | _, _, .ktp s r, h => by
    rw [pd] at h ⊢
    exact .tup s.t (dps_of r (by simpa [PyData.canLay0] using h))
  | _, _, .rol s r, h => by
    rw [pd] at h ⊢
    exact .lst s.seq (dps_of r (by simpa [PyData.canLay0] using h))
  | _, _, .ref a, h => by
    rw [pd] at h
    simp [PyData.canLay0] at h
theorem dps_of : ∀ {xs : List D} {vs : List V}, DRs K H xs vs → PyData.canLayAll0 (pds xs) = true → DpAll K H vs (pds xs)
  | _, _, .nil, _ => .nil
  | _, _, .cons d r, h => by
    rw [pds] at h ⊢
    simp only [PyData.canLayAll0, Bool.and_eq_true] at h
    exact .cons (dp_of d h.1) (dps_of r h.2)
end
theorem flat_eq {x y : D} {v u : V} (dx : DR K H x v) (dy : DR K H y u) (fx : flatD x = true) (fy : flatD y = true) : flatV v = true ∧ flatV u = true ∧ eqV v u = deq x y := by
  cases dx <;> cases dy <;> first | (exact absurd (show false = true from fx) Bool.false_ne_true) | (exact absurd (show false = true from fy) Bool.false_ne_true) | skip
  all_goals (refine ⟨rfl, rfl, ?_⟩; simp [eqV, deq, pd, PyData.eqv])
theorem flats : ∀ {ys : List D} {us : List V} {x : D} {v : V}, DRs K H ys us → DR K H x v → flatD x = true → ys.all flatD = true → us.all flatV = true ∧ inV v us = memD x ys
  | _, _, _, _, .nil, _, _, _ => ⟨rfl, rfl⟩
  | _, _, _, _, .cons d r, dx, fx, fy => by
    rw [List.all_cons, Bool.and_eq_true] at fy
    obtain ⟨h1, h2⟩ := flats r dx fx fy.2
    obtain ⟨h3, _, h4⟩ := flat_eq d dx fy.1 fx
    refine ⟨by rw [List.all_cons, h3, h1]; rfl, ?_⟩
    unfold inV memD at h2 ⊢
    rw [List.any_cons, List.any_cons, h4, h2]
theorem scal_eq {x y : D} {v u : V} (dx : DR K H x v) (dy : DR K H y u) (h : scalD x y = true) : scal v u = true ∧ decide (v = u) = deq x y := by
  cases dx <;> cases dy <;> first | (exact absurd (show false = true from h) Bool.false_ne_true) | skip
  all_goals (refine ⟨rfl, ?_⟩; simp [deq, pd, PyData.eqv] <;> rfl)
end

section
variable {X : Cx}
theorem cd_eq (hu : X.A.units + 64 < cLine) : OpR X (compareOp .Eq) (upC X.K eqD) := by
  rintro pins s σ H v u a b Q I ra rb ⟨x, y, M, P, dx, dy, hr, w, k⟩
  rcases w with ⟨o, w⟩ | ⟨xs, ys, e1, e2, ⟨o1, o2⟩, w⟩
  · rcases o with o | ⟨o1, o2⟩
    · obtain ⟨h1, h2⟩ := scal_eq dx dy o
      exact op_eq pins s σ H _ _ a b Q I ra rb ⟨h1, by rw [h2]; exact k _ w⟩
    · exact op_eqD hu pins s σ H _ _ a b Q I ra rb ⟨_, _, dp_of dx (SeqAt.canLay_of_shaped o1), dp_of dy (SeqAt.canLay_of_shaped o2), o1, o2, k _ w⟩
  · obtain ⟨p, us, rfl, q, r⟩ := litems_of dx hr e1
    obtain ⟨p2, us2, rfl, q2, r2⟩ := litems_of dy hr e2
    exact op_eqD hu pins s σ H _ _ a b Q I ra rb ⟨_, _, .lst q (dps_of r (SeqAt.canLay_of_shaped (d := .list (pds xs)) o1)), .lst q2 (dps_of r2 (SeqAt.canLay_of_shaped (d := .list (pds ys)) o2)), o1, o2, k _ w⟩
theorem cd_ne (hu : X.A.units + 64 < cLine) : OpR X (compareOp .NotEq) (upC X.K neD) := by
  rintro pins s σ H v u a b Q I ra rb ⟨x, y, M, P, dx, dy, hr, w, k⟩
  rcases w with ⟨o, w⟩ | ⟨xs, ys, e1, e2, ⟨o1, o2⟩, w⟩
  · rcases o with o | ⟨o1, o2⟩
    · obtain ⟨h1, h2⟩ := scal_eq dx dy o
      exact op_ne pins s σ H _ _ a b Q I ra rb ⟨h1, by rw [h2]; exact k _ w⟩
    · exact op_neD hu pins s σ H _ _ a b Q I ra rb ⟨_, _, dp_of dx (SeqAt.canLay_of_shaped o1), dp_of dy (SeqAt.canLay_of_shaped o2), o1, o2, k _ w⟩
  · obtain ⟨p, us, rfl, q, r⟩ := litems_of dx hr e1
    obtain ⟨p2, us2, rfl, q2, r2⟩ := litems_of dy hr e2
    exact op_neD hu pins s σ H _ _ a b Q I ra rb ⟨_, _, .lst q (dps_of r (SeqAt.canLay_of_shaped (d := .list (pds xs)) o1)), .lst q2 (dps_of r2 (SeqAt.canLay_of_shaped (d := .list (pds ys)) o2)), o1, o2, k _ w⟩
theorem in_cases {x y : D} {M : Mh} {P : Bool → Prop} (w : inD x y M P) : (∃ o r, dictD y M = some o ∧ dGet o x = some r ∧ P r.isSome) ∨ (∃ i j, x = .str i ∧ y = .str j ∧ P (strIn i j)) ∨ ∃ ys, itemsD y M = some ys ∧ inOk x ys ∧ P (memD x ys) := by
  unfold inD at w
  split at w
  · split at w
    · exact .inl ⟨_, _, by assumption, by assumption, w⟩
    · exact w.elim
  · split at w
    · exact .inr (.inl ⟨_, _, rfl, rfl, w⟩)
    · split at w
      · exact .inr (.inr ⟨_, by assumption, w⟩)
      · exact w.elim
theorem pds_any (x : D) : ∀ ys : List D, ((pds ys).any fun z => PyData.eqv z (pd x)) = memD x ys
  | [] => rfl
  | y :: r => by
    have := pds_any x r
    unfold memD at this ⊢
    rw [pds, List.any_cons, List.any_cons, this]; rfl
/-- in, of deep data -/
theorem op_in_deep (hu : X.A.units + 65 < cLine) {pins : List (Addr × Obj)} {s : Shared} {σ : St} {H : Hp} {x : D} {ys : List D} {v : V} {p : Addr} {us : List V} {a b : Value} {Q : VK} (I : Inv X pins σ H s) (ra : RelV v a) (rb : RelV (.ref p) b)
    (dx : DR X.K H x v) (q : SqL X.K H p us ∨ SqT X.K H p us) (r : DRs X.K H ys us) (o1 : okD x = true) (o2 : okD (.tup ys) = true) :
    (Q (.bl (memD x ys)) H → wpAny (model X.prog X.w) X.A (compareOp .In a b) (EP X pins σ Q) X.xe s) ∧ (Q (.bl (!memD x ys)) H → wpAny (model X.prog X.w) X.A (compareOp .NotIn a b) (EP X pins σ Q) X.xe s) := by
  have hl : PyData.canLayAll0 (pds ys) = true := SeqAt.canLay_of_shaped (d := .tuple (pds ys)) o2
  have hd := dps_of r hl
  have hx := dp_of dx (SeqAt.canLay_of_shaped o1)
  obtain ⟨as, r1⟩ := Dp.reads I (pd x) v a hx ra
  rw [← pds_any x ys]
  rcases q with q | q
  · obtain ⟨bs, r2⟩ := Dp.reads I (.list (pds ys)) (.ref p) b (.lst q hd) rb
    exact ⟨fun h => SeqAt.in_list_reads r2 r1 hl (SeqAt.canLay_of_shaped o1) (room_in_shaped o1 hu) ⟨.bl _, H, I, rfl, h⟩,
      fun h => SeqAt.notIn_list_reads r2 r1 hl (SeqAt.canLay_of_shaped o1) (room_in_shaped o1 hu) ⟨.bl _, H, I, rfl, h⟩⟩
  · obtain ⟨bs, r2⟩ := Dp.reads I (.tuple (pds ys)) (.ref p) b (.tup q hd) rb
    exact ⟨fun h => SeqAt.in_tuple_reads r2 r1 hl (SeqAt.canLay_of_shaped o1) (room_in_shaped o1 hu) ⟨.bl _, H, I, rfl, h⟩,
      fun h => SeqAt.notIn_tuple_reads r2 r1 hl (SeqAt.canLay_of_shaped o1) (room_in_shaped o1 hu) ⟨.bl _, H, I, rfl, h⟩⟩
theorem cd_in (hu : X.A.units + 65 < cLine) : OpR X (compareOp .In) (upC X.K inD) := by
  rintro pins s σ H v u a b Q I ra rb ⟨x, y, M, P, dx, dy, hr, w, k⟩
  rcases in_cases w with ⟨o, r, e1, e2, w⟩ | ⟨i, j, rfl, rfl, w⟩ | ⟨ys, e, f, w⟩
  · obtain ⟨d, r', rfl, g, e3, _⟩ := dget_of hr dy dx e1 e2
    obtain rfl : b = Value.ref d := rb
    exact d_in (by omega) I g ra fun s' I' => ⟨.bl _, H, I', rfl, by rw [← e3]; exact k _ w⟩
  · cases dx
    cases dy
    exact op_in_str pins s σ H _ _ a b Q I ra rb ⟨_, _, rfl, rfl, k _ w⟩
  · obtain ⟨p, us, rfl, q, r⟩ := items_of dy hr e
    rcases f with f | f
    · obtain ⟨h1, h2⟩ := flats r dx f.1 f.2
      have fx : flatV v = true := (flat_eq dx dx f.1 f.1).1
      exact op_in_seq pins s σ H _ _ a b Q I ra rb ⟨_, _, rfl, q, fx, h1, by rw [if_neg Bool.false_ne_true, h2]; exact k _ w⟩
    · exact (op_in_deep hu I ra rb dx q r f.1 f.2).1 (k _ w)
theorem cd_nin (hu : X.A.units + 65 < cLine) : OpR X (compareOp .NotIn) (upC X.K ninD) := by
  rintro pins s σ H v u a b Q I ra rb ⟨x, y, M, P, dx, dy, hr, w, k⟩
  rcases in_cases w with ⟨o, r, e1, e2, w⟩ | ⟨i, j, rfl, rfl, w⟩ | ⟨ys, e, f, w⟩
  · obtain ⟨d, r', rfl, g, e3, _⟩ := dget_of hr dy dx e1 e2
    obtain rfl : b = Value.ref d := rb
    exact d_notIn (by omega) I g ra fun s' I' => ⟨.bl _, H, I', rfl, by rw [← e3]; exact k _ w⟩
  · cases dx
    cases dy
    exact op_notin_str pins s σ H _ _ a b Q I ra rb ⟨_, _, rfl, rfl, k _ w⟩
  · obtain ⟨p, us, rfl, q, r⟩ := items_of dy hr e
    rcases f with f | f
    · obtain ⟨h1, h2⟩ := flats r dx f.1 f.2
      have fx : flatV v = true := (flat_eq dx dx f.1 f.1).1
      exact op_notIn_seq pins s σ H _ _ a b Q I ra rb ⟨_, _, rfl, q, fx, h1, by rw [if_pos rfl, h2]; exact k _ w⟩
    · exact (op_in_deep hu I ra rb dx q r f.1 f.2).2 (k _ w)
theorem cd_lt : OpR X (compareOp .Lt) (upC X.K ltD) := by
  rintro pins s σ H v u a b Q I ra rb ⟨x, y, M, P, dx, dy, hr, w, k⟩
  cases dx <;> cases dy <;> first | exact False.elim w | skip
  · exact op_lt pins s σ H _ _ a b Q I ra rb ⟨_, _, rfl, rfl, k _ w⟩
  · exact op_lt_str pins s σ H _ _ a b Q I ra rb ⟨_, _, rfl, rfl, k _ w⟩
theorem cd_le : OpR X (compareOp .LtE) (upC X.K leD) := by
  rintro pins s σ H v u a b Q I ra rb ⟨x, y, M, P, dx, dy, hr, w, k⟩
  cases dx <;> cases dy <;> first | exact False.elim w | skip
  · exact op_le pins s σ H _ _ a b Q I ra rb ⟨_, _, rfl, rfl, k _ w⟩
  · exact op_le_str pins s σ H _ _ a b Q I ra rb ⟨_, _, rfl, rfl, k _ w⟩
theorem cd_gt : OpR X (compareOp .Gt) (upC X.K gtD) := by
  rintro pins s σ H v u a b Q I ra rb ⟨x, y, M, P, dx, dy, hr, w, k⟩
  cases dx <;> cases dy <;> first | exact False.elim w | skip
  · exact op_gt pins s σ H _ _ a b Q I ra rb ⟨_, _, rfl, rfl, k _ w⟩
  · exact op_gt_str pins s σ H _ _ a b Q I ra rb ⟨_, _, rfl, rfl, k _ w⟩
theorem cd_ge : OpR X (compareOp .GtE) (upC X.K geD) := by
  rintro pins s σ H v u a b Q I ra rb ⟨x, y, M, P, dx, dy, hr, w, k⟩
  cases dx <;> cases dy <;> first | exact False.elim w | skip
  · exact op_ge pins s σ H _ _ a b Q I ra rb ⟨_, _, rfl, rfl, k _ w⟩
  · exact op_ge_str pins s σ H _ _ a b Q I ra rb ⟨_, _, rfl, rfl, k _ w⟩
theorem non_eq {K : PySem.W.Frag} {H : Hp} {x : D} {v : V} (d : DR K H x v) : decide (v = .non) = isNon x := by
  cases d <;> simp [isNon]
theorem cd_is : OpR X (compareOp .Is) (upC X.K isD) := by
  rintro pins s σ H v u a b Q I ra rb ⟨x, y, M, P, dx, dy, hr, w, k⟩
  cases dy <;> first | exact False.elim w | skip
  exact op_isN pins s σ H _ _ a b Q I ra rb ⟨rfl, by rw [non_eq dx]; exact k _ w⟩
theorem cd_isn : OpR X (compareOp .IsNot) (upC X.K isnD) := by
  rintro pins s σ H v u a b Q I ra rb ⟨x, y, M, P, dx, dy, hr, w, k⟩
  cases dy <;> first | exact False.elim w | skip
  exact op_notN pins s σ H _ _ a b Q I ra rb ⟨rfl, by rw [non_eq dx]; exact k _ w⟩
end

/-! ### built-in functions -/
def lenD : List D → Mh → PQ → Prop
  | [.str z], M, P => z.length ≤ sizeLine ∧ P (.int z.length) M
  | [x], M, P => match dictD x M with
    | some o => P (.int (dSize o)) M
    | none => match itemsD x M with
      | some ds => P (.int ds.length) M
      | none => False
  | _, _, _ => False
def intD : List D → Mh → PQ → Prop
  | [.int i], M, P => P (.int i) M
  | [.bl b], M, P => P (.int (if b then 1 else 0)) M
  | _, _, _ => False
def strD : List D → Mh → PQ → Prop
  | [.int i], M, P => i.natAbs.log2 < 1920 ∧ P (.str (toString i)) M
  | _, _, _ => False
def listD : List D → Mh → PQ → Prop
  | [x], M, P => match itemsD x M with
    | some ds => ∀ p, M p = none → P (.ref p) (mup M p (.lst ds))
    | none => False
  | _, _, _ => False
def intsOf : List D → Option (List Int)
  | [] => some []
  | .int i :: r => (intsOf r).map (i :: ·)
  | _ => none
def strsOf : List D → Option (List Str)
  | [] => some []
  | .str i :: r => (strsOf r).map (i :: ·)
  | _ => none
def tupleD : List D → Mh → PQ → Prop
  | [.tup ds], M, P => P (.tup ds) M
  | [.ktp ds], M, P => P (.ktp ds) M
  | [x], M, P => match litemsD x M with
    | some ds => P (.tup ds) M ∨ P (.ktp ds) M
    | none => False
  | _, _, _ => False
def sumD : List D → Mh → PQ → Prop
  | [x], M, P => match litemsD x M with
    | some ds => match intsOf ds with
      | some ns => P (.int ns.sum) M
      | none => False
    | none => False
  | _, _, _ => False
def absD : List D → Mh → PQ → Prop
  | [.int i], M, P => P (.int (if i < 0 then -i else i)) M
  | _, _, _ => False
def maxD : List D → Mh → PQ → Prop
  | [.int i, .int j], M, P => P (.int (if j > i then j else i)) M
  | [x], M, P => match litemsD x M with
    | some ds => match intsOf ds with
      | some ns => 0 < ns.length ∧ ∀ m, m ∈ ns → (∀ y, y ∈ ns → y ≤ m) → P (.int m) M
      | none => False
    | none => False
  | _, _, _ => False
def minD : List D → Mh → PQ → Prop
  | [.int i, .int j], M, P => P (.int (if j < i then j else i)) M
  | [x], M, P => match litemsD x M with
    | some ds => match intsOf ds with
      | some ns => 0 < ns.length ∧ ∀ m, m ∈ ns → (∀ y, y ∈ ns → m ≤ y) → P (.int m) M
      | none => False
    | none => False
  | _, _, _ => False
/-- isinstance, by the type's name -/
def isiD (T : String) (x : D) (M : Mh) (P : PQ) : Prop := match x with
  | .non => P (.bl false) M
  | .bl _ => P (.bl (T == "bool" || T == "int")) M
  | .int _ => P (.bl (T == "int")) M
  | .str _ => P (.bl (T == "str")) M
  | .tup _ => P (.bl (T == "tuple")) M
  | .ktp _ => P (.bl (T == "tuple")) M
  | .rol _ => P (.bl (T == "list")) M
  | .ref a => match M a with
    | some (.lst _) => P (.bl (T == "list")) M
    | _ => False
theorem intsOf_rel {K : PySem.W.Frag} {H : Hp} : ∀ {ds : List D} {vs : List V} {ns : List Int}, DRs K H ds vs → intsOf ds = some ns → vs = ns.map V.int
  | _, _, _, .nil, e => by cases e; rfl
  | _, _, _, .cons (d := d) h r, e => by
    cases h <;> first | (cases (show none = some _ from e); done) | skip
    unfold intsOf at e
    obtain ⟨ms, e1, rfl⟩ := Option.map_eq_some_iff.mp e
    rw [intsOf_rel r e1]; rfl
theorem strsOf_rel {K : PySem.W.Frag} {H : Hp} : ∀ {ds : List D} {vs : List V} {ns : List Str}, DRs K H ds vs → strsOf ds = some ns → vs = ns.map V.str
  | _, _, _, .nil, e => by cases e; rfl
  | _, _, _, .cons (d := d) h r, e => by
    cases h <;> first | (cases (show none = some _ from e); done) | skip
    unfold strsOf at e
    obtain ⟨ms, e1, rfl⟩ := Option.map_eq_some_iff.mp e
    rw [strsOf_rel r e1]; rfl
section
variable {X : Cx}
theorem fd_len : CallR X (.builtin "len") (upL X.K lenD) := by
  rintro pins s σ H vs us Q I r ⟨xs, M, P, dx, hr, w, k⟩
  match xs, dx with
  | [], _ => exact False.elim w
  | _ :: _ :: _, .cons d _ => cases d <;> exact False.elim w
  | [x], .cons d .nil =>
    have gen : ∀ ds, itemsD x M = some ds → P (.int ds.length) M → wpAny (model X.prog X.w) X.A (call (.builtin "len") us) (EP X pins σ Q) X.xe s := fun ds e w => by
      obtain ⟨p, ws, rfl, q, r'⟩ := items_of d hr e
      exact call_len_seq pins s σ H _ us Q I r ⟨_, _, rfl, q, by rw [← r'.length]; exact k _ _ _ _ w (.refl _ _) (.int _) hr⟩
    cases d with
    | str z => exact call_len_str pins s σ H _ us Q I r ⟨_, rfl, w.1, k _ _ _ _ w.2 (.refl _ _) (.int _) hr⟩
    | tup s1 r1 => exact gen _ rfl w
    | ktp s1 r1 => exact gen _ rfl w
    | rol s1 r1 => exact gen _ rfl w
    | ref a =>
      have w : (match dictD (.ref a) M with | some o => P (.int (dSize o)) M | none => (match itemsD (.ref a) M with | some ds => P (.int ds.length) M | none => False)) := w
      cases e0 : dictD (.ref a) M with
      | some o =>
        rw [e0] at w
        obtain ⟨a', e1, e2, ⟨kvs, rfl⟩ | ⟨kvs, rfl⟩⟩ := dict_of e0
        · cases e1
          obtain ⟨ws, q, p⟩ := hr _ _ e2
          exact call_lenD pins s σ H _ us Q I r ⟨_, _, rfl, q, by rw [← p.length]; exact k _ _ _ _ w (.refl _ _) (.int _) hr⟩
        · cases e1
          obtain ⟨ws, q, p⟩ := hr _ _ e2
          exact call_len_dT pins s σ H _ us Q I r ⟨_, _, rfl, q, by rw [← p.length]; exact k _ _ _ _ w (.refl _ _) (.int _) hr⟩
      | none =>
        rw [e0] at w
        cases e : itemsD (.ref a) M with
        | none => rw [e] at w; exact w.elim
        | some ds => rw [e] at w; exact gen _ e w
    | _ => exact False.elim w
theorem fd_int : CallR X (.type "int") (upL X.K intD) := by
  rintro pins s σ H vs us Q I r ⟨xs, M, P, dx, hr, w, k⟩
  match xs, dx with
  | [], _ => exact False.elim w
  | _ :: _ :: _, .cons d _ => cases d <;> exact False.elim w
  | [x], .cons d .nil =>
    cases d <;> first | exact False.elim w | skip
    · exact call_int1 pins s σ H _ us Q I r (.inr ⟨_, rfl, k _ _ _ _ w (.refl _ _) (.int _) hr⟩)
    · exact call_int1 pins s σ H _ us Q I r (.inl ⟨_, rfl, k _ _ _ _ w (.refl _ _) (.int _) hr⟩)
theorem fd_str : CallR X (.type "str") (upL X.K strD) := by
  rintro pins s σ H vs us Q I r ⟨xs, M, P, dx, hr, w, k⟩
  match xs, dx with
  | [], _ => exact False.elim w
  | _ :: _ :: _, .cons d _ => cases d <;> exact False.elim w
  | [x], .cons d .nil =>
    cases d <;> first | exact False.elim w | skip
    exact call_str_int pins s σ H _ us Q I r ⟨_, rfl, w.1, k _ _ _ _ w.2 (.refl _ _) (.str _) hr⟩
theorem fd_abs : CallR X (.builtin "abs") (upL X.K absD) := by
  rintro pins s σ H vs us Q I r ⟨xs, M, P, dx, hr, w, k⟩
  match xs, dx with
  | [], _ => exact False.elim w
  | _ :: _ :: _, .cons d _ => cases d <;> exact False.elim w
  | [x], .cons d .nil =>
    cases d <;> first | exact False.elim w | skip
    exact call_abs pins s σ H _ us Q I r ⟨_, rfl, k _ _ _ _ w (.refl _ _) (.int _) hr⟩
/-- tuple(list): a new one, known to its object -/
theorem call_tuple_frz : CallR X (.type "tuple") (fun xs H Q => ∃ p ys, xs = [.ref p] ∧ SqL X.K H p ys ∧ ∀ l o, H l = none → o.dict = none → Q (.ref l) (upd H l (.frz o (.tup ys)))) := by
  intro pins s σ H xs us Q I r ⟨p, ys, e, hq, q⟩
  subst e
  cases r with
  | cons rx rr =>
    cases rr
    cases rx
    obtain ⟨its, rv, pl, hz⟩ := I.list hq
    have ln := rv.length
    refine call_tuple_list pl.isList (fun hp kp => ?_) (by rw [List.size_toArray]; omega)
    have J : Inv X pins σ H { s with heap := hp } := I.kept (t' := s.toks) kp
    refine ⟨.ref hp.objs.size, _, J.laid (t' := s.toks) (o := .frz _ (.tup ys)) (fun b ob e => Heap.get?_push_of_some _ e) (Nat.le_refl _) ⟨Heap.get?_push_size _ rfl, hz, its, rv, IsTup.new _ _⟩, rfl, q _ _ (J.hok.fresh (Nat.le_refl _)) rfl⟩
theorem fd_tuple : CallR X (.type "tuple") (upL X.K tupleD) := by
  rintro pins s σ H vs us Q I r ⟨xs, M, P, dx, hr, w, k⟩
  match xs, dx with
  | [], _ => exact False.elim w
  | _ :: _ :: _, .cons d _ => cases d <;> exact False.elim w
  | [x], .cons d .nil =>
    have gen : ∀ ds, litemsD x M = some ds → P (.tup ds) M ∨ P (.ktp ds) M → wpAny (model X.prog X.w) X.A (call (.type "tuple") us) (EP X pins σ Q) X.xe s := fun ds e w => by
      obtain ⟨p, ws, rfl, q, r'⟩ := litems_of d hr e
      rcases w with w | w
      rotate_left
      · exact call_tuple_frz pins s σ H _ us Q I r ⟨_, _, rfl, q, fun l o nl od => k _ _ _ _ w (.fresh nl) (.ktp (.inl ⟨o, upd_same, od⟩) (r'.mono (.fresh nl))) (hr.fresh nl)⟩
      exact call_tuple_of pins s σ H _ us Q I r ⟨_, _, rfl, .inl ⟨q, fun l nl => k _ _ _ _ w (.fresh nl) (.tup upd_same (r'.mono (.fresh nl))) (hr.fresh nl)⟩⟩
    cases d with
    | tup s1 r1 => exact call_tuple_of pins s σ H _ us Q I r ⟨_, _, rfl, .inr ⟨SqT.of s1, k _ _ _ _ w (.refl _ _) (.tup s1 r1) hr⟩⟩
    | ktp s1 r1 => exact call_tuple_of pins s σ H _ us Q I r ⟨_, _, rfl, .inr ⟨s1.t, k _ _ _ _ w (.refl _ _) (.ktp s1 r1) hr⟩⟩
    | rol s1 r1 => exact gen _ rfl w
    | ref a =>
      have w : (match litemsD (.ref a) M with | some ds => P (.tup ds) M ∨ P (.ktp ds) M | none => False) := w
      cases e : litemsD (.ref a) M with
      | none => rw [e] at w; exact w.elim
      | some ds => rw [e] at w; exact gen _ e w
    | _ => exact False.elim w
theorem fd_list : CallR X (.type "list") (upL X.K listD) := by
  rintro pins s σ H vs us Q I r ⟨xs, M, P, dx, hr, w, k⟩
  match xs, dx with
  | [], _ => exact False.elim w
  | _ :: _ :: _, _ => exact False.elim w
  | [x], .cons d .nil =>
    have w : (match itemsD x M with | some ds => ∀ p, M p = none → P (.ref p) (mup M p (.lst ds)) | none => False) := w
    cases e : itemsD x M with
    | none => rw [e] at w; exact w.elim
    | some ds =>
      rw [e] at w
      obtain ⟨p, ws, rfl, q, r'⟩ := items_of d hr e
      exact call_list_of pins s σ H _ us Q I r ⟨_, _, rfl, q, fun l nl => k _ _ _ _ (w l (hr.free nl)) (.fresh nl) (.ref l) (hr.new nl r')⟩
theorem fd_sum (hc : X.calm = true) : CallR X (.builtin "sum") (upL X.K sumD) := by
  rintro pins s σ H vs us Q I r ⟨xs, M, P, dx, hr, w, k⟩
  match xs, dx with
  | [], _ => exact False.elim w
  | _ :: _ :: _, _ => exact False.elim w
  | [x], .cons d .nil =>
    simp only [sumD] at w
    cases e : litemsD x M with
    | none => simp only [e] at w
    | some ds =>
      simp only [e] at w
      cases f : intsOf ds with
      | none => simp only [f] at w
      | some ns =>
        simp only [f] at w
        obtain ⟨p, ws, rfl, q, r'⟩ := litems_of d hr e
        rw [intsOf_rel r' f] at q
        exact cr_sum hc pins s σ H _ us Q I r ⟨_, _, rfl, q, k _ _ _ _ w (.refl _ _) (.int _) hr⟩
theorem fd_max (hc : X.calm = true) : CallR X (.builtin "max") (upL X.K maxD) := by
  rintro pins s σ H vs us Q I r ⟨xs, M, P, dx, hr, w, k⟩
  match xs, dx with
  | [], _ => exact False.elim w
  | [x], .cons d .nil =>
    have w : (match litemsD x M with | some ds => (match intsOf ds with | some ns => 0 < ns.length ∧ ∀ m, m ∈ ns → (∀ y, y ∈ ns → y ≤ m) → P (.int m) M | none => False) | none => False) := by
      cases x <;> exact w
    cases e : litemsD x M with
    | none => simp only [e] at w
    | some ds =>
      simp only [e] at w
      cases f : intsOf ds with
      | none => simp only [f] at w
      | some ns =>
        simp only [f] at w
        obtain ⟨p, ws, rfl, q, r'⟩ := litems_of d hr e
        rw [intsOf_rel r' f] at q
        exact cr_max hc pins s σ H _ us Q I r ⟨_, _, rfl, q, w.1, fun m h1 h2 => k _ _ _ _ (w.2 m h1 h2) (.refl _ _) (.int _) hr⟩
  | _ :: _ :: _ :: _, .cons d (.cons e _) => cases d <;> cases e <;> exact False.elim w
  | [x, y], .cons d (.cons e .nil) =>
    cases d <;> cases e <;> first | exact False.elim w | skip
    exact call_max2 hc pins s σ H _ us Q I r ⟨_, _, rfl, k _ _ _ _ w (.refl _ _) (.int _) hr⟩
theorem fd_min (hc : X.calm = true) : CallR X (.builtin "min") (upL X.K minD) := by
  rintro pins s σ H vs us Q I r ⟨xs, M, P, dx, hr, w, k⟩
  match xs, dx with
  | [], _ => exact False.elim w
  | [x], .cons d .nil =>
    have w : (match litemsD x M with | some ds => (match intsOf ds with | some ns => 0 < ns.length ∧ ∀ m, m ∈ ns → (∀ y, y ∈ ns → m ≤ y) → P (.int m) M | none => False) | none => False) := by
      cases x <;> exact w
    cases e : litemsD x M with
    | none => simp only [e] at w
    | some ds =>
      simp only [e] at w
      cases f : intsOf ds with
      | none => simp only [f] at w
      | some ns =>
        simp only [f] at w
        obtain ⟨p, ws, rfl, q, r'⟩ := litems_of d hr e
        rw [intsOf_rel r' f] at q
        exact cr_min hc pins s σ H _ us Q I r ⟨_, _, rfl, q, w.1, fun m h1 h2 => k _ _ _ _ (w.2 m h1 h2) (.refl _ _) (.int _) hr⟩
  | _ :: _ :: _ :: _, .cons d (.cons e _) => cases d <;> cases e <;> exact False.elim w
  | [x, y], .cons d (.cons e .nil) =>
    cases d <;> cases e <;> first | exact False.elim w | skip
    exact call_min2 hc pins s σ H _ us Q I r ⟨_, _, rfl, k _ _ _ _ w (.refl _ _) (.int _) hr⟩
theorem tyx_of {K : PySem.W.Frag} {H : Hp} {x : D} {v : V} {M : Mh} {T : String} {P : PQ} (hT : T = "int" ∨ T = "str" ∨ T = "tuple" ∨ T = "list" ∨ T = "bool" ∨ T = "dict") (d : DR K H x v) (h : HR K H M) (w : isiD T x M P) :
    ∃ t b, TyX K H v t ∧ PySem.W.kitOne K t (.type T) = some b ∧ P (.bl b) M := by
  have fin : ∀ {n : String} {b : Bool}, TyX K H v (.type n) → P (.bl b) M → kitB n T = some b → ∃ t b, TyX K H v t ∧ PySem.W.kitOne K t (.type T) = some b ∧ P (.bl b) M :=
    fun {n b} ty w e => ⟨_, b, ty, kit_ty e, w⟩
  cases d with
  | non => exact fin (.base .non) w (by rcases hT with rfl | rfl | rfl | rfl | rfl | rfl <;> decide +kernel)
  | bl b => exact fin (.base (.bl b)) w (by rcases hT with rfl | rfl | rfl | rfl | rfl | rfl <;> decide +kernel)
  | int b => exact fin (.base (.int b)) w (by rcases hT with rfl | rfl | rfl | rfl | rfl | rfl <;> decide +kernel)
  | str b => exact fin (.base (.str b)) w (by rcases hT with rfl | rfl | rfl | rfl | rfl | rfl <;> decide +kernel)
  | tup s r => exact fin (n := "tuple") (.base (.tup s)) w (by rcases hT with rfl | rfl | rfl | rfl | rfl | rfl <;> decide +kernel)
  | ktp s r =>
    refine fin (n := "tuple") ?_ w (by rcases hT with rfl | rfl | rfl | rfl | rfl | rfl <;> decide +kernel)
    rcases s with ⟨o, s, _⟩ | ⟨o, its, n, s1, s2, _⟩
    · exact .fTuple s
    · exact .kTuple s1 s2
  | rol s r =>
    refine fin (n := "list") ?_ w (by rcases hT with rfl | rfl | rfl | rfl | rfl | rfl <;> decide +kernel)
    rcases s with ⟨o, s⟩ | ⟨o, its, n, s1, s2, _⟩
    · exact .base (.frz s)
    · exact .kList s1 s2
  | ref a =>
    have w : (match M a with | some (.lst _) => P (.bl (T == "list")) M | _ => False) := w
    cases e : M a with
    | none => rw [e] at w; exact w.elim
    | some o =>
      rw [e] at w
      cases o with
      | dk ds => exact False.elim w
      | dt ds => exact False.elim w
      | lst ds =>
        obtain ⟨vs, q, _⟩ := h a _ e
        exact fin (n := "list") (.base (.lst q)) w (by rcases hT with rfl | rfl | rfl | rfl | rfl | rfl <;> decide +kernel)
end
end DL
/-! DLl: list(d.keys()). -/
namespace DL
open PySem PySem.Spec L2
open PyProof.Rows hiding St

section
variable {prog : Program} {w : World} {A : Around} {E : Value → Shared → Prop} {s : Shared} {d r : Addr} {o : Obj} {es : Array DictEntry} {ep : Nat}
theorem rawkeys_meets (hd : (d == sysModules) = false) : MeetsIn prog w (Builtin.«dict.keys» ⟨[.ref d], []⟩) (fun _ R s => s.TypeIs (.ref d) "dict" ∧
    R (.ok (.ret (.ref s.heap.objs.size))) { s with heap := s.heap.push { cls := .type "dict_keys", data := .fields #[.ref d] } }) :=
  .of_wp fun A R s ⟨hm, h⟩ => by
    refine wpAny_bind ?_
    unfold Builtin.Dict.noArgs
    refine wpAny_bind (wpAny_notOrdered_dict hm ?_)
    show wpAny _ _ (pure d) _ _ s
    refine wpAny_pure ?_
    show wpAny _ _ (Builtin.Dict.showsAll d >>= _) _ _ s
    unfold Builtin.Dict.showsAll
    rw [if_neg (by rw [hd]; exact Bool.false_ne_true)]
    refine wpAny_bind (wpAny_pure ?_)
    exact wpAny_bind (wpAny_newObj_type (wpAny_pure ⟨_, rfl, h⟩))
theorem rawkeys_iter {v : Addr} {Q : Value → Shared → Prop} (hv : PySem.W.KdlKeysView s.heap v d) (ho : s.heap.get? d = some o) (hdat : o.data = .dict es ep)
    (hQ : Q (.ref s.heap.objs.size) { s with heap := s.heap.push { cls := .type "dict_keyiterator", data := .fields #[.ref d, .int 0 0, .int es.size 0, .int ep 0] } }) :
    wpAny (model prog w) A (pyIter (.ref v)) Q E s := by
  obtain ⟨ov, hov, hcv, hdv⟩ := id hv
  refine wpAny_pyIter_slot hv.typeIs PySem.W.kdl_slot_keys_iter (wpAny_call_entry PySem.W.kdl_slot_keys_iter hv.typeIs PySem.W.kdl_entry_keys_iter ?_ (PySem.W.kdl_args_keys_iter _))
  unfold Builtin.«dict_keys.__iter__»
  refine wpAny_bind (wpAny_pure ?_)
  refine wpAny_bind ?_
  unfold Builtin.Dict_items.dictOf
  refine wpAny_bind (wpAny_field hov hdv (x := .ref d) rfl (wpAny_pure ?_))
  refine wpAny_bind ?_
  unfold Builtin.Dict_items.newIterator
  refine wpAny_bind (wpAny_dictEntries ho hdat ?_)
  refine wpAny_bind (wpAny_dictEpoch ho hdat ?_)
  have hown : Builtin.Dict_items.ownsTuple "dict_keyiterator" = false := by decide
  simp only [hown, Bool.false_eq_true, if_false]
  refine wpAny_newObj_type (wpAny_pure ⟨_, rfl, "dict_keyiterator", _, ⟨_, Heap.get?_push_size _ rfl, rfl⟩, PySem.F.slot_dict_keyiterator_next.lookup, ?_⟩)
  simpa [rawInt] using hQ
theorem kdl_rawkeys (hx : o.ExactDict) (hd : o.data = .dict es ep) :
    PySem.W.KdlSrc prog w "dict_keys" r d es.size (fun i v => ∃ en : DictEntry, es[i]? = some en ∧ v = en.key) (fun h => PySem.W.KdlKeysView h r d ∧ h.get? d = some o) where
  type := fun _ hm => hm.1.typeIs
  there := fun _ hm => ⟨let ⟨_, ho, _⟩ := hm.1; Heap.lt_size ho, Heap.lt_size hm.2⟩
  keep := fun _ _ hm hk => ⟨let ⟨o, ho, x⟩ := hm.1; ⟨o, hk r (.inl rfl) o ho, x⟩, hk d (.inr rfl) _ hm.2⟩
  notList := by decide
  notTuple := by decide
  hint := fun _ _ _ _ hm hq => PySem.W.kdl_hint_keys hm.1.typeIs hq
  iter := fun _ _ hh hm => ⟨_, _, (fun _ _ hq => rawkeys_iter hm.1 hm.2 hd hq), walks_raw hh _ d (Nat.ne_of_lt (Heap.lt_size hm.2)) hd, ⟨⟨_, Heap.get?_push_size _ rfl, rfl, rfl⟩, Heap.get?_push_of_some _ hm.2⟩⟩
end
/-- its keys, as values that stand -/
def KeysV (H : Hp) (d : Addr) (vs : List V) : Prop := (∃ kvs, H d = some (.dK kvs) ∧ vs = kvs.map fun kv => kV kv.1) ∨ ∃ kvs bs, H d = some (.dT kvs) ∧ IsKeys H kvs bs ∧ vs = bs.map V.ref
section
variable {X : Cx} {e : Expr} {te : TE} {p apos cpos pos : Pos}
def tLK (te : TE) : TE := fun σ H Q => te σ H fun x H1 => ∃ d, x = .ref d ∧ ((∃ kvs, H1 d = some (.dK kvs)) ∨ ∃ kvs, H1 d = some (.dT kvs)) ∧ ∀ vs q, KeysV H1 d vs → H1 q = none → Q (.ref q) (upd H1 q (.lst vs))
theorem pe_listKeys (hc : X.calm = true) (he : PE X e te) (hg : Gl X "list") (hm : X.mg "list" = none) (hv : bootBuiltins "list" = some (.type "list")) (hbase : attributeBase e "keys" X.env (eval e X.env) = eval e X.env) (hline : (apos.endLine == cpos.line) = true)
    (hs : starEach [.Call (.Attribute e "keys" apos) [] [] cpos] X.env = (false, eval (.Call (.Attribute e "keys" apos) [] [] cpos) X.env) :: starEach [] X.env) :
    PE X (.Call (.Name "list" p) [.Call (.Attribute e "keys" apos) [] [] cpos] [] pos) (tLK te) := by
  refine ⟨fun pins s σ H Q I hq => ?_⟩
  refine wpAny_Call_Name_kw (ld_blt I hg hm hv ?_)
  refine PyProof.Rows.callWith_type1 ?_ hs rfl
  rw [hs]
  show wpAny _ _ (spliced ((false, eval (.Call (.Attribute e "keys" apos) [] [] cpos) X.env) :: backTo pos (starEach [] X.env))) _ _ s
  refine Calls.spliced_cons ?_
  refine wpAny_Call_method (T := "dict") (id := "dict.keys") hbase rfl hline PySem.F.plainAttrs_dict PySem.F.slot_dict_keys PySem.F.type_dict_keys (thn (he.run pins s σ H _ I hq) fun u s1 ⟨x, H1, I1, rx, d, ex, hd, q⟩ => ?_)
  subst ex
  obtain rfl : u = Value.ref d := rx
  have I2 : Inv X pins σ H1 { s1 with heap := s1.heap.push { cls := .type "dict_keys", data := .fields #[.ref d] } } := I1.kept (t' := s1.toks) fun b ob q => Heap.get?_push_of_some _ q
  rcases hd with ⟨kvs, hd⟩ | ⟨kvs, hd⟩
  · obtain ⟨hz, hs0, vs, kv, hdo⟩ := I1.hok d _ hd
    obtain ⟨ep, hat⟩ := hdo.dictAt
    have hl : kvs.length = vs.length := Paired.length kv
    refine ⟨hdo.typeIs, hdo.mapOf.noDict, ?_⟩
    show wpAny _ _ (callWith cpos (.builtin "dict.keys") [.ref d] [] []) _ X.xe s1
    refine method_meetsIn PySem.F.slot_dict_keys PySem.F.entry_dict_keys rfl (PySem.evalArgs_none ⟨rfl, hdo.typeIs, PySem.F.args_dict_keys_1 _, _, rawkeys_meets hs0, hdo.typeIs, ?_⟩)
    refine Calls.spliced_nil ?_
    refine PySem.W.kdl_call (PySem.W.kdl_keys (knd := mixKind X.prog X.w) (kvs := vs) (ep := ep)) (I1.ok.hd hc) ⟨⟨_, Heap.get?_push_size _ rfl, rfl, rfl⟩, hat.push _⟩ (by rw [← hl]; exact hz) fun h' tk acc' c' hkeep hS hacc => ?_
    refine ⟨.ref _, upd H1 _ (.lst (kvs.map fun kv => kV kv.1)), I2.laid hkeep (Nat.le_refl _) (show ObjOk X.prog X.w _ _ _ (.lst (kvs.map fun kv => kV kv.1)) from ⟨?_, acc'.toList, c', ?_, ?_⟩), rfl, q _ _ (.inl ⟨_, hd, rfl⟩) (I2.hok.fresh (Nat.le_refl _))⟩
    · rw [List.length_map]; exact hz
    · have el : acc'.toList.length = acc'.size := by simp
      refine vals_of_at (by rw [List.length_map, el, hacc.1, hl]) fun j x w h1 h2 => ?_
      obtain ⟨k, y, hky, hi⟩ := hacc.2 j w (by rw [← Array.getElem?_toList]; exact h2)
      have e1 : (kvs.map (·.1))[j]? = some k := by
        rw [KV.keys kv, List.getElem?_map, hky] <;> rfl
      have e2 : (kvs.map fun kv => kV kv.1)[j]? = some (kV k) := by
        have e3 : (kvs.map fun kv => kV kv.1) = (kvs.map (·.1)).map kV := by rw [List.map_map] <;> rfl
        rw [e3, List.getElem?_map, e1] <;> rfl
      rw [e2] at h1
      cases h1
      exact keyIs_rel hi
    · rw [Array.toArray_toList]; exact hS
  · obtain ⟨z, hs0, ks, pr, o, es, ep, ho, hx, hdt, he2, hn⟩ := (show ObjOk X.prog X.w H1 s1.heap d (.dT kvs) from I1.hok d _ hd)
    have l1 : es.size = ks.length := size_of_entries he2
    have l2 : kvs.length = ks.length := Paired.length pr
    have ty : s1.TypeIs (.ref d) "dict" := ⟨o, ho, hx.1⟩
    have hne : d ≠ s1.heap.objs.size := Nat.ne_of_lt (Heap.lt_size ho)
    refine ⟨ty, fun ob ez => ?_, ?_⟩
    · cases ez
      exact ⟨o, ho, hx.2.1⟩
    show wpAny _ _ (callWith cpos (.builtin "dict.keys") [.ref d] [] []) _ X.xe s1
    refine method_meetsIn PySem.F.slot_dict_keys PySem.F.entry_dict_keys rfl (PySem.evalArgs_none ⟨rfl, ty, PySem.F.args_dict_keys_1 _, _, rawkeys_meets hs0, ty, ?_⟩)
    refine Calls.spliced_nil ?_
    refine PySem.W.kdl_call (kdl_rawkeys hx hdt) (I1.ok.hd hc) ⟨⟨_, Heap.get?_push_size _ rfl, rfl, rfl⟩, Heap.get?_push_of_some _ ho⟩ (by omega) fun h' tk acc' c' kp e it => ?_
    have ea : acc'.toList = ks.map fun x => Value.ref x.2.1 := by
      have hl : acc'.toList.length = ks.length := by rw [Array.length_toList, it.1]; exact l1
      apply List.ext_getElem?
      intro j
      rw [List.getElem?_map]
      cases hj : acc'.toList[j]? with
      | none =>
        have h1 := List.getElem?_eq_none_iff.mp hj
        rw [List.getElem?_eq_none (by omega)]
        all_goals rfl
      | some v =>
        obtain ⟨en, hen, hv⟩ := it.2 j v (by rw [← Array.getElem?_toList]; exact hj)
        have qe := entry_at he2 j
        rw [hen] at qe
        cases hb : ks[j]? with
        | none =>
          rw [hb] at qe
          exact nomatch (show some en = none from qe)
        | some b =>
          rw [hb] at qe
          have e2 : en = entryOfKey (tupleKind (mixKind X.prog X.w)) b := Option.some.inj qe
          rw [hv, e2]
          all_goals rfl
    have eb : acc'.toList = (ks.map fun x => x.2.1).map Value.ref := by rw [ea, List.map_map]; all_goals rfl
    have rv : Vals ((ks.map fun x => x.2.1).map V.ref) acc'.toList := by rw [eb]; exact vals_refs _
    have hz : ((ks.map fun x => x.2.1).map V.ref).length ≤ sizeLine := by rw [List.length_map, List.length_map]; omega
    refine ⟨.ref _, _, I2.laid (t' := tk) (o := .lst ((ks.map fun x => x.2.1).map V.ref)) kp (Nat.le_refl _) ?_, rfl, q _ _ (.inr ⟨kvs, _, hd, isKeys_of pr, rfl⟩) (I2.hok.fresh (Nat.le_refl _))⟩
    exact ⟨hz, acc'.toList, c', rv, by rw [Array.toArray_toList]; exact e⟩
/-- list(d.keys()) by values -/
def keysLD (x : D) (M : Mh) (P : PQ) : Prop := match dictD x M with
  | some o => ∀ p, M p = none → P (.ref p) (mup M p (.lst (dKeys o)))
  | none => False
def eKs (a : DT) : DT := fun ρ M P => a ρ M fun x M1 => keysLD x M1 P
theorem keys_rels {K : PySem.W.Frag} {H : Hp} : ∀ {ks : List Key}, DRs K H (ks.map kD) (ks.map kV)
  | [] => .nil
  | .inl i :: r => .cons (.int i) keys_rels
  | .inr i :: r => .cons (.str i) keys_rels
theorem keysV_rel {K : PySem.W.Frag} {H : Hp} {M : Mh} {a : Addr} {o : MO} {vs : List V} (h : MR K H a o) (kv : KeysV H a vs) : DRs K H (dKeys o) vs := by
  cases o with
  | lst ds =>
    obtain ⟨ws, q, _⟩ := h
    rcases kv with ⟨_, e, _⟩ | ⟨_, _, e, _⟩ <;> (rw [q] at e; cases e)
  | dk kvs =>
    obtain ⟨ws, q, r⟩ := h
    rcases kv with ⟨us, e, rfl⟩ | ⟨_, _, e, _⟩
    · rw [q] at e
      cases e
      have e1 : dKeys (.dk kvs) = (kvs.map (·.1)).map kD := by
        show kvs.map _ = _
        rw [List.map_map]; rfl
      have e2 : (ws.map fun kv => kV kv.1) = (ws.map (·.1)).map kV := by rw [List.map_map]; rfl
      rw [e1, e2, r.keys]
      exact keys_rels
    · rw [q] at e; cases e
  | dt kvs =>
    obtain ⟨ws, q, r⟩ := h
    rcases kv with ⟨_, e, _⟩ | ⟨us, bs, e, ik, rfl⟩
    · rw [q] at e; cases e
    · rw [q] at e
      cases e
      have e1 : dKeys (.dt kvs) = (kvs.map (·.1)).map fun k => .tup (k.map kD) := by
        show kvs.map _ = _
        rw [List.map_map]; rfl
      rw [e1, r.keys]
      clear e1 r q
      unfold IsKeys at ik
      induction ik with
      | nil => exact .nil
      | cons h _ ih => exact .cons (.tup h keys_rels) ih
theorem dx_keys {wa : DT} (hc : X.calm = true) (he : Dx X e wa) (hg : Gl X "list") (hm : X.mg "list" = none) (hbase : attributeBase e "keys" X.env (eval e X.env) = eval e X.env) (hline : (apos.endLine == cpos.line) = true)
    (hs : starEach [.Call (.Attribute e "keys" apos) [] [] cpos] X.env = (false, eval (.Call (.Attribute e "keys" apos) [] [] cpos) X.env) :: starEach [] X.env) :
    Dx X (.Call (.Name "list" p) [.Call (.Attribute e "keys" apos) [] [] cpos] [] pos) (eKs wa) :=
  pe_wk (pe_listKeys hc he hg hm (by decide +kernel) hbase hline hs) fun σ H Q ⟨ρ, M, P, er, hr, w, k⟩ =>
    ⟨ρ, M, _, er, hr, w, fun x M1 v H1 p1 e1 d1 h1 => by
      unfold keysLD at p1
      split at p1
      · rename_i o eo
        obtain ⟨a, rfl, e2, ho⟩ := dict_of eo
        cases d1
        refine ⟨a, rfl, ?_, fun vs q kv nq => k _ _ _ _ (p1 q (h1.free nq)) (e1.trans (.fresh nq)) (.ref q) (h1.new nq (keysV_rel (M := M1) (h1 _ _ e2) kv))⟩
        rcases ho with ⟨kvs, rfl⟩ | ⟨kvs, rfl⟩
        · obtain ⟨ws, q, _⟩ := h1 _ _ e2; exact .inl ⟨_, q⟩
        · obtain ⟨ws, q, _⟩ := h1 _ _ e2; exact .inr ⟨_, q⟩
      · exact p1.elim⟩
end
end DL
/-! DLd: subscripts, slices, methods, calls, statements, loops, comprehensions of the data layer. -/
namespace DL
open PySem PySem.Spec L2
open PyProof.Rows hiding St

/-! ### subscripts -/
def ixD : D → D → Mh → PQ → Prop := fun x y M P => match dictD x M with
  | some o => match dGet o y with
    | some (some d) => P d M
    | _ => False
  | none => match y with
  | .int i => match x with
    | .str z => z.length ≤ sizeLine ∧ match atI z.cps.toList i with
      | some c => P (.str ⟨#[c]⟩) M
      | none => False
    | x => match itemsD x M with
      | some ds => match atI ds i with
        | some d => P d M
        | none => False
      | none => False
  | _ => False
theorem DRs.at {K : PySem.W.Frag} {H : Hp} {ds : List D} {vs : List V} {i : Int} {d : D} (r : DRs K H ds vs) (e : atI ds i = some d) : ∃ v, atI vs i = some v ∧ DR K H d v := by
  unfold atI at e ⊢
  rw [r.length] at e
  cases q : ixN vs.length i with
  | none => rw [q] at e; cases e
  | some j =>
    rw [q] at e
    exact r.get e
def cutD (ds : List D) (lo hi : Option Int) : List D := (ds.drop (HT.sIx ds.length 0 lo)).take (HT.sIx ds.length ds.length hi - HT.sIx ds.length 0 lo)
theorem DRs.cut {K : PySem.W.Frag} {H : Hp} {ds : List D} {vs : List V} (r : DRs K H ds vs) (lo hi : Option Int) : DRs K H (cutD ds lo hi) (cutV vs lo hi) := by
  unfold cutD cutV
  rw [r.length]
  exact (r.drop _).take _
def slD : D → Option Int → Option Int → Mh → PQ → Prop := fun x lo hi M P => match x with
  | .str z => z.length ≤ sizeLine ∧ P (.str (cutS z lo hi)) M
  | .tup ds => P (.tup (cutD ds lo hi)) M
  | .rol ds => ∀ p, M p = none → P (.ref p) (mup M p (.lst (cutD ds lo hi)))
  | .ref a => match M a with
    | some (.lst ds) => ∀ p, M p = none → P (.ref p) (mup M p (.lst (cutD ds lo hi)))
    | _ => False
  | _ => False
def oPart : Option DT → Ev → Mh → (Option Int → Mh → Prop) → Prop
  | none, _, M, P => P none M
  | some w, ρ, M, P => w ρ M fun d M1 => match d with
    | .int i => P (some i) M1
    | _ => False
def eSl (a : DT) (lo hi : Option DT) : DT := fun ρ M P => a ρ M fun x M1 => oPart lo ρ M1 fun l M2 => oPart hi ρ M2 fun h M3 => slD x l h M3 P
def upO (K : PySem.W.Frag) (w : Ev → Mh → (Option Int → Mh → Prop) → Prop) : TO := fun σ H Q => ∃ ρ M P, ER K H ρ σ ∧ HR K H M ∧ w ρ M P ∧ ∀ o M' H', P o M' → Ext K H H' → HR K H' M' → Q o H'
def setD (o i v : D) (M : Mh) (Q : Mh → Prop) : Prop := match dictD o M with
  | some ob => dSize ob < sizeLine ∧ match dPut ob i v, o with
    | some o', .ref a => Q (mup M a o')
    | _, _ => False
  | none => match o, i with
    | .ref a, .int k => match M a with
      | some (.lst ds) => match ixN ds.length k with
        | some j => Q (mup M a (.lst (ds.set j v)))
        | none => False
      | _ => False
    | _, _ => False
/-- a store by values -/
def upS2 (K : PySem.W.Frag) : TSet := fun o i v H Q => ∃ x y d M P, DR K H x o ∧ DR K H y i ∧ DR K H d v ∧ HR K H M ∧ setD x y d M P ∧ ∀ M' H', P M' → Ext K H H' → HR K H' M' → Q H'
theorem set_dl {X : Cx} (hu : X.A.units + 65 < cLine) : PSet X (upS2 X.K) := by
  rintro pins s σ H o i v ov iv u Q I ro ri rv ⟨x, y, d, M, P, dx, dy, dv, hr, w, k⟩
  unfold setD at w
  cases e0 : dictD x M with
  | some ob =>
    simp only [e0] at w
    obtain ⟨l, w⟩ := w
    cases e1 : dPut ob y d with
    | none => simp only [e1] at w
    | some o' =>
      simp only [e1] at w
      obtain ⟨a, H', rfl, rfl, g, x1, h1⟩ := dput_of hr dx dy dv e0 e1 l
      exact set_dict (by omega) pins s σ H _ i v ov iv u Q I ro ri rv ⟨a, H', rfl, g, k _ _ w x1 h1⟩
  | none =>
    simp only [e0] at w
    cases dx <;> cases dy <;> first | exact False.elim w | skip
    rename_i a j
    cases e3 : M a with
    | none => simp only [e3] at w
    | some ob =>
      simp only [e3] at w
      cases ob with
      | lst ds =>
        simp only at w
        obtain ⟨vs, q, r⟩ := hr _ _ e3
        cases e4 : ixN ds.length j with
        | none => simp only [e4] at w
        | some m =>
          simp only [e4] at w
          exact set_list pins s σ H _ _ v ov iv u Q I ro ri rv ⟨_, _, _, m, rfl, rfl, q, by rw [← r.length]; exact e4, k _ _ w (.lst q) (hr.write q (r.set m dv))⟩
      | _ => exact False.elim w

section
variable {X : Cx}
theorem xd_ix (hu : X.A.units + 65 < cLine) : IxR X (up2 X.K ixD) := by
  rintro value slice pins s σ H v u a b Q I ra rb ⟨x, y, M, P, dx, dy, hr, w, k⟩ hs
  cases e0 : dictD x M with
  | some o =>
    unfold ixD at w
    rw [e0] at w
    cases e2 : dGet o y with
    | none => simp only [e2] at w
    | some r =>
      cases r with
      | none => simp only [e2] at w
      | some d =>
        simp only [e2] at w
        obtain ⟨q, r', rfl, g, _, e3⟩ := dget_of hr dx dy e0 e2
        obtain ⟨v', rfl, dv⟩ := e3 d rfl
        obtain rfl : a = Value.ref q := ra
        exact PyProof.Rows.tail_any (dict_typeIs I g) PySem.F.slot_dict_getitem.lookup (d_getItem (by omega) I g rb fun w' s3 I3 rw' => ⟨v', H, I3, rw', k _ _ _ _ w (.refl _ _) dv hr⟩) hs
  | none =>
  unfold ixD at w
  rw [e0] at w
  cases dy <;> first | exact False.elim w | skip
  rename_i i
  have gen : ∀ ds d, itemsD x M = some ds → atI ds i = some d → P d M → wpAny (model X.prog X.w) X.A (subscriptTail value slice a b) (EP X pins σ Q) X.xe s := fun ds d e e2 w => by
    obtain ⟨p, ws, rfl, q, r⟩ := items_of dx hr e
    obtain ⟨v', h1, h2⟩ := r.at e2
    rcases q with q | q
    · exact ix_list value slice pins s σ H _ _ a b Q I ra rb ⟨_, _, _, _, rfl, rfl, q, h1, k _ _ _ _ w (.refl _ _) h2 hr⟩ hs
    · exact ix_tup value slice pins s σ H _ _ a b Q I ra rb ⟨_, _, _, _, rfl, rfl, q, h1, k _ _ _ _ w (.refl _ _) h2 hr⟩ hs
  have gen2 : (match itemsD x M with | some ds => (match atI ds i with | some d => P d M | none => False) | none => False) → wpAny (model X.prog X.w) X.A (subscriptTail value slice a b) (EP X pins σ Q) X.xe s := fun w => by
    cases e : itemsD x M with
    | none => simp only [e] at w
    | some ds =>
      simp only [e] at w
      cases e2 : atI ds i with
      | none => simp only [e2] at w
      | some d => simp only [e2] at w; exact gen ds d e e2 w
  cases dx with
  | str z =>
    obtain ⟨hz, w⟩ := w
    cases e2 : atI z.cps.toList i with
    | none => simp only [e2] at w
    | some c =>
      simp only [e2] at w
      exact ix_str value slice pins s σ H _ _ a b Q I ra rb ⟨_, _, _, rfl, rfl, hz, e2, k _ _ _ _ w (.refl _ _) (.str _) hr⟩ hs
  | _ => exact gen2 w
theorem dx_ix {a b : Expr} {wa wb : DT} {pos : Pos} (hu : X.A.units + 65 < cLine) (ha : Dx X a wa) (hb : Dx X b wb) (hs : PlainIx b) : Dx X (.Subscript a b pos) (eBin ixD wa wb) :=
  pe_wk (pe_ix (xd_ix hu) ha hb hs) fun σ H Q ⟨ρ, M, P, er, hr, w, k⟩ =>
    ⟨ρ, M, _, er, hr, w, fun x M1 v H1 p1 e1 d1 h1 => ⟨ρ, M1, _, er.mono e1, h1, p1, fun y M2 u H2 p2 e2 d2 h2 => ⟨x, y, M2, P, d1.mono e2, d2, h2, p2, fun d M3 v3 H3 p3 e3 => k d M3 v3 H3 p3 (e1.trans (e2.trans e3))⟩⟩⟩
theorem po_wk {e : Option Expr} {t t' : TO} (h : PO X e t) (k : ∀ σ H Q, t' σ H Q → t σ H Q) : PO X e t' := ⟨fun pins s σ H Q I q => h.run pins s σ H Q I (k σ H Q q)⟩
theorem do_none : PO X none (upO X.K (oPart none)) := po_wk po_none fun σ H Q ⟨ρ, M, P, er, hr, w, k⟩ => k none M H w (.refl _ _) hr
theorem do_some {e : Expr} {w : DT} (h : Dx X e w) : PO X (some e) (upO X.K (oPart (some w))) :=
  po_wk (po_some h) fun σ H Q ⟨ρ, M, P, er, hr, w, k⟩ => ⟨ρ, M, _, er, hr, w, fun d M1 v H1 p1 e1 d1 h1 => by
    cases d1 <;> first | exact False.elim p1 | skip
    exact ⟨_, rfl, k _ M1 H1 p1 e1 h1⟩⟩
theorem sd_sl : SlR X (fun v lo hi H Q => ∃ x M P, DR X.K H x v ∧ HR X.K H M ∧ slD x lo hi M P ∧ ∀ d M' v' H', P d M' → Ext X.K H H' → DR X.K H' d v' → HR X.K H' M' → Q v' H') := by
  rintro pins s σ H v a vl vu lo hi sl Q I ra hs pl pu ⟨x, M, P, dx, hr, w, k⟩
  cases dx with
  | str z => exact sl_str pins s σ H _ a vl vu lo hi sl Q I ra hs pl pu ⟨_, rfl, w.1, k _ _ _ _ w.2 (.refl _ _) (.str _) hr⟩
  | tup s1 r1 =>
    refine sl_tupA pins s σ H _ a vl vu lo hi sl Q I ra hs pl pu ⟨_, _, rfl, SqT.of s1, fun hw => ?_, fun _ p np => ?_⟩
    · refine k _ _ _ _ w (.refl _ _) (.tup s1 ?_) hr
      have := r1.cut lo hi
      rw [show cutV _ lo hi = _ from by unfold cutV; rw [hw.1, hw.2, List.drop_zero, Nat.sub_zero, List.take_length]] at this
      exact this
    · exact k _ _ _ _ w (.fresh np) (.tup upd_same ((r1.cut lo hi).mono (.fresh np))) (hr.fresh np)
  | rol s1 r1 => exact sl_list pins s σ H _ a vl vu lo hi sl Q I ra hs pl pu ⟨_, _, rfl, s1.seq, fun p np => k _ _ _ _ (w p (hr.free np)) (.fresh np) (.ref p) (hr.new np (r1.cut lo hi))⟩
  | ref l =>
    have w : (match M l with | some (.lst ds) => ∀ p, M p = none → P (.ref p) (mup M p (.lst (cutD ds lo hi))) | _ => False) := w
    cases e : M l with
    | none => rw [e] at w; exact w.elim
    | some o =>
      rw [e] at w
      cases o with
      | dk _ => exact False.elim w
      | dt _ => exact False.elim w
      | lst ds =>
        obtain ⟨vs, q, r⟩ := hr _ _ e
        exact sl_list pins s σ H _ a vl vu lo hi sl Q I ra hs pl pu ⟨_, _, rfl, SqL.of q, fun p np => k _ _ _ _ (w p (hr.free np)) (.fresh np) (.ref p) (hr.new np (r.cut lo hi))⟩
  | _ => exact False.elim w
theorem dx_sl {a : Expr} {lo hi : Option Expr} {wa : DT} {wl wh : Option DT} {p2 pos : Pos} (ha : Dx X a wa) (hl : PO X lo (upO X.K (oPart wl))) (hh : PO X hi (upO X.K (oPart wh))) : Dx X (.Subscript a (.Slice lo hi none p2) pos) (eSl wa wl wh) :=
  pe_wk (pe_slice sd_sl ha hl hh) fun σ H Q ⟨ρ, M, P, er, hr, w, k⟩ =>
    ⟨ρ, M, _, er, hr, w, fun x M1 v H1 p1 e1 d1 h1 => ⟨ρ, M1, _, er.mono e1, h1, p1, fun l M2 H2 p2 e2 h2 => ⟨ρ, M2, _, er.mono (e1.trans e2), h2, p2, fun h M3 H3 p3 e3 h3 =>
      ⟨x, M3, P, d1.mono (e2.trans e3), h3, p3, fun d M4 v4 H4 p4 e4 => k d M4 v4 H4 p4 (e1.trans (e2.trans (e3.trans e4)))⟩⟩⟩⟩

/-! ### isinstance, calls -/
def eIsi (T : String) (a : DT) : DT := fun ρ M P => a ρ M fun x M1 => isiD T x M1 P
theorem dx_isi {e : Expr} {T : String} {wa : DT} {x : Str} {p p2 pos : Pos} (hT : T = "int" ∨ T = "str" ∨ T = "tuple" ∨ T = "list" ∨ T = "bool" ∨ T = "dict") (ha : Dx X e wa) (hg : Gl X "isinstance") (hm : X.mg "isinstance" = none) (hg2 : Gl X x) (hm2 : X.mg x = none)
    (hb : bootBuiltins x = some (.type T)) (hn : x ≠ "__name__") (hdb : (x == ("__debug__" : Str)) = false)
    (he : starEach (e :: [.Name x p2]) X.env = (false, eval e X.env) :: starEach [.Name x p2] X.env) : Dx X (.Call (.Name "isinstance" p) [e, .Name x p2] [] pos) (eIsi T wa) :=
  pe_wk (pe_callB call_isi hg hm (by decide +kernel) (pa_cons ha (pa_cons (pe_bltn (v := .ty T) hg2 hm2 hb rfl hn hdb) pa_nil (by rfl)) he) (by decide) (by decide) he (by rfl)) fun σ H Q ⟨ρ, M, P, er, hr, w, k⟩ =>
    ⟨ρ, M, _, er, hr, w, fun x M1 v H1 p1 e1 d1 h1 => by
      obtain ⟨t, b, h2, h3, h4⟩ := tyx_of hT d1 h1 p1
      exact ⟨_, _, _, _, _, rfl, .ty T, h2, h3, k _ M1 _ H1 h4 e1 (.bl b) h1⟩⟩
theorem dx_fb {id : String} {x : Str} {r : List D → Mh → PQ → Prop} {e : Expr} {es : List Expr} {wa : DA} {p pos : Pos} (hc : CallR X (.builtin id) (upL X.K r)) (hg : Gl X x) (hm : X.mg x = none) (hv : bootBuiltins x = some (.builtin id)) (ha : Da X (e :: es) wa)
    (hn : x ≠ "__name__") (hdb : (x == ("__debug__" : Str)) = false) (he : starEach (e :: es) X.env = (false, eval e X.env) :: starEach es X.env) (hpl : (backTo pos (starEach es X.env)).any (·.1) = false) : Dx X (.Call (.Name x p) (e :: es) [] pos) (eCall r wa) :=
  pe_wk (pe_callB hc hg hm hv ha hn hdb he hpl) fun σ H Q ⟨ρ, M, P, er, hr, w, k⟩ =>
    ⟨ρ, M, _, er, hr, w, fun xs M1 vs H1 p1 e1 d1 h1 => ⟨xs, M1, P, d1, h1, p1, fun d M2 v2 H2 p2 e2 => k d M2 v2 H2 p2 (e1.trans e2)⟩⟩
theorem dx_ft {T : String} {x : Str} {r : List D → Mh → PQ → Prop} {e : Expr} {es : List Expr} {wa : DA} {p pos : Pos} (hc : CallR X (.type T) (upL X.K r)) (hg : Gl X x) (hm : X.mg x = none) (hv : bootBuiltins x = some (.type T)) (ha : Da X (e :: es) wa)
    (hn : x ≠ "__name__") (hdb : (x == ("__debug__" : Str)) = false) (he : starEach (e :: es) X.env = (false, eval e X.env) :: starEach es X.env) (hpl : (backTo pos (starEach es X.env)).any (·.1) = false) : Dx X (.Call (.Name x p) (e :: es) [] pos) (eCall r wa) :=
  pe_wk (pe_callTy hc hg hm hv ha hn hdb he hpl) fun σ H Q ⟨ρ, M, P, er, hr, w, k⟩ =>
    ⟨ρ, M, _, er, hr, w, fun xs M1 vs H1 p1 e1 d1 h1 => ⟨xs, M1, P, d1, h1, p1, fun d M2 v2 H2 p2 e2 => k d M2 v2 H2 p2 (e1.trans e2)⟩⟩
/-- what a def of n parameters promises -/
abbrev DSp := List D → Mh → PQ → Prop
def upF (K : PySem.W.Frag) (n : Nat) (sp : DSp) : Sp := fun vs H Q _ => vs.length = n ∧ upL K sp vs H Q
/-- a def that may be called -/
structure CallOk (X : Cx) (x : Str) (n : Nat) (sp : DSp) : Prop where
  dbg : (x == ("__debug__" : Str)) = false
  ok : ∃ f fd k ps, ∃ (dd : List D) (dvs : List V) (us : List Value) (sp0 : DSp), FnG X.prog X.w X.K X.mg X.base CX0 k f fd ps (upF X.K ps.length sp0) ∧ Room k X.A ∧ X.A.guards = some [] ∧ X.mg x = some (.ref f) ∧ PySem.W.keepIn X.K (.ref f) = true ∧ Binds X.K fd ps us ∧
    Vals dvs us ∧ (∀ H, DRs X.K H dd dvs) ∧ n + dd.length = ps.length ∧ ∀ ds M P, ds.length = n → sp ds M P → sp0 (ds ++ dd) M P
def eFn (n : Nat) (sp : DSp) (a : DA) : DT := fun ρ M P => a ρ M fun xs M1 => xs.length = n ∧ sp xs M1 P
theorem dx_fn {x : Str} {n : Nat} {sp : DSp} {e : Expr} {es : List Expr} {wa : DA} {p pos : Pos} (c : CallOk X x n sp) (hg : Gl X x) (ha : Da X (e :: es) wa) (he : starEach (e :: es) X.env = (false, eval e X.env) :: starEach es X.env)
    (hpl : (backTo pos (starEach es X.env)).any (·.1) = false) : Dx X (.Call (.Name x p) (e :: es) [] pos) (eFn n sp wa) := by
  obtain ⟨f, fd, k, ps, dd, dvs, us, sp0, F, hr, hgd, hm, hk, hb, hv, hdd, hl, hi⟩ := c.ok
  exact pe_wk (pe_callG F hr hgd hg hm hk hb hv pass0 ha c.dbg he hpl) fun σ H Q ⟨ρ, M, P, er, hr, w, k⟩ =>
    ⟨ρ, M, _, er, hr, w, fun xs M1 vs H1 p1 e1 d1 h1 => by
      show upF X.K ps.length sp0 (vs ++ dvs) H1 Q E0
      have l1 := (hdd H1).length
      have l2 := d1.length
      exact ⟨by rw [List.length_append]; have := p1.1; omega, xs ++ dd, M1, P, d1.append (hdd H1), h1, hi _ _ _ p1.1 p1.2, fun d M2 v2 H2 p2 e2 => k d M2 v2 H2 p2 (e1.trans e2)⟩⟩
theorem dx_fn0 {x : Str} {n : Nat} {sp : DSp} {p pos : Pos} (c : CallOk X x n sp) (hg : Gl X x) : Dx X (.Call (.Name x p) [] [] pos) (eFn n sp aNil) := by
  obtain ⟨f, fd, k, ps, dd, dvs, us, sp0, F, hr, hgd, hm, hk, hb, hv, hdd, hl, hi⟩ := c.ok
  exact pe_wk (pe_callG0 F hr hgd hg hm hk hb hv pass0 c.dbg) fun σ H Q ⟨ρ, M, P, er, hr, w, k⟩ => by
    show upF X.K ps.length sp0 ([] ++ dvs) H Q E0
    have l1 := (hdd H).length
    exact ⟨by rw [List.nil_append]; have : ([] : List D).length = n := w.1; simp at this; omega, [] ++ dd, M, P, hdd H, hr, hi _ _ _ w.1 w.2, k⟩

/-! ### methods of lists and texts -/
def tyD (T : String) (x : D) (M : Mh) : Prop := match x with
  | .str _ => T = "str"
  | .rol _ => T = "list"
  | .ref a => match M a with
    | some (.lst _) => T = "list"
    | _ => False
  | _ => False
theorem tyv_of {K : PySem.W.Frag} {H : Hp} {x : D} {v : V} {M : Mh} {T : String} (d : DR K H x v) (h : HR K H M) (t : tyD T x M) : tyV K T v H := by
  cases d <;> first | exact False.elim t | skip
  · exact t
  · rename_i s1 r1
    exact .inl ⟨t, _, s1.seq⟩
  · rename_i a
    have t : (match M a with | some (.lst _) => T = "list" | _ => False) := t
    cases e : M a with
    | none => rw [e] at t; exact t.elim
    | some o =>
      rw [e] at t
      cases o with
      | lst ds =>
        obtain ⟨vs, q, _⟩ := h _ _ e
        exact .inl ⟨t, _, SqL.of q⟩
      | _ => exact False.elim t
def eMt (T : String) (r : D → List D → Mh → PQ → Prop) (o : DT) (a : DA) : DT := fun ρ M P => o ρ M fun x M1 => tyD T x M1 ∧ a ρ M1 fun xs M2 => r x xs M2 P
theorem dx_mt {T id : String} {name : Str} {r : D → List D → Mh → PQ → Prop} {o e : Expr} {es : List Expr} {wo : DT} {wa : DA} {apos cpos : Pos} (pa : PlainAttrs T) (sl : Slot T name id) (hty : typeOf (.builtin id) = pure (.type "method_descriptor")) (hm : MtR X id (upM X.K r)) (ho : Dx X o wo) (ha : Da X (e :: es) wa)
    (hbase : attributeBase o name X.env (eval o X.env) = eval o X.env)
    (hfew : ((backTo cpos (starEach (e :: es) X.env)).all (fun x => !x.1) && (backToKw cpos (keywordEach [] X.env)).all (fun x => x.1.isSome)
      && decide ((e :: es).length + ([] : List Keyword).length + (if ([] : List Keyword).isEmpty then 0 else 1) < 30)) = true)
    (hline : (apos.endLine == cpos.line) = true) (hs : starEach (e :: es) X.env = (false, eval e X.env) :: starEach es X.env) (hplain : (backTo cpos (starEach es X.env)).any (·.1) = false) :
    Dx X (.Call (.Attribute o name apos) (e :: es) [] cpos) (eMt T r wo wa) :=
  pe_wk (pe_bm pa sl hty hm ho ha hbase hfew hline hs hplain) fun σ H Q ⟨ρ, M, P, er, hr, w, k⟩ =>
    ⟨ρ, M, _, er, hr, w, fun x M1 v H1 p1 e1 d1 h1 => ⟨tyv_of d1 h1 p1.1, ρ, M1, _, er.mono e1, h1, p1.2, fun xs M2 vs H2 p2 e2 d2 h2 => ⟨x, xs, M2, P, d1.mono e2, d2, h2, p2, fun d M3 v3 H3 p3 e3 => k d M3 v3 H3 p3 (e1.trans (e2.trans e3))⟩⟩⟩
theorem dx_mt0 {T id : String} {name : Str} {r : D → List D → Mh → PQ → Prop} {o : Expr} {wo : DT} {apos cpos : Pos} (pa : PlainAttrs T) (sl : Slot T name id) (hty : typeOf (.builtin id) = pure (.type "method_descriptor")) (hm : MtR X id (upM X.K r)) (ho : Dx X o wo)
    (hbase : attributeBase o name X.env (eval o X.env) = eval o X.env) (hline : (apos.endLine == cpos.line) = true) : Dx X (.Call (.Attribute o name apos) [] [] cpos) (eMt T r wo aNil) :=
  pe_wk (pe_bm0 pa sl hty hm ho hbase hline) fun σ H Q ⟨ρ, M, P, er, hr, w, k⟩ =>
    ⟨ρ, M, _, er, hr, w, fun x M1 v H1 p1 e1 d1 h1 => ⟨tyv_of d1 h1 p1.1, x, [], M1, P, d1, .nil, h1, p1.2, fun d M3 v3 H3 p3 e3 => k d M3 v3 H3 p3 (e1.trans e3)⟩⟩
def appendD : D → List D → Mh → PQ → Prop
  | .ref a, [y], M, P => match M a with
    | some (.lst ds) => ds.length < sizeLine ∧ P .non (mup M a (.lst (ds ++ [y])))
    | _ => False
  | _, _, _, _ => False
def extendD : D → List D → Mh → PQ → Prop
  | .ref a, [.ref b], M, P => match M a, M b with
    | some (.lst ds), some (.lst es) => ds.length + es.length ≤ sizeLine ∧ P .non (mup M a (.lst (ds ++ es)))
    | _, _ => False
  | _, _, _, _ => False
def popD : D → List D → Mh → PQ → Prop
  | .ref a, [], M, P => match M a with
    | some (.lst ds) => match ds[ds.length - 1]? with
      | some d => P d (mup M a (.lst ds.dropLast))
      | none => False
    | _ => False
  | .ref a, [.int i], M, P => match M a with
    | some (.lst ds) => (-(2 ^ 63) ≤ i ∧ i < 2 ^ 63) ∧ match seqIndex? i ds.length with
      | some j => match ds[j]? with
        | some d => P d (mup M a (.lst (ds.eraseIdx j)))
        | none => False
      | none => False
    | _ => False
  | _, _, _, _ => False
def joinD : D → List D → Mh → PQ → Prop
  | .str z, [x], M, P => match itemsD x M with
    | some ds => match strsOf ds with
      | some ys => (ys.map (·.length)).sum + ys.length * z.length ≤ 16777216 ∧ P (.str (Txt.join z ys)) M
      | none => False
    | none => False
  | _, _, _, _ => False
theorem md_append : MtR X "list.append" (upM X.K appendD) := by
  rintro pins s σ H v vs a us Q I ra rs ⟨x, xs, M, P, dx, ds, hr, w, k⟩
  cases dx <;> first | exact False.elim w | skip
  rename_i l
  match xs, ds with
  | [], _ => exact False.elim w
  | _ :: _ :: _, _ => exact False.elim w
  | [y], .cons dy .nil =>
    have w : (match M l with | some (.lst ds) => ds.length < sizeLine ∧ P .non (mup M l (.lst (ds ++ [y]))) | _ => False) := w
    cases e : M l with
    | none => rw [e] at w; exact w.elim
    | some o =>
      rw [e] at w
      cases o with
      | dk _ => exact False.elim w
      | dt _ => exact False.elim w
      | lst es =>
        obtain ⟨ws, q, r⟩ := hr _ _ e
        exact mt_append pins s σ H _ _ a us Q I ra rs ⟨_, _, _, rfl, rfl, q, by rw [← r.length]; exact w.1, k _ _ _ _ w.2 (.lst q) .non (hr.write q (r.append (.one dy)))⟩
theorem md_extend : MtR X "list.extend" (upM X.K extendD) := by
  rintro pins s σ H v vs a us Q I ra rs ⟨x, xs, M, P, dx, ds, hr, w, k⟩
  cases dx <;> first | exact False.elim w | skip
  rename_i l
  match xs, ds with
  | [], _ => exact False.elim w
  | _ :: _ :: _, .cons dy _ => cases dy <;> exact False.elim w
  | [y], .cons dy .nil =>
    cases dy <;> first | exact False.elim w | skip
    rename_i b
    have w : (match M l, M b with | some (.lst ds), some (.lst es) => ds.length + es.length ≤ sizeLine ∧ P .non (mup M l (.lst (ds ++ es))) | _, _ => False) := w
    cases e : M l with
    | none => rw [e] at w; exact w.elim
    | some o =>
      cases e2 : M b with
      | none => rw [e, e2] at w; cases o <;> exact w.elim
      | some o2 =>
        rw [e, e2] at w
        cases o with
        | dk _ => exact False.elim w
        | dt _ => exact False.elim w
        | lst es =>
          cases o2 with
          | dk _ => exact False.elim w
          | dt _ => exact False.elim w
          | lst fs =>
            obtain ⟨ws, q, r⟩ := hr _ _ e
            obtain ⟨zs, q2, r2⟩ := hr _ _ e2
            exact mt_extend pins s σ H _ _ a us Q I ra rs ⟨_, _, _, _, rfl, rfl, q, q2, by rw [← r.length, ← r2.length]; exact w.1, k _ _ _ _ w.2 (.lst q) .non (hr.write q (r.append r2))⟩
theorem md_pop : MtR X "list.pop" (upM X.K popD) := by
  rintro pins s σ H v vs a us Q I ra rs ⟨x, xs, M, P, dx, ds, hr, w, k⟩
  cases dx <;> first | exact False.elim w | skip
  rename_i l
  match xs, ds with
  | _ :: _ :: _, .cons dy _ => cases dy <;> exact False.elim w
  | [], .nil =>
    have w : (match M l with | some (.lst ds) => (match ds[ds.length - 1]? with | some d => P d (mup M l (.lst ds.dropLast)) | none => False) | _ => False) := w
    cases e : M l with
    | none => rw [e] at w; exact w.elim
    | some o =>
      rw [e] at w
      cases o with
      | dk _ => exact False.elim w
      | dt _ => exact False.elim w
      | lst es =>
        obtain ⟨ws, q, r⟩ := hr _ _ e
        cases e2 : es[es.length - 1]? with
        | none => simp only [e2] at w
        | some d =>
          simp only [e2] at w
          obtain ⟨v', h1, h2⟩ := r.get e2
          rw [r.length] at h1
          exact mt_pop pins s σ H _ _ a us Q I ra rs ⟨_, _, _, rfl, rfl, q, h1, k _ _ _ _ w (.lst q) (h2.mono (.lst q)) (hr.write q r.dropLast)⟩
  | [y], .cons dy .nil =>
    cases dy <;> first | exact False.elim w | skip
    rename_i i
    have w : (match M l with | some (.lst ds) => (-(2 ^ 63) ≤ i ∧ i < 2 ^ 63) ∧ (match seqIndex? i ds.length with | some j => (match ds[j]? with | some d => P d (mup M l (.lst (ds.eraseIdx j))) | none => False) | none => False) | _ => False) := w
    cases e : M l with
    | none => rw [e] at w; exact w.elim
    | some o =>
      rw [e] at w
      cases o with
      | dk _ => exact False.elim w
      | dt _ => exact False.elim w
      | lst es =>
        obtain ⟨ws, q, r⟩ := hr _ _ e
        obtain ⟨hb, w⟩ := w
        cases e2 : seqIndex? i es.length with
        | none => simp only [e2] at w
        | some j =>
          simp only [e2] at w
          cases e3 : es[j]? with
          | none => simp only [e3] at w
          | some d =>
            simp only [e3] at w
            obtain ⟨v', h1, h2⟩ := r.get e3
            exact mt_popAt pins s σ H _ _ a us Q I ra rs ⟨_, _, _, _, _, rfl, rfl, q, hb.1, hb.2, by rw [← r.length]; exact e2, h1, k _ _ _ _ w (.lst q) (h2.mono (.lst q)) (hr.write q (r.erase j))⟩
theorem md_join : MtR X "str.join" (upM X.K joinD) := by
  rintro pins s σ H v vs a us Q I ra rs ⟨x, xs, M, P, dx, ds, hr, w, k⟩
  cases dx <;> first | exact False.elim w | skip
  rename_i z
  match xs, ds with
  | [], _ => exact False.elim w
  | _ :: _ :: _, _ => exact False.elim w
  | [y], .cons dy .nil =>
    simp only [joinD] at w
    cases e : itemsD y M with
    | none => simp only [e] at w
    | some es =>
      simp only [e] at w
      cases e2 : strsOf es with
      | none => simp only [e2] at w
      | some ys =>
        simp only [e2] at w
        obtain ⟨p, ws, rfl, q, r⟩ := items_of dy hr e
        rw [strsOf_rel r e2] at q
        exact mt_join pins s σ H _ _ a us Q I ra rs ⟨_, _, _, rfl, rfl, q, w.1, k _ _ _ _ w.2 (.refl _ _) (.str _) hr⟩
end
end DL
/-! DLs: sorted, of ints, texts, flat tuples of them. -/
namespace DL
open PySem PySem.Spec L2
open PyProof.Rows hiding St

/-! ### rows of ints in their order -/
theorem li_swo {α : Type} (k : α → List Int) : SrtO.Swo fun x y => decide (k x < k y) := by
  refine ⟨fun x y h => ?_, fun x y z h1 h2 => ?_⟩
  · have a := of_decide_eq_true h
    exact decide_eq_false (List.lt_asymm a)
  · have a := of_decide_eq_false h1
    have b := of_decide_eq_false h2
    exact decide_eq_false (List.not_lt.mpr (List.le_trans (List.not_lt.mp a) (List.not_lt.mp b)))
/-- a text as a row that ends itself -/
def eS (s : Str) : List Int := s.cps.toList.map (fun n : Nat => (n : Int)) ++ [-1]
theorem eS_lt : ∀ (a b : List Nat) (r q : List Int), (a.map (fun n : Nat => (n : Int)) ++ [-1]) ++ r < (b.map (fun n : Nat => (n : Int)) ++ [-1]) ++ q ↔ if a = b then r < q else a < b
  | [], [], r, q => by simp [List.cons_lt_cons_iff]
  | [], y :: b, r, q => by
    rw [if_neg (by simp)]
    have : (-1 : Int) < (y : Int) := by omega
    simp [List.cons_lt_cons_iff, this]
  | x :: a, [], r, q => by
    rw [if_neg (by simp)]
    have h1 : ¬ (x : Int) < -1 := by omega
    have h2 : ¬ (x : Int) = -1 := by omega
    simp [List.cons_lt_cons_iff, h1, h2]
  | x :: a, y :: b, r, q => by
    have ih := eS_lt a b r q
    rw [List.map_cons, List.map_cons, List.cons_append, List.cons_append, List.cons_append, List.cons_append, List.cons_lt_cons_iff, ih]
    by_cases e : x = y
    · subst e
      by_cases e2 : a = b
      · subst e2
        simp
      · have hne : ¬ (x :: a = x :: b) := by simp [e2]
        rw [if_neg e2, if_neg hne]
        have : (x :: a < x :: b) ↔ (x < x ∨ x = x ∧ a < b) := List.cons_lt_cons_iff
        rw [this]
        simp only [true_and, Int.lt_irrefl, Nat.lt_irrefl]
    · have hne : ¬ (x :: a = y :: b) := by simp [e]
      rw [if_neg hne]
      have : (x :: a < y :: b) ↔ (x < y ∨ x = y ∧ a < b) := List.cons_lt_cons_iff
      rw [this]
      have e3 : ¬ ((x : Int) = (y : Int)) := by omega
      simp only [e, e3, false_and, or_false, Int.ofNat_lt]
/-! ### items -/
inductive Kn where
  | int
  | str
def isK : Kn → Value → Prop
  | .int, v => ∃ i t, v = .int i t
  | .str, v => ∃ x t, v = .str x t
def ea : Value → List Int
  | .int i _ => [i]
  | .str x _ => eS x
  | _ => []
def tv (h : Heap) : Value → List Int
  | .ref a => match h.get? a with
    | some o => match o.data with
      | .seq xs _ => xs.toList.flatMap ea
      | _ => []
    | none => []
  | _ => []
section
variable {prog : Program} {w : World} {A : Around} {E : Value → Shared → Prop} {s : Shared}
theorem oneLt_strs (c : Bool) {a b : Str} {t u : Tok} {Q : Bool → Shared → Prop} (h : Q (decide (a.cps.toList < b.cps.toList)) s) : wpAny (model prog w) A (oneLt' c (.str a t) (.str b u)) Q E s := by
  cases c with
  | true => exact oneLt_str h
  | false => exact PySem.W.kat_one _ _ (PyProof.Rows.lt_str (Q := PySem.W.BoolBack Q) h)
theorem lex_run {b : Bool} {Q : Bool → Shared → Prop} : ∀ {ks : List Kn} {xs ys : List Value} (i : Nat), Paired isK ks xs → Paired isK ks ys → Q (decide (xs.flatMap ea < ys.flatMap ea)) s → PySem.W.KatLex prog w A b false Q (xs.zip ys) i s
  | _, _, _, i, .nil, .nil, h => PySem.W.kat_nil (by simpa using h)
  | .int :: ks, _, _, i, .cons (b := v) (l₂ := xs) h1 r1, .cons (b := u) (l₂ := ys) h2 r2, h => by
    obtain ⟨m, t, rfl⟩ := h1
    obtain ⟨n, t', rfl⟩ := h2
    refine PySem.W.kat_cons (SeqAt.EqAt.int_int m t n t' prog w _ _ ?_)
    have e : ((Value.int m t :: xs).flatMap ea < (Value.int n t' :: ys).flatMap ea) ↔ (m < n ∨ m = n ∧ xs.flatMap ea < ys.flatMap ea) := by
      rw [List.flatMap_cons, List.flatMap_cons]
      exact List.cons_lt_cons_iff
    refine PySem.W.kat_go (fun e1 => ?_) (fun e1 => ?_)
    · have ex : m = n := by simpa using e1
      subst ex
      refine PySem.W.kat_yes (lex_run (i + 1) r1 r2 ?_)
      have e2 : decide (xs.flatMap ea < ys.flatMap ea) = decide ((Value.int m t :: xs).flatMap ea < (Value.int m t' :: ys).flatMap ea) := decide_eq_decide.mpr (by rw [e]; simp)
      rw [e2]; exact h
    · have ex : ¬ m = n := by simpa using e1
      refine PySem.W.kat_no (TS.oneLt_ints _ ?_)
      have e2 : decide (m < n) = decide ((Value.int m t :: xs).flatMap ea < (Value.int n t' :: ys).flatMap ea) := decide_eq_decide.mpr (by rw [e]; simp [ex])
      rw [e2]; exact h
  | .str :: ks, _, _, i, .cons (b := v) (l₂ := xs) h1 r1, .cons (b := u) (l₂ := ys) h2 r2, h => by
    obtain ⟨m, t, rfl⟩ := h1
    obtain ⟨n, t', rfl⟩ := h2
    refine PySem.W.kat_cons (SeqAt.EqAt.str_str m t n t' prog w _ _ ?_)
    have e : ((Value.str m t :: xs).flatMap ea < (Value.str n t' :: ys).flatMap ea) ↔ (if m.cps.toList = n.cps.toList then xs.flatMap ea < ys.flatMap ea else m.cps.toList < n.cps.toList) := by
      rw [List.flatMap_cons, List.flatMap_cons]
      exact eS_lt _ _ _ _
    refine PySem.W.kat_go (fun e1 => ?_) (fun e1 => ?_)
    · have ex : m = n := by simpa using e1
      subst ex
      refine PySem.W.kat_yes (lex_run (i + 1) r1 r2 ?_)
      have e2 : decide (xs.flatMap ea < ys.flatMap ea) = decide ((Value.str m t :: xs).flatMap ea < (Value.str m t' :: ys).flatMap ea) := decide_eq_decide.mpr (by rw [e, if_pos rfl])
      rw [e2]; exact h
    · have ex : ¬ m = n := by simpa using e1
      have ex2 : ¬ m.cps.toList = n.cps.toList := fun z => ex (by cases m; cases n; simp only [Str.mk.injEq]; exact Array.toList_inj.mp z)
      refine PySem.W.kat_no (oneLt_strs _ ?_)
      have e2 : decide (m.cps.toList < n.cps.toList) = decide ((Value.str m t :: xs).flatMap ea < (Value.str n t' :: ys).flatMap ea) := decide_eq_decide.mpr (by rw [e, if_neg ex2])
      rw [e2]; exact h
/-- a flat tuple -/
def IsTp (h : Heap) (ks : List Kn) (v : Value) : Prop := ∃ a o xs n, v = .ref a ∧ h.get? a = some o ∧ o.cls = .type "tuple" ∧ o.data = .seq xs n ∧ Paired isK ks xs.toList
theorem IsTp.keeps {h h' : Heap} {ks : List Kn} {v : Value} (x : IsTp h ks v) (k : ∀ b o, h.get? b = some o → o.cls = .type "tuple" → h'.get? b = some o) : IsTp h' ks v := by
  obtain ⟨a, o, xs, n, e, ho, hc, hd, r⟩ := x
  exact ⟨a, o, xs, n, e, k a o ho hc, hc, hd, r⟩
theorem IsTp.tv {h h' : Heap} {ks : List Kn} {v : Value} (x : IsTp h ks v) (k : ∀ b o, h.get? b = some o → o.cls = .type "tuple" → h'.get? b = some o) : tv h' v = DL.tv h v := by
  obtain ⟨a, o, xs, n, rfl, ho, hc, hd, r⟩ := x
  show (match h'.get? a with | some o => _ | none => _) = (match h.get? a with | some o => _ | none => _)
  rw [ho, k a o ho hc]
theorem tup_cmp {vs : List Value} {ks : List Kn} {b : Bool} (hp : ∀ v ∈ vs, IsTp s.heap ks v) : SrtO.Cmp prog w A s (tuples' b) (fun p => p.1 ∈ vs) (SrtO.lt2 fun v u => decide (tv s.heap v < tv s.heap u)) := by
  intro p q hm hm'
  show wpAny (model prog w) A (keyLt' (tuples' b) p.1 q.1) (fun r s' => s' = s ∧ r = decide (tv s.heap p.1 < tv s.heap q.1)) (fun _ _ => False) s
  obtain ⟨a, o, xs, n, e, ho, hc, hd, r⟩ := hp _ hm
  obtain ⟨a', o', xs', n', e', ho', hc', hd', r'⟩ := hp _ hm'
  rw [e, e']
  have t1 : tv s.heap (.ref a) = xs.toList.flatMap ea := by
    show (match s.heap.get? a with | some o => _ | none => _) = _
    rw [ho]; show (match o.data with | .seq xs _ => _ | _ => _) = _
    rw [hd]
  have t2 : tv s.heap (.ref a') = xs'.toList.flatMap ea := by
    show (match s.heap.get? a' with | some o => _ | none => _) = _
    rw [ho']; show (match o'.data with | .seq xs _ => _ | _ => _) = _
    rw [hd']
  rw [t1, t2]
  refine PySem.W.kat_lt ho hd ho' hd' ?_
  have hl : xs.size = xs'.size := by
    have h1 := Paired.length r
    have h2 := Paired.length r'
    simp only [Array.length_toList] at h1 h2
    omega
  rw [show decide (xs.size < xs'.size) = false from decide_eq_false (by omega)]
  exact lex_run 0 r r' ⟨rfl, rfl⟩
theorem tup_firsts {h : Heap} {k : Kn} {ks : List Kn} : ∀ {vs : List Value}, (∀ v ∈ vs, IsTp h (k :: ks) v) → ∃ fs : List Value, PySem.W.KatTups h vs fs ∧ fs.length = vs.length ∧ ∀ f ∈ fs, isK k f
  | [], _ => ⟨[], PySem.W.KatTups.nil, rfl, fun _ hm => by simp at hm⟩
  | v :: vs, hp => by
    obtain ⟨fs, h1, h2, h3⟩ := tup_firsts (vs := vs) fun v' hm => hp v' (List.mem_cons_of_mem _ hm)
    obtain ⟨a, o, xs, n, rfl, ho, hc, hd, r⟩ := hp v List.mem_cons_self
    obtain ⟨f, fr, ex, hf⟩ : ∃ f fr, xs.toList = f :: fr ∧ isK k f := by
      generalize xs.toList = l at r
      cases r with
      | cons h _ => exact ⟨_, _, rfl, h⟩
    have e0 : xs[0]? = some f := by rw [← Array.getElem?_toList, ex]; rfl
    refine ⟨f :: fs, PySem.W.KatTups.cons ho hc hd e0 h1, by rw [List.length_cons, List.length_cons, h2], fun g hm => ?_⟩
    rcases List.mem_cons.mp hm with rfl | hm
    · exact hf
    · exact h3 g hm
theorem tup_sortable {a : Addr} {vs : List Value} {k : Kn} {ks : List Kn} (h0 : 0 < vs.length) (hp : ∀ v ∈ vs, IsTp s.heap (k :: ks) v) (ha : ∀ o, s.heap.get? a = some o → o.cls ≠ .type "tuple") : SrtO.SortableO prog w A s a vs fun v u => decide (tv s.heap v < tv s.heap u) := by
  intro h' keep
  have kk : ∀ b o, s.heap.get? b = some o → o.cls = .type "tuple" → h'.get? b = some o := fun b o e c => keep b o (fun z => by subst z; exact ha o e c) e
  have hp' : ∀ v ∈ vs, IsTp h' (k :: ks) v := fun v hm => (hp v hm).keeps kk
  obtain ⟨fs, h1, h2, h3⟩ := tup_firsts hp'
  have cmp : ∀ b, SrtO.Cmp prog w A { s with heap := h' } (tuples' b) (fun p => p.1 ∈ vs) (SrtO.lt2 fun v u => decide (tv s.heap v < tv s.heap u)) := fun b p q hm hm' => by
    have := tup_cmp (s := { s with heap := h' }) (prog := prog) (w := w) (A := A) (b := b) hp' p q hm hm'
    have e1 := (hp _ hm).tv kk
    have e2 := (hp _ hm').tv kk
    show wpAny (model prog w) A (keyLt' (tuples' b) p.1 q.1) (fun r s' => s' = _ ∧ r = decide (tv s.heap p.1 < tv s.heap q.1)) (fun _ _ => False) _
    rw [← e1, ← e2]
    exact this
  cases k with
  | int =>
    refine ⟨tuples' true, fun Q E hq => ?_, cmp _⟩
    refine PySem.W.kat_kind (T := .type "int") h1 (by omega) (fun f hm => ?_) (by rfl) ?_
    · obtain ⟨x, t, rfl⟩ := h3 f hm
      exact PySem.W.Looks.now
    · have e : (Value.type "int" != Value.type "tuple") = true := by first | decide +kernel | rfl | decide
      rw [e]
      exact hq
  | str =>
    refine ⟨tuples' true, fun Q E hq => ?_, cmp _⟩
    refine PySem.W.kat_kind (T := .type "str") h1 (by omega) (fun f hm => ?_) (by rfl) ?_
    · obtain ⟨x, t, rfl⟩ := h3 f hm
      exact PySem.W.Looks.now
    · have e : (Value.type "str" != Value.type "tuple") = true := by first | decide +kernel | rfl | decide
      rw [e]
      exact hq
end

/-! ### in data -/
def eA : D → List Int
  | .int i => [i]
  | .str s => eS s
  | _ => []
def eD : D → List Int
  | .int i => [i]
  | .str s => eS s
  | .tup ds => ds.flatMap eA
  | _ => []
def isKD : Kn → D → Prop
  | .int, d => ∃ i, d = .int i
  | .str, d => ∃ s, d = .str s
/-- what can be sorted -/
def SortK (ds : List D) : Prop := (∀ d ∈ ds, ∃ i, d = .int i) ∨ (∀ d ∈ ds, ∃ s, d = .str s) ∨ ∃ k ks, ∀ d ∈ ds, ∃ es, d = .tup es ∧ Paired isKD (k :: ks) es
def sortedD : List D → Mh → PQ → Prop
  | [x], M, P => match litemsD x M with
    | some ds => SortK ds ∧ ∀ ys p, ys.Perm ds → ys.Pairwise (fun a b => ¬ (eD b < eD a)) → M p = none → P (.ref p) (mup M p (.lst ys))
    | none => False
  | _, _, _ => False
theorem perm_map_inv {α β : Type} {f : α → β} {m n : List β} (h : m.Perm n) : ∀ l : List α, n = l.map f → ∃ l' : List α, l'.Perm l ∧ l'.map f = m := by
  induction h with
  | nil => intro l e; exact ⟨[], by rw [List.map_eq_nil_iff.mp e.symm], rfl⟩
  | cons x _ ih =>
    intro l e
    match l, e with
    | a :: r, e =>
      rw [List.map_cons] at e
      injection e with e1 e2
      obtain ⟨l', h1, h2⟩ := ih r e2
      exact ⟨a :: l', h1.cons a, by rw [List.map_cons, h2, e1]⟩
  | swap x y l0 =>
    intro l e
    match l, e with
    | a :: b :: r, e =>
      rw [List.map_cons, List.map_cons] at e
      injection e with e1 e2
      injection e2 with e2 e3
      exact ⟨b :: a :: r, List.Perm.swap a b r, by rw [List.map_cons, List.map_cons, ← e1, ← e2, ← e3]⟩
  | trans _ _ ih1 ih2 =>
    intro l e
    obtain ⟨l1, h1, h2⟩ := ih2 l e
    obtain ⟨l2, h3, h4⟩ := ih1 l1 h2.symm
    exact ⟨l2, h3.trans h1, h4⟩
section
variable {K : PySem.W.Frag} {H : Hp}
/-- a list of values and its data, side by side -/
theorem side {X : Cx} : ∀ {ds : List D} {vs : List V} {us : List Value}, DRs X.K H ds vs → Vals vs us → ∃ zs : List (D × V × Value), zs.map (·.1) = ds ∧ zs.map (·.2.2) = us ∧ ∀ z ∈ zs, DR X.K H z.1 z.2.1 ∧ RelV z.2.1 z.2.2
  | _, _, _, .nil, .nil => ⟨[], rfl, rfl, fun _ h => by simp at h⟩
  | _, _, _, .cons (d := d) (v := v) h r, .cons (b := u) h2 r2 => by
    obtain ⟨zs, e1, e2, e3⟩ := side (X := X) r r2
    refine ⟨(d, v, u) :: zs, by rw [List.map_cons, e1], by rw [List.map_cons, e2], fun z hz => ?_⟩
    rcases List.mem_cons.mp hz with rfl | hz
    · exact ⟨h, h2⟩
    · exact e3 z hz
theorem unside {X : Cx} : ∀ {zs : List (D × V × Value)}, (∀ z ∈ zs, DR X.K H z.1 z.2.1 ∧ RelV z.2.1 z.2.2) → DRs X.K H (zs.map (·.1)) (zs.map (·.2.1)) ∧ Vals (zs.map (·.2.1)) (zs.map (·.2.2))
  | [], _ => ⟨.nil, .nil⟩
  | z :: zs, h => by
    obtain ⟨h1, h2⟩ := unside (X := X) (zs := zs) fun y hy => h y (List.mem_cons_of_mem _ hy)
    have h0 := h z List.mem_cons_self
    exact ⟨.cons h0.1 h1, .cons h0.2 h2⟩
theorem ea_rel {d : D} {v : V} {u : Value} (r : DR K H d v) (q : RelV v u) (c : ∃ k, isKD k d) : ea u = eA d := by
  obtain ⟨k, c⟩ := c
  cases k with
  | int =>
    obtain ⟨i, rfl⟩ := c
    cases r
    obtain ⟨t, rfl⟩ := q
    rfl
  | str =>
    obtain ⟨i, rfl⟩ := c
    cases r
    obtain ⟨t, rfl⟩ := q
    rfl
theorem isK_rel {d : D} {v : V} {u : Value} {k : Kn} (r : DR K H d v) (q : RelV v u) (c : isKD k d) : isK k u := by
  cases k with
  | int =>
    obtain ⟨i, rfl⟩ := c
    cases r
    obtain ⟨t, rfl⟩ := q
    exact ⟨_, _, rfl⟩
  | str =>
    obtain ⟨i, rfl⟩ := c
    cases r
    obtain ⟨t, rfl⟩ := q
    exact ⟨_, _, rfl⟩
theorem flat_rel : ∀ {ks : List Kn} {es : List D} {vs : List V} {us : List Value}, Paired isKD ks es → DRs K H es vs → Vals vs us → Paired isK ks us ∧ us.flatMap ea = es.flatMap eA
  | _, _, _, _, .nil, .nil, .nil => ⟨.nil, rfl⟩
  | _, _, _, _, .cons c p, .cons h r, .cons h2 r2 => by
    obtain ⟨q1, q2⟩ := flat_rel p r r2
    exact ⟨.cons (isK_rel h h2 c) q1, by rw [List.flatMap_cons, List.flatMap_cons, q2, ea_rel h h2 ⟨_, c⟩]⟩
end
section
variable {X : Cx}
theorem tp_rel {pins : List (Addr × Obj)} {σ : St} {H : Hp} {s : Shared} (I : Inv X pins σ H s) {d : D} {v : V} {u : Value} {ks : List Kn} {es : List D} (r : DR X.K H d v) (q : RelV v u) (e : d = .tup es) (c : Paired isKD ks es) : IsTp s.heap ks u ∧ tv s.heap u = eD d := by
  subst e
  cases r with
  | tup h r' =>
    rename_i a vs
    obtain rfl : u = Value.ref a := q
    obtain ⟨its, rv, ⟨o, ho, hc, n, hd⟩, _⟩ := I.tuple (SqT.of h)
    obtain ⟨k1, k2⟩ := flat_rel c r' rv
    refine ⟨⟨a, o, its.toArray, n, rfl, ho, hc, hd, by simpa using k1⟩, ?_⟩
    show (match s.heap.get? a with | some o => _ | none => _) = _
    rw [ho]
    show (match o.data with | .seq xs _ => _ | _ => _) = _
    rw [hd]
    simpa [eD] using k2
theorem fd_sorted : CallR X (.builtin "sorted") (upL X.K sortedD) := by
  rintro pins s σ H vs us Q I r ⟨xs, M, P, dx, hr, w, k⟩
  match xs, dx with
  | [], _ => exact False.elim w
  | _ :: _ :: _, _ => exact False.elim w
  | [x], .cons d .nil =>
    simp only [sortedD] at w
    cases e : litemsD x M with
    | none => simp only [e] at w
    | some ds =>
      simp only [e] at w
      obtain ⟨sk, w⟩ := w
      obtain ⟨p, ws, rfl, q, r'⟩ := litems_of d hr e
      obtain ⟨its, rv, hl, hz⟩ := I.list q
      rw [Vals.ref1 r]
      obtain ⟨zs, z1, z2, z3⟩ := side (X := X) r' rv
      have fin : ∀ (kv : Value → List Int), (∀ z ∈ zs, kv z.2.2 = eD z.1) → (2 ≤ its.length → ∀ (h₁ : Heap) (a : Addr), h₁.get? a = some (seqObj "list" its.toArray 0) → (∀ b o, s.heap.get? b = some o → b ≠ a ∧ h₁.get? b = some o) → SrtO.SortableO X.prog X.w X.A.in1.in1 { s with heap := h₁ } a its fun v u => decide (kv v < kv u)) →
          wpAny (model X.prog X.w) X.A (call (.builtin "sorted") [.ref p]) (EP X pins σ Q) X.xe s := fun kv hk hs => by
        refine SrtO.sorted_ord (li_swo kv) hl.isList (by rw [← rv.length]; exact hz) hs fun out h1 h2 => ?_
        obtain ⟨zs', p1, p2⟩ := perm_map_inv h2.perm zs z2.symm
        have z3' : ∀ z ∈ zs', DR X.K H z.1 z.2.1 ∧ RelV z.2.1 z.2.2 := fun z hz => z3 z (p1.mem_iff.mp hz)
        obtain ⟨u1, u2⟩ := unside (X := X) z3'
        rw [p2] at u2
        have hys : (zs'.map (·.1)).Perm ds := by rw [← z1]; exact p1.map _
        have hpw : (zs'.map (·.1)).Pairwise (fun a b => ¬ (eD b < eD a)) := by
          rw [← p2] at h1
          have h1 := List.pairwise_map.mp h1
          refine List.pairwise_map.mpr (List.Pairwise.imp_of_mem (fun {a b} ma mb hab => ?_) h1)
          have := of_decide_eq_false hab
          rw [hk a (p1.mem_iff.mp ma), hk b (p1.mem_iff.mp mb)] at this
          exact this
        obtain ⟨ep, he'⟩ := PyProof.Rows.sortedAll_at s.heap its out.toArray
        have hlen : (zs'.map (·.2.1)).length ≤ sizeLine := by
          have : (zs'.map (·.2.1)).length = ws.length := by
            rw [List.length_map, p1.length_eq, ← r'.length, ← z1, List.length_map]
          rw [this]; exact hz
        have np := I.hok.fresh (Nat.le_succ s.heap.objs.size)
        exact ⟨.ref _, upd H (s.heap.objs.size + 1) (.lst (zs'.map (·.2.1))), I.laid (t' := s.toks) (fun _ _ => PyProof.Rows.sortedAll_old) (Nat.le_succ _) ⟨hlen, out, ep, u2, he'⟩, rfl,
          k _ _ _ _ (w _ _ hys hpw (hr.free np)) (.fresh np) (.ref _) (hr.new np u1)⟩
      have mem_ds : ∀ z ∈ zs, z.1 ∈ ds := fun z hz => by rw [← z1]; exact List.mem_map_of_mem hz
      rcases sk with sk | sk | ⟨kn, ks, sk⟩
      · have hi : ∀ z ∈ zs, ∃ i t, z.1 = .int i ∧ z.2.2 = Value.int i t := fun z hz => by
          obtain ⟨i, e1⟩ := sk _ (mem_ds z hz)
          obtain ⟨h1, h2⟩ := z3 z hz
          rw [e1] at h1
          generalize z.2.1 = vv at h1 h2
          cases h1
          obtain ⟨t, e2⟩ := h2
          exact ⟨i, t, e1, e2⟩
        have hI : IntsAre its (its.map SrtO.iv) := SrtO.ints_iv fun v hv => by
          rw [← z2] at hv
          obtain ⟨z, hz, rfl⟩ := List.mem_map.mp hv
          obtain ⟨i, t, _, e2⟩ := hi z hz
          exact ⟨i, t, e2⟩
        refine fin ea (fun z hz => ?_) fun h2 h₁ a _ _ => ?_
        · obtain ⟨i, t, e1, e2⟩ := hi z hz
          rw [e1, e2]; rfl
        · have := SrtO.ints_sortable (prog := X.prog) (w := X.w) (A := X.A.in1.in1) (s := { s with heap := h₁ }) (a := a) hI h2
          intro h' keep
          obtain ⟨κ, c1, c2⟩ := this h' keep
          refine ⟨κ, c1, fun p q hm hm' => ?_⟩
          have c3 := c2 p q hm hm'
          obtain ⟨i, t, e1⟩ := SrtO.ints_mem hI _ hm
          obtain ⟨j, t', e2⟩ := SrtO.ints_mem hI _ hm'
          refine wpAny_mono c3 (fun r' s' hh => ⟨hh.1, hh.2.trans ?_⟩) fun _ _ z => z
          show SrtO.ltIv p.1 q.1 = decide (ea p.1 < ea q.1)
          rw [e1, e2]
          show decide (i < j) = decide ([i] < [j])
          refine decide_eq_decide.mpr ?_
          rw [List.cons_lt_cons_iff]
          simp
      · have hi : ∀ z ∈ zs, ∃ i t, z.1 = .str i ∧ z.2.2 = Value.str i t := fun z hz => by
          obtain ⟨i, e1⟩ := sk _ (mem_ds z hz)
          obtain ⟨h1, h2⟩ := z3 z hz
          rw [e1] at h1
          generalize z.2.1 = vv at h1 h2
          cases h1
          obtain ⟨t, e2⟩ := h2
          exact ⟨i, t, e1, e2⟩
        have hS : ∀ v ∈ its, ∃ i t, v = Value.str i t := fun v hv => by
          rw [← z2] at hv
          obtain ⟨z, hz, rfl⟩ := List.mem_map.mp hv
          obtain ⟨i, t, _, e2⟩ := hi z hz
          exact ⟨i, t, e2⟩
        have hA : ∀ l : List Value, (∀ v ∈ l, ∃ i t, v = Value.str i t) → ∃ ss, StrsAre l ss := fun l => by
          induction l with
          | nil => exact fun _ => ⟨[], .nil⟩
          | cons v l ih =>
            intro h
            obtain ⟨i, t, rfl⟩ := h v List.mem_cons_self
            obtain ⟨ss, hs⟩ := ih fun u hu => h u (List.mem_cons_of_mem _ hu)
            exact ⟨i :: ss, .cons i t hs⟩
        refine fin ea (fun z hz => ?_) fun h2 h₁ a _ _ => ?_
        · obtain ⟨i, t, e1, e2⟩ := hi z hz
          rw [e1, e2]; rfl
        · intro h' keep
          refine ⟨oneType', fun Q' E' hq => ?_, fun p q hm hm' => ?_⟩
          · obtain ⟨ss, hs⟩ := hA its hS
            generalize its = l at hs h2
            match l, hs, h2 with
            | v1 :: v2 :: rest, hs, _ =>
              rw [keyKind_strs hs]
              exact wpAny_pure hq
            | [], _, h => exact absurd h (by decide)
            | [v], _, h => exact absurd h (by simp)
          · obtain ⟨i, t, e1⟩ := hS _ hm
            obtain ⟨j, t', e2⟩ := hS _ hm'
            show wpAny (model X.prog X.w) _ (keyLt' oneType' p.1 q.1) (fun r s' => s' = _ ∧ r = decide (ea p.1 < ea q.1)) (fun _ _ => False) _
            rw [e1, e2, keyLt'_oneType]
            refine oneLt_str ⟨rfl, decide_eq_decide.mpr ?_⟩
            have := eS_lt i.cps.toList j.cps.toList [] []
            rw [List.append_nil, List.append_nil] at this
            show i.cps.toList < j.cps.toList ↔ eS i < eS j
            rw [eS, eS, this]
            by_cases e : i.cps.toList = j.cps.toList
            · rw [if_pos e, e]
              exact ⟨fun h => absurd h (List.lt_irrefl _), fun h => absurd h (List.lt_irrefl _)⟩
            · rw [if_neg e]
      · have hi : ∀ z ∈ zs, IsTp s.heap (kn :: ks) z.2.2 ∧ tv s.heap z.2.2 = eD z.1 := fun z hz => by
          obtain ⟨es, e1, c⟩ := sk _ (mem_ds z hz)
          exact tp_rel I (z3 z hz).1 (z3 z hz).2 e1 c
        have hT : ∀ v ∈ its, IsTp s.heap (kn :: ks) v := fun v hv => by
          rw [← z2] at hv
          obtain ⟨z, hz, rfl⟩ := List.mem_map.mp hv
          exact (hi z hz).1
        refine fin (tv s.heap) (fun z hz => (hi z hz).2) fun h2 h₁ a ha kk => ?_
        have kk' : ∀ b o, s.heap.get? b = some o → o.cls = .type "tuple" → h₁.get? b = some o := fun b o e _ => (kk b o e).2
        have := tup_sortable (prog := X.prog) (w := X.w) (A := X.A.in1.in1) (s := { s with heap := h₁ }) (a := a) (vs := its) (k := kn) (ks := ks) (by omega) (fun v hm => (hT v hm).keeps kk') fun o e => by
          have e' : some o = some (seqObj "list" its.toArray 0) := e.symm.trans ha
          cases e'
          intro c
          exact absurd (Value.type.inj c) (by decide)
        intro h' keep
        obtain ⟨κ, c1, c2⟩ := this h' keep
        refine ⟨κ, c1, fun p q hm hm' => wpAny_mono (c2 p q hm hm') (fun r' s' hh => ⟨hh.1, hh.2.trans ?_⟩) fun _ _ z => z⟩
        show decide (tv h₁ p.1 < tv h₁ q.1) = decide (tv s.heap p.1 < tv s.heap q.1)
        rw [(hT _ hm).tv kk', (hT _ hm').tv kk']
end
end DL
/-! DLr: list(reversed(x)). -/
namespace DL
open PySem PySem.Spec L2 RT
open PyProof.Rows hiding St

theorem nolen_rt : typeLookup (.type "reversed") "__len__" = pure none := by rw [typeLookup_type, builtinLookup_eq_fast]; kernel_rfl
theorem hint_rt : typeLookup (.type "reversed") "__length_hint__" = pure (some (.builtin "reversed.__length_hint__")) := by rw [typeLookup_type, builtinLookup_eq_fast]; kernel_rfl
section
variable {prog : Program} {w : World} {A : Around} {E : Value → Shared → Prop} {s : Shared}
theorem hintq_lri {it : Addr} {Q : Bool → Shared → Prop} (hT : s.TypeIs (.ref it) "list_reverseiterator") (h : Q false s) : wpAny (model prog w) A (Builtin.List.listLengthHint (.ref it)) Q E s := by
  unfold Builtin.List.listLengthHint
  refine wpAny_bind (wpAny_specialOf hT nolen_lri ?_)
  show wpAny _ A (specialOf (Value.ref it) (Str.ofString "__length_hint__") >>= _) _ _ _
  refine wpAny_bind (wpAny_specialOf hT hint_lri ?_)
  generalize hid : ("list_reverseiterator.__length_hint__" : String) = id0
  wp_delta
  rw [show splitId id0 = some ("list_reverseiterator", "__length_hint__") from by subst hid; decide +kernel]
  subst hid
  refine wpAny_bind (wpAny_isInstance (b := true) hT (by rw [isSubtype_type]; kernel_rfl) ?_)
  exact wpAny_pure h
theorem plain_rt_hint : plainId "reversed.__length_hint__" = true := by decide +kernel
theorem slot_rt_hint : Slot "reversed" "__length_hint__" "reversed.__length_hint__" :=
  .of (owner := "reversed") (n := "__length_hint__") (by rw [typeLookup_type, builtinLookup_eq_fast]; kernel_rfl) (by decide +kernel) (by decide +kernel) (by decide +kernel)
    (by first | exact .inl (by decide +kernel) | exact .inr (by decide +kernel)) (by rw [isSubtype_type]; kernel_rfl)
theorem entry_rt_hint : entryFor table "reversed.__length_hint__" = some Builtin.«reversed.__length_hint__» := entryFor_of_tree (by kernel_rfl)
theorem args_rt_hint (a : Value) : argsOk "reversed.__length_hint__" ⟨[a], []⟩ := by
  unfold argsOk; rw [signature?_of (id := "reversed.__length_hint__") (n := ['_', '_', 't', 'n', 'i', 'h', '_', 'h', 't', 'g', 'n', 'e', 'l', '_', '_']) (o := ['d', 'e', 's', 'r', 'e', 'v', 'e', 'r']) (by kernel_rfl) owner_rt]; kernel_rfl
theorem bind_rt_hint (self : Value) : bindSpecial (.builtin "reversed.__length_hint__") self = pure (.builtin "reversed.__length_hint__", [self]) := by
  unfold bindSpecial
  rw [show typeOf (.builtin "reversed.__length_hint__") = pure (.type "method_descriptor") from by show builtinType _ = _; rw [builtinType_eq_fast]; kernel_rfl]
  rfl
theorem hintq_rt {it t : Addr} {items : Array Value} {Q : Bool → Shared → Prop} (hit : IsRt s.heap it t ((items.size : Int) - 1)) (ht : IsTup s.heap t items) (hz : items.size ≤ sizeLine) (h : ∀ b tk, Q b { s with toks := tk }) :
    wpAny (model prog w) A (Builtin.List.listLengthHint (.ref it)) Q E s := by
  have hT := hit.typeIs
  obtain ⟨o, ho, hc, hd⟩ := id hit
  unfold Builtin.List.listLengthHint
  refine wpAny_bind (wpAny_specialOf hT nolen_rt ?_)
  show wpAny _ A (specialOf (Value.ref it) (Str.ofString "__length_hint__") >>= _) _ _ _
  refine wpAny_bind (wpAny_specialOf hT hint_rt ?_)
  generalize hid : ("reversed.__length_hint__" : String) = id0
  wp_delta
  rw [show splitId id0 = some ("reversed", "__length_hint__") from by subst hid; decide +kernel]
  subst hid
  refine wpAny_bind (wpAny_isInstance (b := true) hT (by rw [isSubtype_type]; kernel_rfl) ?_)
  try rw [if_neg (by decide)]
  try dsimp only
  rw [if_neg (by decide +kernel)]
  refine wpAny_bind (wpAny_rule ?_)
  rw [bind_rt_hint]
  refine wpAny_bind (wpAny_pure ?_)
  refine wpAny_bind (wpAny_attempt (wpAny_call_entry slot_rt_hint hT entry_rt_hint ?_ (args_rt_hint _)))
  unfold Builtin.«reversed.__length_hint__»
  refine wpAny_bind (wpAny_of_eq (a := Value.ref it) rfl ?_)
  try dsimp only
  refine wpAny_bind (wpAny_field ho hd (x := .ref t) rfl ?_)
  try dsimp only
  have hne : ¬ (Value.ref t == Value.none) = true := fun z => by
    have := eq_of_beq z
    cases this
  rw [if_neg hne]
  have hz' := hz
  rw [sizeLine_eq] at hz'
  refine wpAny_bind (len_tuple ht (by omega) ?_)
  refine wpAny_bind (wpAny_of_eq (a := some ((items.size : Nat) : Int)) rfl ?_)
  try dsimp only
  refine wpAny_bind (wpAny_field (s := { s with toks := s.toks + 1 + 1 }) ho hd (x := rawInt ((items.size : Int) - 1)) rfl ?_)
  show wpAny _ _ (if (items.size : Int) < ((items.size : Int) - 1) + 1 then _ else _) _ _ _
  rw [if_neg (by omega)]
  unfold retInt
  refine wpAny_bind (wpAny_mkInt (wpAny_pure ⟨_, rfl, ?_⟩))
  refine wpAny_bind (wpAny_of_eq (a := some (((items.size : Int) - 1) + 1)) rfl ?_)
  try dsimp only
  rw [if_neg (by
    simp only [Builtin.List.listFitsIndex, Bool.not_eq_true', Bool.and_eq_false_iff, decide_eq_false_iff_not]
    omega)]
  rw [if_neg (by omega)]
  rw [if_neg (by
    simp only [Builtin.List.listTooLong, decide_eq_true_eq]
    omega)]
  exact wpAny_pure (h _ _)
/-- a walk over reversed(a tuple) -/
theorem walks_tupRev (hh : A.handled = none) (I t : Addr) (hne : t ≠ I) (items : Array Value) (hz : items.size ≤ sizeLine) :
    Walks prog w A I [I, t] [I] items.size (fun i v => items[items.size - 1 - i]? = some v) (fun i h => i ≤ items.size ∧ IsRt h I t ((items.size : Int) - 1 - (i : Int)) ∧ IsTup h t items) where
  sub := fun b hb => by simp at hb; simp [hb]
  frame := fun _ _ _ x hk => ⟨x.1, x.2.1.at fun o e => hk I (by simp) o e, by obtain ⟨o, ho, r⟩ := x.2.2; exact ⟨o, hk t (by simp) o ho, r⟩⟩
  item := fun i s Q E hi x hQ => by
    have e : (items.size : Int) - 1 - (i : Int) = ((items.size - 1 - i : Nat) : Int) := by omega
    have hit := x.2.1
    rw [e] at hit
    have hx : items[items.size - 1 - i]? = some (items[items.size - 1 - i]'(by omega)) := Array.getElem?_eq_getElem (by omega)
    refine next_rt_item hit x.2.2 hx hz fun h' hit' hs' => ?_
    have e2 : ((items.size - 1 - i : Nat) : Int) - 1 = (items.size : Int) - 1 - ((i + 1 : Nat) : Int) := by omega
    rw [e2] at hit'
    obtain ⟨o, ho, r⟩ := x.2.2
    exact hQ _ h' (s.toks + 1) hx ⟨hi, hit', ⟨o, (hs'.2 t hne).trans ho, r⟩⟩ fun b o hb eo => hs'.extBut b o (fun h => hb (by simp [h])) eo
  done := fun s Q E x hQ => by
    have e : (items.size : Int) - 1 - (items.size : Int) = -1 := by omega
    have hit := x.2.1
    rw [e] at hit
    exact next_rt_end hh hit fun h' he' => hQ h' s.toks fun b o hb eo => he' b o (fun h => hb (by simp [h])) eo
  self := fun _ _ _ _ x hQ => iter_rt x.2.1 hQ

/-- list(it), it an iterator that gives itself -/
theorem self_extend {T : String} {it d : Addr} {n : Nat} {P : Nat → Value → Prop} {St : Nat → Heap → Prop} {R : Result → Shared → Prop} (W : Walks prog w A.in1 it [it, d] [it] n P St) (hh : A.handled = none) (hT : ∀ s : Shared, St 0 s.heap → s.TypeIs (.ref it) T) (n1 : T ≠ "list") (n2 : T ≠ "tuple")
    (hint : ∀ (A : Around) (E : Value → Shared → Prop) (s : Shared) (Q : Bool → Shared → Prop), St 0 s.heap → (∀ b tk, Q b { s with toks := tk }) → wpAny (model prog w) A (Builtin.List.listLengthHint (.ref it)) Q E s)
    (st : St 0 s.heap) (S : Addr) (hSr : S ≠ it) (hSd : S ≠ d) (res : Value) (c₀ : Nat) (hS : s.heap.get? S = some { cls := .type "list", data := .seq #[] c₀ })
    (hR : ∀ h' tk acc' c', (∀ b o, b ≠ S → b ≠ it → s.heap.get? b = some o → h'.get? b = some o) → h'.get? S = some { cls := .type "list", dict := none, data := .seq acc' c', slots := #[] } → ItemsOf P acc' n → R (.ok (.ret res)) { s with heap := h', toks := tk }) (hn : n ≤ sizeLine) :
    wpAny (model prog w) A.in1 (Builtin.List.listExtendWith (.ref S) (.ref it) res)
      (fun fin s' => match fin with | .done f => R (.ok f) s' | .again c' => c'.quiet = true ∧ codeAny (model prog w) A c' R s') (fun e s' => R (.error e) s') s := by
  have hSf : S ∉ [it, d] := by simp only [List.mem_cons, List.not_mem_nil, or_false, not_or]; exact ⟨hSr, hSd⟩
  have key : ∀ (h : Heap) (c₁ tk : Nat), St 0 h → (∀ b o, b ≠ S → b ≠ it → s.heap.get? b = some o → h.get? b = some o) →
      h.get? S = some { cls := .type "list", data := .seq #[] c₁ } → codeAny (model prog w) A (.builtin "list.extend.loop" ⟨[.ref S, .ref it, res], []⟩) R { s with heap := h, toks := tk } := by
    intro h c₁ tk hst hk hS₁
    refine codeAny_extend_loopS W.toS hn S hSf res n 0 _ #[] c₁ rfl (Nat.zero_le _) hst hS₁ (ItemsOf.nil _) fun s' acc' c' hm hS' hacc => ?_
    rw [Moved.eq_with hm]
    refine hR s'.heap s'.toks acc' c' (fun b o hb hb2 e => hm.heap b o (fun hmem => ?_) (hk b o hb hb2 e)) hS' hacc
    rcases List.mem_cons.mp hmem with e' | hmem
    · exact hb e'
    · exact hb2 (List.mem_singleton.mp hmem)
  have b1 : (Value.type T == Value.type "list") = false := beq_eq_false_iff_ne.mpr fun e => n1 (Value.type.inj e)
  have b2 : (Value.type T == Value.type "tuple") = false := beq_eq_false_iff_ne.mpr fun e => n2 (Value.type.inj e)
  unfold Builtin.List.listExtendWith
  refine wpAny_bind (wpAny_typeOf (T := T) (hT s st) ?_)
  have h1 : Builtin.List.listSameRef (.ref S) (.ref it) = false := by simp [Builtin.List.listSameRef, hSr]
  simp only [h1, b1, b2, Bool.or_false, Bool.false_eq_true, if_false]
  refine wpAny_bind (W.self _ _ _ _ st ?_)
  refine wpAny_bind (wpAny_holding (hint _ _ _ _ st fun b tk => ?_))
  refine wpAny_ite_split (fun _ => ?_) (fun _ => wpAny_pure ⟨plainId_quiet PySem.F.plain_extend_loop _, key _ c₀ _ st (fun b o _ _ e => e) hS⟩)
  refine wpAny_bind (wpAny_rule ?_)
  refine wpAny_bind ?_
  show wpAny _ _ (updateSeq S (·.push .none) >>= fun _ => updateSeq S (·.pop)) _ _ _
  refine wpAny_bind (wpAny_updateSeq (s := { s with toks := tk }) hS rfl ?_)
  have hS₂ := Heap.get?_update_self (Obj.mapSeq (·.push Value.none)) hS rfl
  refine wpAny_updateSeq (hz := by seq_fits) hS₂ rfl ?_
  have hS₃ := Heap.get?_update_self (Obj.mapSeq (·.pop)) hS₂ rfl
  refine wpAny_pure ⟨plainId_quiet PySem.F.plain_extend_loop _, key _ _ _ ?_ (fun b o hb _ e => ?_) hS₃⟩
  · refine W.frame 0 _ _ st fun b hb o e => ?_
    have hbS : b ≠ S := fun h => hSf (h ▸ hb)
    exact (Heap.get?_update_other _ _ (Ne.symm hbS)).trans ((Heap.get?_update_other _ _ (Ne.symm hbS)).trans e)
  · exact (Heap.get?_update_other _ _ (Ne.symm hb)).trans ((Heap.get?_update_other _ _ (Ne.symm hb)).trans e)
theorem self_init {T : String} {it d : Addr} {n : Nat} {P : Nat → Value → Prop} {St : Nat → Heap → Prop} {R : Result → Shared → Prop} (W : Walks prog w A.in1 it [it, d] [it] n P St) (hh : A.handled = none) (hT : ∀ s : Shared, St 0 s.heap → s.TypeIs (.ref it) T) (n1 : T ≠ "list") (n2 : T ≠ "tuple")
    (hint : ∀ (A : Around) (E : Value → Shared → Prop) (s : Shared) (Q : Bool → Shared → Prop), St 0 s.heap → (∀ b tk, Q b { s with toks := tk }) → wpAny (model prog w) A (Builtin.List.listLengthHint (.ref it)) Q E s)
    (st : St 0 s.heap) (S : Addr) (hSr : S ≠ it) (hSd : S ≠ d) (hS : s.heap.get? S = some { cls := .type "list", data := .seq #[] })
    (hR : ∀ h' tk acc' c', (∀ b o, b ≠ S → b ≠ it → s.heap.get? b = some o → h'.get? b = some o) → h'.get? S = some { cls := .type "list", dict := none, data := .seq acc' c', slots := #[] } → ItemsOf P acc' n → R (.ok (.ret .none)) { s with heap := h', toks := tk }) (hn : n ≤ sizeLine) :
    wpAny (model prog w) A.in1 (Builtin.«list.__init__» ⟨[.ref S, .ref it], []⟩)
      (fun fin s' => match fin with | .done f => R (.ok f) s' | .again c' => c'.quiet = true ∧ codeAny (model prog w) A c' R s') (fun e s' => R (.error e) s') s := by
  show wpAny _ _ (do let old ← Builtin.List.listItems (.ref S); Builtin.List.listUpdate (.ref S) (fun _ => #[]); letGo old.toList.reverse; Builtin.List.listExtendWith (.ref S) (.ref it) .none) _ _ s
  refine wpAny_bind ?_
  unfold Builtin.List.listItems
  refine wpAny_bind (wpAny_seqItems hS rfl (wpAny_pure ?_))
  show wpAny _ _ (updateSeq S (fun _ => #[]) >>= fun _ => letGo (#[] : Array Value).toList.reverse >>= fun _ => Builtin.List.listExtendWith (.ref S) (.ref it) .none) _ _ s
  refine wpAny_bind (wpAny_updateSeq hS rfl ?_)
  have hS₂ := Heap.get?_update_self (Obj.mapSeq (fun _ => (#[] : Array Value))) hS rfl
  have oth : ∀ b o, b ≠ S → s.heap.get? b = some o → (s.heap.update S (Obj.mapSeq (fun _ => (#[] : Array Value)))).get? b = some o :=
    fun b o hb e => (Heap.get?_update_other _ _ (Ne.symm hb)).trans e
  refine wpAny_bind (wpAny_letGo ?_)
  refine self_extend W hh hT n1 n2 hint (W.frame 0 _ _ st fun b hb o e => oth b o (fun z => ?_) e) S hSr hSd .none _ hS₂ (fun h' tk acc' c' hk hS' hacc => ?_) hn
  · rcases List.mem_cons.mp hb with h | h
    · exact hSr (z.symm.trans h)
    · exact hSd (z.symm.trans (List.mem_singleton.mp h))
  · exact hR h' tk acc' c' (fun b o hb hb2 e => hk b o hb hb2 (oth b o hb e)) hS' hacc
theorem self_list {T : String} {it d : Addr} {n : Nat} {P : Nat → Value → Prop} {St : Nat → Heap → Prop} {Q : Value → Shared → Prop} (W : Walks prog w A.in1.in1 it [it, d] [it] n P St) (hh : A.handled = none) (hT : ∀ s : Shared, St 0 s.heap → s.TypeIs (.ref it) T) (n1 : T ≠ "list") (n2 : T ≠ "tuple")
    (hint : ∀ (A : Around) (E : Value → Shared → Prop) (s : Shared) (Q : Bool → Shared → Prop), St 0 s.heap → (∀ b tk, Q b { s with toks := tk }) → wpAny (model prog w) A (Builtin.List.listLengthHint (.ref it)) Q E s)
    (st : St 0 s.heap) (l1 : it < s.heap.objs.size) (l2 : d < s.heap.objs.size) (hn : n ≤ sizeLine)
    (hQ : ∀ h' tk acc' c', (∀ b o, b ≠ it → s.heap.get? b = some o → h'.get? b = some o) → h'.get? s.heap.objs.size = some { cls := .type "list", dict := none, data := .seq acc' c', slots := #[] } → ItemsOf P acc' n → Q (.ref s.heap.objs.size) { s with heap := h', toks := tk }) :
    wpAny (model prog w) A (call (.type "list") [.ref it]) Q E s := by
  refine callType_codes (Q₁ := fun obj s₁ => obj = .ref s.heap.objs.size ∧ s₁ = { s with heap := s.heap.push { cls := .type "list", data := .seq #[] } }) PySem.F.called_list (PySem.F.typeCall_list_1 _) PySem.F.entry_list_init
    (code_list_new _ ⟨rfl, rfl⟩) fun obj s₁ h₁ => ?_
  obtain ⟨rfl, rfl⟩ := h₁
  have hS : (s.heap.push { cls := .type "list", data := .seq #[] }).get? s.heap.objs.size = some { cls := .type "list", data := .seq #[] } := Heap.get?_push_size _ rfl
  refine ⟨⟨_, hS, rfl⟩, PySem.F.args_list_init_2 _ _, self_init (A := A.in1) W hh hT n1 n2 hint (W.frame 0 _ _ st fun b _ o e => Heap.get?_push_of_some _ e) _ (Nat.ne_of_gt l1) (Nat.ne_of_gt l2) hS (fun h' tk acc' c' hk hS' hacc => ?_) hn⟩
  exact ⟨rfl, hQ h' tk acc' c' (fun b o hb e => hk b o (Nat.ne_of_lt (Heap.lt_size e)) hb (Heap.get?_push_of_some _ e)) hS' hacc⟩
end
/-- list(reversed(x)) by values -/
def eRv (a : DT) : DT := fun ρ M P => a ρ M fun x M1 => match itemsD x M1 with
  | some ds => ∀ p, M1 p = none → P (.ref p) (mup M1 p (.lst ds.reverse))
  | none => False
theorem DRs.rev {K : PySem.W.Frag} {H : Hp} : ∀ {ds : List D} {vs : List V}, DRs K H ds vs → DRs K H ds.reverse vs.reverse
  | _, _, .nil => .nil
  | _, _, .cons h r => by rw [List.reverse_cons, List.reverse_cons]; exact (DRs.rev r).append (.one h)
section
variable {X : Cx}
def tRv (K : PySem.W.Frag) (te : TE) : TE := fun σ H Q => te σ H fun v H1 => ∃ (a : Addr) (xs : List V), v = .ref a ∧ (SqL K H1 a xs ∨ SqT K H1 a xs) ∧ ∀ q, H1 q = none → Q (.ref q) (upd H1 q (.lst xs.reverse))
theorem pe_listRev {e : Expr} {te : TE} {p p2 pos pos2 : Pos} (hc : X.calm = true) (hg : Gl X "list") (hm : X.mg "list" = none) (hg2 : Gl X "reversed") (hm2 : X.mg "reversed" = none) (he : PE X e te)
    (hs : starEach [e] X.env = (false, eval e X.env) :: starEach [] X.env)
    (hs2 : starEach [.Call (.Name "reversed" p2) [e] [] pos2] X.env = (false, eval (.Call (.Name "reversed" p2) [e] [] pos2) X.env) :: starEach [] X.env := by rfl) :
    PE X (.Call (.Name "list" p) [.Call (.Name "reversed" p2) [e] [] pos2] [] pos) (tRv X.K te) := by
  refine ⟨fun pins s σ H Q I h => ?_⟩
  refine Call_ (ld_blt I hg hm (by decide +kernel : bootBuiltins "list" = some (.type "list")) (PyProof.Rows.callWith_type1 (args_cons (Call_ (ld_blt I hg2 hm2 PyProof.Rows.boot_reversed (PyProof.Rows.callWith_type1 (args_cons (thn (he.run pins s σ H _ I h) fun u s1 ⟨v, H1, I1, r1, q1⟩ => args_nil ?_) hs) hs rfl))) hs2) hs2 rfl))
  obtain ⟨a, xs, ev, hq, q⟩ := q1
  subst ev
  obtain rfl : u = Value.ref a := r1
  have fin : ∀ (its : List Value) (s2 : Shared) (H2 : s2.heap.objs.size = s1.heap.objs.size + 1) (h' : Heap) (tk c' : Nat) (acc : Array Value), Vals xs its → xs.length ≤ sizeLine → Inv X pins σ H1 s2 → (∀ b ∈ [s1.heap.objs.size], FpOk X pins H1 b) →
      (∀ b o, b ≠ s1.heap.objs.size → s2.heap.get? b = some o → h'.get? b = some o) → h'.get? s2.heap.objs.size = some { cls := .type "list", dict := none, data := .seq acc c', slots := #[] } → ItemsOf (fun i v => its.toArray[its.toArray.size - 1 - i]? = some v) acc its.toArray.size →
      EP X pins σ Q (.ref s2.heap.objs.size) { s2 with heap := h', toks := tk } := fun its s2 H2 h' tk c' acc rv hz I2 hf hk hD hi =>
    ⟨.ref s2.heap.objs.size, upd H1 s2.heap.objs.size (.lst xs.reverse), I2.turnedNew (t' := tk) (ch := [s1.heap.objs.size]) (fun b o hb e => hk b o (fun z => hb (by simp [z])) e) hf (Nat.le_refl _)
      ⟨by rw [List.length_reverse]; exact hz, acc.toList, c', vals_rev rv hi, by rw [Array.toArray_toList]; exact hD⟩, rfl, q _ (I2.hok.fresh (Nat.le_refl _))⟩
  rcases hq with hq | hq
  · obtain ⟨its, rv, p', hz⟩ := I1.list hq
    refine call_reversed_list p'.isList (args_nil ?_)
    have k0 : ∀ b o, s1.heap.get? b = some o → (s1.heap.push (revObj a ((its.toArray.size : Int) - 1))).get? b = some o := fun b o e => Heap.get?_push_of_some _ e
    have I2 : Inv X pins σ H1 { s1 with heap := s1.heap.push (revObj a ((its.toArray.size : Int) - 1)) } := I1.kept (t' := s1.toks) k0
    have hf := I1.fpOk (H' := H1) (b := s1.heap.objs.size) (Nat.le_refl _) (I1.hok.fresh (Nat.le_refl _))
    have hl := p'.isList
    obtain ⟨ol, hol, _⟩ := id hl
    have hne : a ≠ s1.heap.objs.size := Nat.ne_of_lt (Heap.lt_size hol)
    have hn : its.toArray.size ≤ sizeLine := by rw [List.size_toArray, ← rv.length]; exact hz
    have hit : (s1.heap.push (revObj a ((its.toArray.size : Int) - 1))).IsRevIter s1.heap.objs.size a ((its.toArray.size : Int) - 1 - ((0 : Nat) : Int)) := by
      rw [show (its.toArray.size : Int) - 1 - ((0 : Nat) : Int) = (its.toArray.size : Int) - 1 by omega]
      exact ⟨_, Heap.get?_push_size _ rfl, rfl, rfl⟩
    have W := Walks.listRev (prog := X.prog) (w := X.w) (A := X.A.in1.in1) (I1.ok.hd hc) s1.heap.objs.size a hne its.toArray
    have sz : (s1.heap.push (revObj a ((its.toArray.size : Int) - 1))).objs.size = s1.heap.objs.size + 1 := size_push' ..
    have la := Heap.lt_size hol
    refine self_list (T := "list_reverseiterator") (s := { s1 with heap := s1.heap.push (revObj a ((its.toArray.size : Int) - 1)) }) W (I1.ok.hd hc) (fun s st => st.2.1.typeIs) (by decide) (by decide)
      (fun A E s Q st h => hintq_lri st.2.1.typeIs (h false s.toks)) ⟨Nat.zero_le _, hit, hl.push _⟩ (by show s1.heap.objs.size < (s1.heap.push _).objs.size; rw [sz]; omega) (by show a < (s1.heap.push _).objs.size; rw [sz]; exact Nat.lt_succ_of_lt la) hn fun h' tk acc c' hk hS hi => ?_
    exact fin its _ (size_push' ..) h' tk c' acc rv hz I2 (fun b hb => by rw [List.mem_singleton.mp hb]; exact hf) hk hS hi
  · obtain ⟨its, rv, p', hz⟩ := I1.tuple hq
    have hn : its.toArray.size ≤ sizeLine := by rw [List.size_toArray, ← rv.length]; exact hz
    have hz63 : (its.toArray.size : Int) < 2 ^ 63 := by
      have := hn
      rw [sizeLine_eq] at this
      omega
    refine call_reversed_tup p' (fun A E Q k => len_tuple p' hz63 k) (args_nil ?_)
    have k0 : ∀ b o, s1.heap.get? b = some o → (s1.heap.push (rtObj a ((its.toArray.size : Int) - 1))).get? b = some o := fun b o e => Heap.get?_push_of_some _ e
    have I2 : Inv X pins σ H1 { s1 with heap := s1.heap.push (rtObj a ((its.toArray.size : Int) - 1)), toks := s1.toks + 1 + 1 } := I1.kept (t' := s1.toks + 1 + 1) k0
    have hf := I1.fpOk (H' := H1) (b := s1.heap.objs.size) (Nat.le_refl _) (I1.hok.fresh (Nat.le_refl _))
    obtain ⟨ol, hol, ho2⟩ := id p'
    have hne : a ≠ s1.heap.objs.size := Nat.ne_of_lt (Heap.lt_size hol)
    have hit : IsRt (s1.heap.push (rtObj a ((its.toArray.size : Int) - 1))) s1.heap.objs.size a ((its.toArray.size : Int) - 1 - ((0 : Nat) : Int)) := by
      rw [show (its.toArray.size : Int) - 1 - ((0 : Nat) : Int) = (its.toArray.size : Int) - 1 by omega]
      exact ⟨_, Heap.get?_push_size _ rfl, rfl, rfl⟩
    have W := walks_tupRev (prog := X.prog) (w := X.w) (A := X.A.in1.in1) (I1.ok.hd hc) s1.heap.objs.size a hne its.toArray hn
    have sz : (s1.heap.push (rtObj a ((its.toArray.size : Int) - 1))).objs.size = s1.heap.objs.size + 1 := size_push' ..
    have la := Heap.lt_size hol
    refine self_list (T := "reversed") (s := { s1 with heap := s1.heap.push (rtObj a ((its.toArray.size : Int) - 1)), toks := s1.toks + 1 + 1 }) W (I1.ok.hd hc) (fun s st => st.2.1.typeIs) (by decide) (by decide)
      (fun A E s Q st h => hintq_rt (by have := st.2.1; rw [show (its.toArray.size : Int) - 1 - ((0 : Nat) : Int) = (its.toArray.size : Int) - 1 by omega] at this; exact this) st.2.2 hn h) ⟨Nat.zero_le _, hit, ⟨ol, Heap.get?_push_of_some _ hol, ho2⟩⟩ (by show s1.heap.objs.size < (s1.heap.push _).objs.size; rw [sz]; omega) (by show a < (s1.heap.push _).objs.size; rw [sz]; exact Nat.lt_succ_of_lt la) hn fun h' tk acc c' hk hS hi => ?_
    exact fin its _ (size_push' ..) h' tk c' acc rv hz I2 (fun b hb => by rw [List.mem_singleton.mp hb]; exact hf) hk hS hi
theorem dx_rev {e : Expr} {wa : DT} {p p2 pos pos2 : Pos} (hc : X.calm = true) (hg : Gl X "list") (hm : X.mg "list" = none) (hg2 : Gl X "reversed") (hm2 : X.mg "reversed" = none) (he : Dx X e wa)
    (hs : starEach [e] X.env = (false, eval e X.env) :: starEach [] X.env) : Dx X (.Call (.Name "list" p) [.Call (.Name "reversed" p2) [e] [] pos2] [] pos) (eRv wa) :=
  pe_wk (pe_listRev hc hg hm hg2 hm2 he hs) fun σ H Q ⟨ρ, M, P, er, hr, w, k⟩ =>
    ⟨ρ, M, _, er, hr, w, fun x M1 v H1 p1 e1 d1 h1 => by
      split at p1
      · rename_i ds eo
        obtain ⟨a, vs, rfl, q, r⟩ := items_of d1 h1 eo
        exact ⟨a, vs, rfl, q, fun z nz => k _ _ _ _ (p1 z (h1.free nz)) (e1.trans (.fresh nz)) (.ref z) (h1.new nz r.rev)⟩
      · exact p1.elim⟩
end

/-! ### tuple(reversed(x)) -/
section
variable {prog : Program} {w : World} {A : Around} {E : Value → Shared → Prop} {s : Shared}
theorem iadd_rt {it t S : Addr} {items : Array Value} {R : Result → Shared → Prop} (hh : A.handled = none) (hit : IsRt s.heap it t ((items.size : Int) - 1)) (ht : IsTup s.heap t items) (hne : t ≠ it) (hn : items.size ≤ sizeLine)
    (hSi : S ≠ it) (hSl : S ≠ t) (hS : s.heap.get? S = some { cls := .type "list", data := .seq ([] : List Value).toArray })
    (hR : ∀ h' tk acc' c', (∀ b o, b ≠ S → b ≠ it → s.heap.get? b = some o → h'.get? b = some o) → h'.get? S = some { cls := .type "list", dict := none, data := .seq acc' c', slots := #[] } → ItemsOf (fun i v => items[items.size - 1 - i]? = some v) acc' items.size → R (.ok (.ret (.ref S))) { s with heap := h', toks := tk }) :
    codeAny (model prog w) A (.builtin "list.__iadd__" ⟨[.ref S, .ref it], []⟩) R s := by
  have W := walks_tupRev (prog := prog) (w := w) (A := A.in1) hh it t hne items hn
  refine codeAny_builtin F.entry_list_iadd ?_
  rw [Around.under_plainId F.plain_list_iadd _]
  show wpAny _ A.in1 (Builtin.List.listExtendWith (.ref S) (.ref it) (.ref S)) _ _ _
  have hit1 : IsRt s.heap it t ((items.size : Int) - 1 - ((0 : Nat) : Int)) := by
    rw [show (items.size : Int) - 1 - ((0 : Nat) : Int) = (items.size : Int) - 1 by omega]
    exact hit
  exact self_extend (T := "reversed") (s := s) (R := R) W hh (fun s st => st.2.1.typeIs) (by decide) (by decide)
    (fun A E s Q st h => hintq_rt (by have := st.2.1; rw [show (items.size : Int) - 1 - ((0 : Nat) : Int) = (items.size : Int) - 1 by omega] at this; exact this) st.2.2 hn h)
    ⟨Nat.zero_le _, hit1, ht⟩ S hSi hSl (.ref S) _ hS hR hn
theorem collect_rt {it t : Addr} {items : Array Value} {Q : List Value → Shared → Prop} (hh : A.handled = none) (hit : IsRt s.heap it t ((items.size : Int) - 1)) (ht : IsTup s.heap t items) (hne : t ≠ it) (hn : items.size ≤ sizeLine)
    (hQ : ∀ (h' : Heap) (tk : Nat) (acc : Array Value), (∀ b o, b ≠ it → s.heap.get? b = some o → h'.get? b = some o) → ItemsOf (fun i v => items[items.size - 1 - i]? = some v) acc items.size → Q acc.toList { s with heap := h', toks := tk }) :
    wpAny (model prog w) A (collect (.ref it)) Q E s := by
  obtain ⟨oi, hoi, _⟩ := id hit
  obtain ⟨ol, hol, _⟩ := id ht
  have hSi : s.heap.objs.size ≠ it := Nat.ne_of_gt (Heap.lt_size hoi)
  have hSl : s.heap.objs.size ≠ t := Nat.ne_of_gt (Heap.lt_size hol)
  unfold collect
  refine wpAny_bind (wpAny_runValue (codeAny_builtin F.entry_proto_collect ?_))
  rw [Around.under_plainId F.plain_proto_collect _]
  show wpAny _ A.in1 (newList [] >>= fun l' => again (.builtin "list.__iadd__" ⟨[l', .ref it], []⟩)) _ _ s
  refine wpAny_bind (wpAny_newObj_type ?_)
  have hS₁ : (s.heap.push { cls := .type "list", data := .seq ([] : List Value).toArray }).get? s.heap.objs.size = some { cls := .type "list", data := .seq ([] : List Value).toArray } := Heap.get?_push_size _ rfl
  have hit1 : IsRt (s.heap.push { cls := .type "list", data := .seq ([] : List Value).toArray }) it t ((items.size : Int) - 1) := hit.at fun o e => Heap.get?_push_of_some _ e
  have ht1 : IsTup (s.heap.push { cls := .type "list", data := .seq ([] : List Value).toArray }) t items := by
    obtain ⟨o, ho, r⟩ := ht
    exact ⟨o, Heap.get?_push_of_some _ ho, r⟩
  refine wpAny_pure ⟨plainId_quiet F.plain_list_iadd _, iadd_rt (s := { s with heap := s.heap.push { cls := .type "list", data := .seq ([] : List Value).toArray } }) hh hit1 ht1 hne hn hSi hSl hS₁ fun h' tk acc' c' hk hS' hacc => ?_⟩
  show wpAny _ A (load s.heap.objs.size >>= _) _ _ _
  refine wpAny_bind (wpAny_load hS' ?_)
  refine wpAny_pure ?_
  exact hQ h' tk acc' (fun b o hb e => hk b o (fun z => absurd (Heap.lt_size e) (by rw [z]; exact Nat.lt_irrefl _)) hb (Heap.get?_push_of_some _ e)) hacc
theorem code_tuple_new_rt {it t : Addr} {items : Array Value} {Q₁ : Value → Shared → Prop} (hh : A.handled = none) (hit : IsRt s.heap it t ((items.size : Int) - 1)) (ht : IsTup s.heap t items) (hne : t ≠ it) (hn : items.size ≤ sizeLine)
    (h : ∀ (h' : Heap) (tk : Nat) (acc : Array Value), (∀ b o, b ≠ it → s.heap.get? b = some o → h'.get? b = some o) → ItemsOf (fun i v => items[items.size - 1 - i]? = some v) acc items.size →
      Q₁ (.ref h'.objs.size) { s with heap := h'.push { cls := .type "tuple", data := .seq acc }, toks := tk }) :
    codeAny (model prog w) A (.call (.builtin "tuple.__new__") ⟨[.type "tuple", .ref it], []⟩) (wants Q₁ E) s := by
  refine codeAny_of_tree ?_
  show wpAny _ A.in1 (do checkBuiltinCall "tuple.__new__" ⟨[.type "tuple", .ref it], []⟩; again (.builtin "tuple.__new__" ⟨[.type "tuple", .ref it], []⟩)) _ _ s
  refine wpAny_bind (wpAny_of_eq (F.newCall_tuple_1 _) (wpAny_pure ⟨plainId_quiet F.plain_tuple_new _, codeAny_builtin F.entry_tuple_new ?_⟩))
  rw [Around.under_plainId F.plain_tuple_new _]
  have hsub := sub_tuple_self
  have hinit := init_tuple_lookup
  have hmh := madeHere_tuple
  have hTI : s.TypeIs (.ref it) "reversed" := hit.typeIs
  have hh1 : A.in1.handled = none := hh
  wp_walk using wpAny_typeOf hTI, collect_rt (A := A.in1) hh1 hit ht hne hn
  intro h' tk acc hk hacc
  show wpAny _ _ (Builtin.Tuple.tupleExact acc.toList.toArray >>= fun v => ret v) _ _ _
  unfold Builtin.Tuple.tupleExact
  refine wpAny_bind (wpAny_newObj_type ?_ (by show acc.toList.toArray.size ≤ sizeLine; simp only [Array.toArray_toList]; rw [hacc.1]; exact hn))
  refine wpAny_pure ?_
  have e : acc.toList.toArray = acc := by simp
  rw [e]
  exact h h' tk acc hk hacc
theorem call_tuple_rt {it t : Addr} {items : Array Value} {Q : Value → Shared → Prop} (hh : A.handled = none) (hit : IsRt s.heap it t ((items.size : Int) - 1)) (ht : IsTup s.heap t items) (hne : t ≠ it) (hn : items.size ≤ sizeLine)
    (hQ : ∀ (h' : Heap) (tk : Nat) (acc : Array Value), (∀ b o, b ≠ it → s.heap.get? b = some o → h'.get? b = some o) → ItemsOf (fun i v => items[items.size - 1 - i]? = some v) acc items.size →
      Q (.ref h'.objs.size) { s with heap := h'.push { cls := .type "tuple", data := .seq acc }, toks := tk }) :
    wpAny (model prog w) A (call (.type "tuple") [.ref it]) Q E s := by
  refine callType_codes (Q₁ := fun obj s₁ => s₁.TypeIs obj "tuple" ∧ Q obj s₁) F.called_tuple (F.typeCall_tuple_1 _) F.entry_object_init
    (code_tuple_new_rt (A := A.in1) hh hit ht hne hn fun h' tk acc hk hacc => ⟨⟨_, Heap.get?_push_size _ rfl, rfl⟩, hQ h' tk acc hk hacc⟩) fun obj s₁ h₁ => ?_
  exact ⟨h₁.1, F.args_object_init_2 obj _, object_init_meets F.called_tuple.init.lookup F.called_tuple.made (by decide) prog w A.in1 _ s₁ ⟨h₁.1, rfl, h₁.2⟩⟩
end
/-- tuple(reversed(x)) by values -/
def eTr (a : DT) : DT := fun ρ M P => a ρ M fun x M1 => match itemsD x M1 with
  | some ds => P (.tup ds.reverse) M1
  | none => False
section
variable {X : Cx}
def tTr (K : PySem.W.Frag) (te : TE) : TE := fun σ H Q => te σ H fun v H1 => ∃ (a : Addr) (xs : List V), v = .ref a ∧ (SqL K H1 a xs ∨ SqT K H1 a xs) ∧ ∀ q, H1 q = none → Q (.ref q) (upd H1 q (.tup xs.reverse))
theorem pe_tupRevA {e : Expr} {te : TE} {p p2 pos pos2 : Pos} (hc : X.calm = true) (hg : Gl X "tuple") (hm : X.mg "tuple" = none) (hg2 : Gl X "reversed") (hm2 : X.mg "reversed" = none) (he : PE X e te)
    (hs : starEach [e] X.env = (false, eval e X.env) :: starEach [] X.env)
    (hs2 : starEach [.Call (.Name "reversed" p2) [e] [] pos2] X.env = (false, eval (.Call (.Name "reversed" p2) [e] [] pos2) X.env) :: starEach [] X.env := by rfl) :
    PE X (.Call (.Name "tuple" p) [.Call (.Name "reversed" p2) [e] [] pos2] [] pos) (tTr X.K te) := by
  refine ⟨fun pins s σ H Q I h => ?_⟩
  refine Call_ (ld_blt I hg hm (by decide +kernel : bootBuiltins "tuple" = some (.type "tuple")) (PyProof.Rows.callWith_type1 (args_cons (Call_ (ld_blt I hg2 hm2 PyProof.Rows.boot_reversed (PyProof.Rows.callWith_type1 (args_cons (thn (he.run pins s σ H _ I h) fun u s1 ⟨v, H1, I1, r1, q1⟩ => args_nil ?_) hs) hs rfl))) hs2) hs2 rfl))
  obtain ⟨a, xs, ev, hq, q⟩ := q1
  subst ev
  obtain rfl : u = Value.ref a := r1
  rcases hq with hq | hq
  · obtain ⟨its, rv, p', hz⟩ := I1.list hq
    refine call_reversed_list p'.isList (args_nil ?_)
    have k0 : ∀ b o, s1.heap.get? b = some o → (s1.heap.push (revObj a ((its.toArray.size : Int) - 1))).get? b = some o := fun b o e => Heap.get?_push_of_some _ e
    have I2 : Inv X pins σ H1 { s1 with heap := s1.heap.push (revObj a ((its.toArray.size : Int) - 1)) } := I1.kept (t' := s1.toks) k0
    obtain ⟨f0, f1, f2, f3, f4, f5⟩ := I1.fpOk (H' := H1) (b := s1.heap.objs.size) (Nat.le_refl _) (I1.hok.fresh (Nat.le_refl _))
    have hl := p'.isList
    obtain ⟨ol, hol, _⟩ := id hl
    have hne : a ≠ s1.heap.objs.size := Nat.ne_of_lt (Heap.lt_size hol)
    have hn : its.toArray.size ≤ sizeLine := by rw [List.size_toArray, ← rv.length]; exact hz
    refine call_tuple_rev (s := { s1 with heap := s1.heap.push (revObj a ((its.toArray.size : Int) - 1)) }) (I1.ok.hd hc) ⟨_, Heap.get?_push_size _ rfl, rfl, rfl⟩ (hl.push _) hne hn fun h' tk acc hk hi => ?_
    have I3 : Inv X pins σ H1 { s1 with heap := h', toks := tk } := I2.turned (t' := tk) (fun b o hb e => hk b o hb e) f0 f1 f3 f4 f5
    refine ⟨.ref h'.objs.size, upd H1 h'.objs.size (.tup xs.reverse), I3.laid (t' := tk) (fun c o e => Heap.get?_push_of_some _ e) (Nat.le_refl _) (show ObjOk X.prog X.w _ _ _ (.tup xs.reverse) from ⟨by rw [List.length_reverse]; exact hz, acc.toList, vals_rev rv hi, ?_⟩), rfl, q _ (I3.hok.fresh (Nat.le_refl _))⟩
    rw [Array.toArray_toList]
    exact IsTup.new _ _
  · obtain ⟨its, rv, p', hz⟩ := I1.tuple hq
    have hn : its.toArray.size ≤ sizeLine := by rw [List.size_toArray, ← rv.length]; exact hz
    have hz63 : (its.toArray.size : Int) < 2 ^ 63 := by
      have := hn
      rw [sizeLine_eq] at this
      omega
    refine call_reversed_tup p' (fun A E Q k => len_tuple p' hz63 k) (args_nil ?_)
    have k0 : ∀ b o, s1.heap.get? b = some o → (s1.heap.push (rtObj a ((its.toArray.size : Int) - 1))).get? b = some o := fun b o e => Heap.get?_push_of_some _ e
    have I2 : Inv X pins σ H1 { s1 with heap := s1.heap.push (rtObj a ((its.toArray.size : Int) - 1)), toks := s1.toks + 1 + 1 } := I1.kept (t' := s1.toks + 1 + 1) k0
    obtain ⟨f0, f1, f2, f3, f4, f5⟩ := I1.fpOk (H' := H1) (b := s1.heap.objs.size) (Nat.le_refl _) (I1.hok.fresh (Nat.le_refl _))
    obtain ⟨ol, hol, ho2⟩ := id p'
    have hne : a ≠ s1.heap.objs.size := Nat.ne_of_lt (Heap.lt_size hol)
    refine call_tuple_rt (s := { s1 with heap := s1.heap.push (rtObj a ((its.toArray.size : Int) - 1)), toks := s1.toks + 1 + 1 }) (I1.ok.hd hc) ⟨_, Heap.get?_push_size _ rfl, rfl, rfl⟩ ⟨ol, Heap.get?_push_of_some _ hol, ho2⟩ hne hn fun h' tk acc hk hi => ?_
    have I3 : Inv X pins σ H1 { s1 with heap := h', toks := tk } := I2.turned (t' := tk) (fun b o hb e => hk b o hb e) f0 f1 f3 f4 f5
    refine ⟨.ref h'.objs.size, upd H1 h'.objs.size (.tup xs.reverse), I3.laid (t' := tk) (fun c o e => Heap.get?_push_of_some _ e) (Nat.le_refl _) (show ObjOk X.prog X.w _ _ _ (.tup xs.reverse) from ⟨by rw [List.length_reverse]; exact hz, acc.toList, vals_rev rv hi, ?_⟩), rfl, q _ (I3.hok.fresh (Nat.le_refl _))⟩
    rw [Array.toArray_toList]
    exact IsTup.new _ _
theorem dx_trev {e : Expr} {wa : DT} {p p2 pos pos2 : Pos} (hc : X.calm = true) (hg : Gl X "tuple") (hm : X.mg "tuple" = none) (hg2 : Gl X "reversed") (hm2 : X.mg "reversed" = none) (he : Dx X e wa)
    (hs : starEach [e] X.env = (false, eval e X.env) :: starEach [] X.env) : Dx X (.Call (.Name "tuple" p) [.Call (.Name "reversed" p2) [e] [] pos2] [] pos) (eTr wa) :=
  pe_wk (pe_tupRevA hc hg hm hg2 hm2 he hs) fun σ H Q ⟨ρ, M, P, er, hr, w, k⟩ =>
    ⟨ρ, M, _, er, hr, w, fun x M1 v H1 p1 e1 d1 h1 => by
      split at p1
      · rename_i ds eo
        obtain ⟨a, vs, rfl, q, r⟩ := items_of d1 h1 eo
        exact ⟨a, vs, rfl, q, fun z nz => k _ _ _ _ p1 (e1.trans (.fresh nz)) (.tup upd_same (r.rev.mono (.fresh nz))) (h1.fresh nz)⟩
      · exact p1.elim⟩
end
end DL
/-! DLe: statements, loops, comprehensions of the data layer. -/
namespace DL
open PySem PySem.Spec L2
open PyProof.Rows hiding St

/-- the slots at a def's entry -/
def startD (n : Nat) (ds : List D) : Ev := ds.map some ++ List.replicate (n - ds.length) none
structure EndsOk (K : PySem.W.Frag) (H : Hp) (P : De) (D : Ends) : Prop where
  nx : ∀ ρ M σ H', P.nx ρ M → Ext K H H' → ER K H' ρ σ → HR K H' M → D.nx σ H'
  rt : ∀ d M v H', P.rt d M → Ext K H H' → DR K H' d v → HR K H' M → D.rt v H'
  bk : ∀ ρ M σ H', P.bk ρ M → Ext K H H' → ER K H' ρ σ → HR K H' M → D.bk σ H'
  ct : ∀ ρ M σ H', P.ct ρ M → Ext K H H' → ER K H' ρ σ → HR K H' M → D.ct σ H'
theorem EndsOk.mono {K : PySem.W.Frag} {H H1 : Hp} {P : De} {D : Ends} (o : EndsOk K H P D) (x : Ext K H H1) : EndsOk K H1 P D :=
  ⟨fun ρ M σ H' p e => o.nx ρ M σ H' p (x.trans e), fun d M v H' p e => o.rt d M v H' p (x.trans e), fun ρ M σ H' p e => o.bk ρ M σ H' p (x.trans e), fun ρ M σ H' p e => o.ct ρ M σ H' p (x.trans e)⟩
def upS (K : PySem.W.Frag) (w : DS) : TS := fun D σ H => ∃ ρ M P, ER K H ρ σ ∧ HR K H M ∧ w P ρ M ∧ EndsOk K H P D
abbrev Ds (X : Cx) (s : Stmt) (w : DS) : Prop := PS X s (upS X.K w)
abbrev Dss (X : Cx) (s : List Stmt) (w : DS) : Prop := PSs X s (upS X.K w)
theorem ps_wk {X : Cx} {e : Stmt} {t t' : TS} (h : PS X e t) (k : ∀ D σ H, t' D σ H → t D σ H) : PS X e t' := ⟨fun pins s σ H Q I q => h.run pins s σ H Q I (k Q σ H q)⟩
theorem pss_wk {X : Cx} {e : List Stmt} {t t' : TS} (h : PSs X e t) (k : ∀ D σ H, t' D σ H → t D σ H) : PSs X e t' := ⟨fun pins s σ H Q I q => h.run pins s σ H Q I (k Q σ H q)⟩

abbrev DG := D → Ev → Mh → (Ev → Mh → Prop) → Prop
abbrev DGs := List D → Ev → Mh → (Ev → Mh → Prop) → Prop
def upG (K : PySem.W.Frag) (g : DG) : TG := fun v σ H Q => ∃ d ρ M P, DR K H d v ∧ ER K H ρ σ ∧ HR K H M ∧ g d ρ M P ∧ ∀ ρ' M' σ' H', P ρ' M' → Ext K H H' → ER K H' ρ' σ' → HR K H' M' → Q σ' H'
def upGs (K : PySem.W.Frag) (g : DGs) : TGs := fun vs σ H Q => ∃ ds ρ M P, DRs K H ds vs ∧ ER K H ρ σ ∧ HR K H M ∧ g ds ρ M P ∧ ∀ ρ' M' σ' H', P ρ' M' → Ext K H H' → ER K H' ρ' σ' → HR K H' M' → Q σ' H'
abbrev Dg (X : Cx) (tg : Expr) (g : DG) : Prop := PG X tg (upG X.K g)
abbrev Dgs (X : Cx) (ts : List Expr) (g : DGs) : Prop := PGs X ts (upGs X.K g)
theorem pg_wk {X : Cx} {e : Expr} {t t' : TG} (h : PG X e t) (k : ∀ v σ H Q, t' v σ H Q → t v σ H Q) : PG X e t' := ⟨fun pins s σ H v u Q I r q => h.run pins s σ H v u Q I r (k v σ H Q q)⟩
theorem pgs_wk {X : Cx} {e : List Expr} {t t' : TGs} (h : PGs X e t) (k : ∀ v σ H Q, t' v σ H Q → t v σ H Q) : PGs X e t' := ⟨fun pins s σ H v u Q I r q => h.run pins s σ H v u Q I r (k v σ H Q q)⟩

def gN (i : Nat) : DG := fun d ρ M Q => Q (ρ.set i (some d)) M
def gsN : DGs := fun ds ρ M Q => match ds with
  | [] => Q ρ M
  | _ => False
def gsC (g : DG) (r : DGs) : DGs := fun ds ρ M Q => match ds with
  | d :: ds => g d ρ M fun ρ1 M1 => r ds ρ1 M1 Q
  | [] => False
def gT (n : Nat) (g : DGs) : DG := fun d ρ M Q => match d with
  | .tup ds => ds.length = n ∧ g ds ρ M Q
  | .ktp ds => ds.length = n ∧ g ds ρ M Q
  | .ref a => match M a with
    | some (.lst ds) => ds.length = n ∧ g ds ρ M Q
    | _ => False
  | _ => False
def gS (o i : DT) : DG := fun v ρ M Q => o ρ M fun x M1 => i ρ M1 fun y M2 => setD x y v M2 fun M3 => Q ρ M3

/-! ### statements -/
def sNil : DS := fun P ρ M => P.nx ρ M
def sSeq (a b : DS) : DS := fun P ρ M => a { P with nx := fun ρ1 M1 => b P ρ1 M1 } ρ M
def sIf (c : DB) (a b : DS) : DS := fun P ρ M => c ρ M fun k M1 => if k = true then a P ρ M1 else b P ρ M1
def sAsg (e : DT) (g : DG) : DS := fun P ρ M => e ρ M fun d M1 => g d ρ M1 P.nx
def sExp (e : DT) : DS := fun P ρ M => e ρ M fun _ M1 => P.nx ρ M1
def sRet (e : DT) : DS := fun P ρ M => e ρ M P.rt
def sRetN : DS := fun P _ M => P.rt .non M
def sBrk : DS := fun P ρ M => P.bk ρ M
def sCnt : DS := fun P ρ M => P.ct ρ M
def sAug (i : Nat) (r : D → D → Mh → PQ → Prop) (e : DT) : DS := fun P ρ M => match slot ρ i with
  | some x => e ρ M fun y M1 => r x y M1 fun z M2 => P.nx (ρ.set i (some z)) M2
  | none => False
def whileD (c : DB) (b : DS) (P : De) : Nat → Ev → Mh → Prop
  | 0, _, _ => False
  | n + 1, ρ, M => c ρ M fun t M1 => if t = true then b { P with nx := whileD c b P n, ct := whileD c b P n, bk := P.nx } ρ M1 else P.nx ρ M1
def sWh (c : DB) (b : DS) : DS := fun P ρ M => ∃ n, whileD c b P n ρ M
/-- what a loop walks: items, and what must stay true of the heap meanwhile -/
abbrev DI := Ev → Mh → (List D → (Mh → Prop) → Mh → Prop) → Prop
def forD (g : DG) (b : DS) (chk : Mh → Prop) (P : De) : List D → Ev → Mh → Prop
  | [], ρ, M => chk M ∧ P.nx ρ M
  | d :: ds, ρ, M => chk M ∧ g d ρ M fun ρ1 M1 => b { P with nx := forD g b chk P ds, ct := forD g b chk P ds, bk := P.nx } ρ1 M1
def sFor (it : DI) (g : DG) (b : DS) : DS := fun P ρ M => it ρ M fun items chk M1 => forD g b chk P items ρ M1
def sParN (i j : Nat) (a b : DT) : DS := fun P ρ M => a ρ M fun x M1 => b ρ M1 fun y M2 => P.nx ((ρ.set i (some x)).set j (some y)) M2

structure WalkJ (K : PySem.W.Frag) (H0 : Hp) (items : List D) (chk : Mh → Prop) (J : It) : Prop where
  stop : ∀ i H M, Ext K H0 H → HR K H M → chk M → items.length ≤ i → J.stop i H
  go : ∀ i H M d, Ext K H0 H → HR K H M → chk M → items[i]? = some d → J.go i H
  yld : ∀ i H M d x H', Ext K H0 H → HR K H M → chk M → items[i]? = some d → J.yld i H x H' → Ext K H H' ∧ HR K H' M ∧ (∀ p vs, H p = some (.lst vs) → H' p = some (.lst vs)) ∧ DR K H' d x
def upI (K : PySem.W.Frag) (w : DI) : TI := fun σ H R => ∃ ρ M P, ER K H ρ σ ∧ HR K H M ∧ w ρ M P ∧ ∀ items chk M' H' J, P items chk M' → Ext K H H' → HR K H' M' → WalkJ K H' items chk J → R J H'
abbrev Di (X : Cx) (tg it : Expr) (w : DI) : Prop := PI X tg it (upI X.K w)
def seqP (x : D) (M : Mh) (P : List D → (Mh → Prop) → Mh → Prop) : Prop := match x with
  | .tup ds => P ds (fun _ => True) M
  | .ktp ds => P ds (fun _ => True) M
  | .rol ds => P ds (fun _ => True) M
  | .str z => P (z.cps.toList.map fun c => .str ⟨#[c]⟩) (fun _ => True) M
  | .ref a => match M a with
    | some (.lst ds) => P ds (fun M' => M' a = some (.lst ds)) M
    | _ => False
  | _ => False
def iSeq (e : DT) : DI := fun ρ M P => e ρ M fun x M1 => seqP x M1 P
def rngI (lo : Int) (n : Nat) : List D := (List.range n).map fun (k : Nat) => .int (lo + (k : Int))
def iRg1 (a : DA) : DI := fun ρ M P => a ρ M fun xs M1 => match xs with
  | [.int j] => (-(2 ^ 62) ≤ j ∧ j < 2 ^ 62) ∧ P (rngI 0 j.toNat) (fun _ => True) M1
  | _ => False
def iRg2 (a : DA) : DI := fun ρ M P => a ρ M fun xs M1 => match xs with
  | [.int i, .int j] => (-(2 ^ 62) ≤ i ∧ i < 2 ^ 62 ∧ -(2 ^ 62) ≤ j ∧ j < 2 ^ 62) ∧ P (rngI i (j - i).toNat) (fun _ => True) M1
  | _ => False

/-- range with a step above 0, of small numbers -/
def rngC (lo c : Int) (n : Nat) : List D := (List.range n).map fun (k : Nat) => .int (lo + (k : Int) * c)
def stepN (i j c : Int) : Nat := (Builtin.Range.rangeSize i j c).toNat
theorem stepN_lt {i j c : Int} {k : Nat} (h : 0 < c) (hk : k < stepN i j c) : i + (k : Int) * c < j := by
  unfold stepN Builtin.Range.rangeSize at hk
  rw [if_pos h] at hk
  split at hk
  · have h1 : (k : Int) ≤ (j - i - 1) / c := by omega
    have h2 : (k : Int) * c ≤ (j - i - 1) / c * c := Int.mul_le_mul_of_nonneg_right h1 (Int.le_of_lt h)
    have h3 := Int.ediv_mul_le (j - i - 1) (show c ≠ 0 by omega)
    omega
  · simp at hk
theorem stepN_le {i j c : Int} (h : 0 < c) (h0 : 0 ≤ i) (h1 : 0 ≤ j) : (stepN i j c : Int) ≤ j := by
  by_cases z : stepN i j c = 0
  · omega
  · have := stepN_lt (i := i) (j := j) (c := c) (k := stepN i j c - 1) h (by omega)
    have h2 : ((stepN i j c - 1 : Nat) : Int) * 1 ≤ ((stepN i j c - 1 : Nat) : Int) * c := Int.mul_le_mul_of_nonneg_left (by omega) (by omega)
    omega
theorem stepN_size {i j c : Int} (h : 0 < c) : Builtin.Range.rangeSize i j c = (stepN i j c : Int) := by
  unfold stepN
  have : 0 ≤ Builtin.Range.rangeSize i j c := by
    unfold Builtin.Range.rangeSize
    rw [if_pos h]
    split
    · have := Int.ediv_nonneg (show 0 ≤ j - i - 1 by omega) (Int.le_of_lt h)
      omega
    · exact Int.le_refl _
  omega
theorem stepN_ok {i j c : Int} (h0 : 0 ≤ i ∧ i < 1073741824 ∧ 0 ≤ j ∧ j < 1073741824 ∧ 0 < c ∧ c < 1073741824) : RgC i j c (stepN i j c) := by
  obtain ⟨a, b, d, e, f, g⟩ := h0
  refine ⟨by omega, by omega, ?_, stepN_size f⟩
  unfold Builtin.Range.small
  rw [stepN_size f]
  have := stepN_le f a d
  simp only [Builtin.Range.rangeFitsLong, Bool.and_eq_true, Bool.or_eq_true, decide_eq_true_eq, beq_iff_eq, show c > 0 from f, if_true]
  omega
def iRg3 (a : DA) : DI := fun ρ M P => a ρ M fun xs M1 => match xs with
  | [.int i, .int j, .int c] => (0 ≤ i ∧ i < 1073741824 ∧ 0 ≤ j ∧ j < 1073741824 ∧ 0 < c ∧ c < 1073741824) ∧ P (rngC i c (stepN i j c)) (fun _ => True) M1
  | _ => False

section
variable {K : PySem.W.Frag} {H0 : Hp}
theorem wj_list {a : Addr} {ds : List D} : WalkJ K H0 ds (fun M => M a = some (.lst ds)) (Itl K a) where
  stop := fun i H M x h c hl => by
    obtain ⟨vs, q, r⟩ := h a _ c
    exact ⟨vs, SqL.of q, by rw [← r.length]; exact hl⟩
  go := fun i H M d x h c e => by
    obtain ⟨vs, q, r⟩ := h a _ c
    obtain ⟨v, h1, _⟩ := r.get e
    exact ⟨vs, v, SqL.of q, h1⟩
  yld := fun i H M d y H' x h c e w => by
    obtain ⟨rfl, w⟩ := w
    obtain ⟨vs, q, r⟩ := h a _ c
    obtain ⟨v, h1, h2⟩ := r.get e
    have := w _ (SqL.of q)
    rw [h1] at this; cases this
    exact ⟨.refl _ _, h, fun _ _ z => z, h2⟩
theorem wj_rol {a : Addr} {ds : List D} {vs : List V} (s : SqF K H0 a vs) (r : DRs K H0 ds vs) : WalkJ K H0 ds (fun _ => True) (Itl K a) where
  stop := fun i H M x h c hl => ⟨vs, (s.mono x).seq, by rw [← r.length]; exact hl⟩
  go := fun i H M d x h c e => by
    obtain ⟨v, h1, _⟩ := r.get e
    exact ⟨vs, v, (s.mono x).seq, h1⟩
  yld := fun i H M d y H' x h c e w => by
    obtain ⟨rfl, w⟩ := w
    obtain ⟨v, h1, h2⟩ := r.get e
    have := w _ (s.mono x).seq
    rw [h1] at this; cases this
    exact ⟨.refl _ _, h, fun _ _ z => z, h2.mono x⟩
theorem wj_tup {a : Addr} {ds : List D} {vs : List V} (s : SqT K H0 a vs) (r : DRs K H0 ds vs) : WalkJ K H0 ds (fun _ => True) (Itt K a) where
  stop := fun i H M x h c hl => ⟨vs, x.sqT s, by rw [← r.length]; exact hl⟩
  go := fun i H M d x h c e => by
    obtain ⟨v, h1, _⟩ := r.get e
    exact ⟨vs, v, x.sqT s, h1⟩
  yld := fun i H M d y H' x h c e w => by
    obtain ⟨rfl, w⟩ := w
    obtain ⟨v, h1, h2⟩ := r.get e
    have := w _ (x.sqT s)
    rw [h1] at this; cases this
    exact ⟨.refl _ _, h, fun _ _ z => z, h2.mono x⟩
theorem wj_str {z : Str} : WalkJ K H0 (z.cps.toList.map fun c => .str ⟨#[c]⟩) (fun _ => True) (Its z) where
  stop := fun i H M x h c hl => by
    show z.cps.size ≤ i
    simpa using hl
  go := fun i H M d x h c e => by
    show i < z.cps.size
    have := (List.getElem?_eq_some_iff.mp e).1
    simpa using this
  yld := fun i H M d y H' x h c e w => by
    obtain ⟨rfl, k, e2, rfl⟩ := w
    refine ⟨.refl _ _, h, fun _ _ z => z, ?_⟩
    rw [List.getElem?_map, Array.getElem?_toList, e2] at e
    cases e
    exact .str _
theorem rng_get {lo : Int} {n i : Nat} {d : D} (e : (rngI lo n)[i]? = some d) : i < n ∧ d = .int (lo + i) := by
  unfold rngI at e
  rw [List.getElem?_map] at e
  by_cases h : i < n
  · rw [List.getElem?_range h] at e
    cases e
    exact ⟨h, rfl⟩
  · rw [List.getElem?_eq_none (by simpa using h)] at e
    cases e
theorem wj_rng {lo : Int} {n : Nat} : WalkJ K H0 (rngI lo n) (fun _ => True) (Itr lo n) where
  stop := fun i H M x h c hl => by
    show n ≤ i
    simpa [rngI] using hl
  go := fun i H M d x h c e => (rng_get e).1
  yld := fun i H M d y H' x h c e w => by
    obtain ⟨rfl, rfl⟩ := w
    rw [(rng_get e).2]
    exact ⟨.refl _ _, h, fun _ _ z => z, .int _⟩
theorem rngC_get {lo c : Int} {n i : Nat} {d : D} (e : (rngC lo c n)[i]? = some d) : i < n ∧ d = .int (lo + (i : Int) * c) := by
  unfold rngC at e
  rw [List.getElem?_map] at e
  by_cases h : i < n
  · rw [List.getElem?_range h] at e
    cases e
    exact ⟨h, rfl⟩
  · rw [List.getElem?_eq_none (by simpa using h)] at e
    cases e
theorem rngC_len {lo c : Int} {n : Nat} : (rngC lo c n).length = n := by simp [rngC]
theorem wj_rngC {lo c : Int} {n : Nat} : WalkJ K H0 (rngC lo c n) (fun _ => True) (Itc lo c n) where
  stop := fun i H M x h q hl => by
    show n ≤ i
    simpa [rngC] using hl
  go := fun i H M d x h q e => (rngC_get e).1
  yld := fun i H M d y H' x h q e w => by
    obtain ⟨rfl, rfl⟩ := w
    rw [(rngC_get e).2]
    exact ⟨.refl _ _, h, fun _ _ z => z, .int _⟩
end

section
variable {X : Cx}
theorem di_seq {tg l : Expr} {wl : DT} (hl : Dx X l wl) : Di X tg l (iSeq wl) := by
  refine ⟨fun pins s σ H R I h => ?_⟩
  obtain ⟨ρ, M, P, er, hr, w, k⟩ := h
  refine thn (hl.run pins s σ H (fun v H1 => ∃ d M1, seqP d M1 P ∧ Ext X.K H H1 ∧ DR X.K H1 d v ∧ HR X.K H1 M1) I ⟨ρ, M, _, er, hr, w, fun d M1 v H1 p e d1 h1 => ⟨d, M1, p, e, d1, h1⟩⟩) ?_
  rintro u s1 ⟨v, H1, I1, r1, d, M1, p, e, d1, h1⟩
  have lists : ∀ a vs J, u = .ref a → SqL X.K H1 a vs → J = Itl X.K a → R J H1 → wpAny (model X.prog X.w) X.A (pyIter u) (PIE X pins σ tg R) X.xe s1 := fun a vs J eu q ej qR => by
    subst eu ej
    obtain ⟨its, rv, pl, hz⟩ := I1.list q
    exact wpAny_pyIter_list pl.isList (pi_one (tk := s1.toks) I1 _ (turn_list a _) ⟨_, Heap.get?_push_size _ rfl, rfl, rfl⟩ qR)
  cases d1 with
  | tup s2 r2 =>
    obtain ⟨its, rv, pl, hz⟩ := I1.tuple (SqT.of s2)
    cases r1
    exact wpAny_pyIter_tuple (show s1.heap.IsTuple _ its.toArray from pl) (pi_one (tk := s1.toks) I1 _ (turn_tuple _ _) ⟨_, Heap.get?_push_size _ rfl, rfl, rfl⟩ (k _ _ _ _ _ p e h1 (wj_tup (SqT.of s2) r2)))
  | ktp s2 r2 =>
    obtain ⟨its, rv, pl, hz⟩ := I1.tuple s2.t
    cases r1
    exact wpAny_pyIter_tuple (show s1.heap.IsTuple _ its.toArray from pl) (pi_one (tk := s1.toks) I1 _ (turn_tuple _ _) ⟨_, Heap.get?_push_size _ rfl, rfl, rfl⟩ (k _ _ _ _ _ p e h1 (wj_tup s2.t r2)))
  | rol s2 r2 => exact lists _ _ _ r1 s2.seq rfl (k _ _ _ _ _ p e h1 (wj_rol s2 r2))
  | str z =>
    obtain ⟨t, rfl⟩ := r1
    have q := k _ _ _ _ _ p e h1 wj_str
    cases ha : z.cps.all (· < 128)
    · exact wpAny_pyIter_wide ha (pi_one (tk := s1.toks) I1 _ (turn_str _ z t "str_iterator" (.inr rfl)) ⟨_, Heap.get?_push_size _ rfl, rfl, rfl⟩ q)
    · exact wpAny_pyIter_ascii ha (pi_one (tk := s1.toks) I1 _ (turn_str _ z t "str_ascii_iterator" (.inl rfl)) ⟨_, Heap.get?_push_size _ rfl, rfl, rfl⟩ q)
  | ref a =>
    have p : (match M1 a with | some (.lst ds) => P ds (fun M' => M' a = some (.lst ds)) M1 | _ => False) := p
    cases e2 : M1 a with
    | none => rw [e2] at p; exact p.elim
    | some o =>
      rw [e2] at p
      cases o with
      | dk _ => exact False.elim p
      | dt _ => exact False.elim p
      | lst ds =>
        obtain ⟨vs, q, r⟩ := h1 _ _ e2
        exact lists _ _ _ r1 (SqL.of q) rfl (k _ _ _ _ _ p e h1 wj_list)
  | _ => exact False.elim p
theorem pi_wk {tg e : Expr} {t t' : TI} (h : PI X tg e t) (k : ∀ σ H Q, t' σ H Q → t σ H Q) : PI X tg e t' := ⟨fun pins s σ H R I q => h.run pins s σ H R I (k σ H R q)⟩
theorem di_rg1 {tg a : Expr} {wa : DA} {p pos : Pos} (hg : Gl X "range") (hm : X.mg "range" = none) (ha : Da X [a] wa) (hs : starEach [a] X.env = [(false, eval a X.env)]) : Di X tg (.Call (.Name "range" p) [a] [] pos) (iRg1 wa) :=
  pi_wk (pi_range1 hg hm ha hs) fun σ H R ⟨ρ, M, P, er, hr, w, k⟩ => ⟨ρ, M, _, er, hr, w, fun xs M1 vs H1 p1 e1 d1 h1 => by
    match xs, d1 with
    | [], _ => exact False.elim p1
    | [x], .cons d .nil =>
      cases d <;> first | exact False.elim p1 | skip
      exact ⟨_, rfl, p1.1.1, p1.1.2, k _ _ _ _ _ p1.2 e1 h1 wj_rng⟩
    | x :: _ :: _, .cons d _ => cases d <;> exact False.elim p1⟩
theorem di_rg2 {tg a b : Expr} {wa : DA} {p pos : Pos} (hg : Gl X "range") (hm : X.mg "range" = none) (ha : Da X [a, b] wa) (hs : starEach [a, b] X.env = [(false, eval a X.env), (false, eval b X.env)]) (hs2 : starEach [b] X.env = [(false, eval b X.env)]) :
    Di X tg (.Call (.Name "range" p) [a, b] [] pos) (iRg2 wa) :=
  pi_wk (pi_range2 hg hm ha hs hs2) fun σ H R ⟨ρ, M, P, er, hr, w, k⟩ => ⟨ρ, M, _, er, hr, w, fun xs M1 vs H1 p1 e1 d1 h1 => by
    match xs, d1 with
    | [], _ => exact False.elim p1
    | [x], .cons d .nil => cases d <;> exact False.elim p1
    | [x, y], .cons d (.cons d2 .nil) =>
      cases d <;> cases d2 <;> first | exact False.elim p1 | skip
      exact ⟨_, _, rfl, p1.1, k _ _ _ _ _ p1.2 e1 h1 wj_rng⟩
    | x :: y :: _ :: _, .cons d (.cons d2 _) => cases d <;> cases d2 <;> exact False.elim p1⟩
theorem di_rg3 {tg a b c : Expr} {wa : DA} {p pos : Pos} (hg : Gl X "range") (hm : X.mg "range" = none) (ha : Da X [a, b, c] wa) (hs : starEach [a, b, c] X.env = (false, eval a X.env) :: starEach [b, c] X.env) (hpl : (backTo pos (starEach [b, c] X.env)).any (·.1) = false) :
    Di X tg (.Call (.Name "range" p) [a, b, c] [] pos) (iRg3 wa) :=
  pi_wk (pi_range3 hg hm ha hs hpl) fun σ H R ⟨ρ, M, P, er, hr, w, k⟩ => ⟨ρ, M, _, er, hr, w, fun xs M1 vs H1 p1 e1 d1 h1 => by
    match xs, d1 with
    | [], _ => exact False.elim p1
    | [x], .cons d .nil => cases d <;> exact False.elim p1
    | [x, y], .cons d (.cons d2 .nil) => cases d <;> cases d2 <;> exact False.elim p1
    | [x, y, z], .cons d (.cons d2 (.cons d3 .nil)) =>
      cases d <;> cases d2 <;> first | exact False.elim p1 | skip
      cases d3 <;> first | exact False.elim p1 | skip
      exact ⟨_, _, _, _, rfl, stepN_ok p1.1, k _ _ _ _ _ p1.2 e1 h1 wj_rngC⟩
    | x :: y :: z :: _ :: _, .cons d (.cons d2 (.cons d3 _)) => cases d <;> cases d2 <;> first | exact False.elim p1 | (cases d3 <;> exact False.elim p1)⟩

/-! ### targets -/
theorem dg_nm {i : Nat} {x : Str} {pos : Pos} (hN : X.N.Nodup) (hi : X.N[i]? = some x) (hx : Loc X.env.scope x) (hf : X.fn x = true ∨ X.env.scope.names.lookup x = some .local) : Dg X (.Name x pos) (gN i) :=
  pg_wk (pg_name hN hi hx hf) fun v σ H Q ⟨d, ρ, M, P, dv, er, hr, w, k⟩ => k _ M _ H w (.refl _ _) (er.set dv) hr
theorem dgs_nil : Dgs X [] gsN := pgs_wk pgs_nil fun vs σ H Q ⟨ds, ρ, M, P, dv, er, hr, w, k⟩ => by
  cases dv with
  | nil => exact ⟨rfl, k _ M _ H w (.refl _ _) er hr⟩
  | cons _ _ => exact False.elim w
theorem dgs_cons {e : Expr} {es : List Expr} {t : DG} {u : DGs} (h1 : Dg X e t) (h2 : Dgs X es u) (hs : (assignEach (e :: es) X.env).map (·.2) = assign e X.env :: (assignEach es X.env).map (·.2)) : Dgs X (e :: es) (gsC t u) :=
  pgs_wk (pgs_cons h1 h2 hs) fun vs σ H Q ⟨ds, ρ, M, P, dv, er, hr, w, k⟩ => by
    cases dv with
    | nil => exact False.elim w
    | cons d r => exact ⟨_, _, rfl, _, ρ, M, _, d, er, hr, w, fun ρ1 M1 σ1 H1 p1 e1 er1 hr1 => ⟨_, ρ1, M1, P, r.mono e1, er1, hr1, p1, fun ρ2 M2 σ2 H2 p2 e2 => k ρ2 M2 σ2 H2 p2 (e1.trans e2)⟩⟩
theorem dg_tup {es : List Expr} {n k : Nat} {g : DGs} {pos : Pos} (hc : X.calm = true) (h : Dgs X es g) (hn : (assignEach es X.env).length = n) (hst : (assignEach es X.env).findIdx? (·.1) = none) : Dg X (.Tuple es k pos) (gT n g) :=
  ⟨fun pins s σ H v u Q I rv ⟨d, ρ, M, P, dv, er, hr, w, k⟩ => by
    cases dv with
    | tup s r => exact (pg_tup hc h hn hst).run pins _ σ H _ u Q I rv ⟨_, _, rfl, SqT.of s, by rw [← r.length]; exact w.1, _, ρ, M, P, r, er, hr, w.2, k⟩
    | ktp s r => exact (pg_tup hc h hn hst).run pins _ σ H _ u Q I rv ⟨_, _, rfl, s.t, by rw [← r.length]; exact w.1, _, ρ, M, P, r, er, hr, w.2, k⟩
    | ref a =>
      have w : (match M a with | some (.lst ds) => ds.length = n ∧ g ds ρ M P | _ => False) := w
      cases e : M a with
      | none => rw [e] at w; exact w.elim
      | some o =>
        rw [e] at w
        cases o with
        | dk _ => exact False.elim w
        | dt _ => exact False.elim w
        | lst ds =>
          obtain ⟨vs, q, r⟩ := hr _ _ e
          exact (pg_lst hc h hn hst).run pins _ σ H _ u Q I rv ⟨_, _, rfl, SqL.of q, by rw [← r.length]; exact w.1, _, ρ, M, P, r, er, hr, w.2, k⟩
    | _ => exact False.elim w⟩
theorem dg_sub {o i : Expr} {wo wi : DT} {pos : Pos} (hu : X.A.units + 65 < cLine) (ho : Dx X o wo) (hi : Dx X i wi)
    (ha : ∀ v, assign (.Subscript o i pos) X.env v = (do
      let ov ← holding [v] (eval o X.env)
      let iv ← holding [v, ov] (eval i X.env)
      standAt pos
      holding [v, ov, iv] (setItem ov iv v)
      release [v, ov, iv] [])) : Dg X (.Subscript o i pos) (gS wo wi) :=
  pg_wk (pg_sub ho hi (set_dl hu) ha) fun v σ H Q ⟨d, ρ, M, P, dv, er, hr, w, k⟩ =>
    ⟨ρ, M, _, er, hr, w, fun x M1 v1 H1 p1 e1 d1 h1 => ⟨ρ, M1, _, er.mono e1, h1, p1, fun y M2 v2 H2 p2 e2 d2 h2 =>
      ⟨x, y, d, M2, _, d1.mono e2, d2, dv.mono (e1.trans e2), h2, p2, fun M3 H3 p3 e3 h3 => k _ _ _ _ p3 (e1.trans (e2.trans e3)) (er.mono (e1.trans (e2.trans e3))) h3⟩⟩⟩

/-! ### statements -/
theorem dss_nil : Dss X [] sNil := pss_wk pss_nil fun D σ H ⟨ρ, M, P, er, hr, w, k⟩ => k.nx _ _ _ _ w (.refl _ _) er hr
theorem dss_cons {s : Stmt} {r : List Stmt} {a b : DS} (h1 : Ds X s a) (h2 : Dss X r b) : Dss X (s :: r) (sSeq a b) :=
  pss_wk (pss_cons h1 h2) fun D σ H ⟨ρ, M, P, er, hr, w, k⟩ => ⟨ρ, M, _, er, hr, w, ⟨fun ρ1 M1 σ1 H1 p1 e1 er1 hr1 => ⟨ρ1, M1, P, er1, hr1, p1, k.mono e1⟩, k.rt, k.bk, k.ct⟩⟩
theorem ds_if {c : Expr} {p q : List Stmt} {wc : DB} {a b : DS} {pos : Pos} (hc : Dt X c wc) (ha : Dss X p a) (hb : Dss X q b) : Ds X (.If c p q pos) (sIf wc a b) :=
  ps_wk (ps_if hc ha hb) fun D σ H ⟨ρ, M, P, er, hr, w, k⟩ => ⟨ρ, M, _, er, hr, w, fun b M1 H1 p1 e1 h1 => by
    cases b with
    | true => exact ⟨ρ, M1, P, er.mono e1, h1, p1, k.mono e1⟩
    | false => exact ⟨ρ, M1, P, er.mono e1, h1, p1, k.mono e1⟩⟩
theorem ds_asg {tg e : Expr} {we : DT} {g : DG} {pos : Pos} (he : Dx X e we) (hg : Dg X tg g) (hs : swapsWithSole [tg] e pos.line X.env = pure false) (hw : swappedStores [tg] e X.env = pure none)
    (h1 : (assignEach [tg] X.env).map (·.2) = [assign tg X.env]) : Ds X (.Assign [tg] e pos) (sAsg we g) :=
  ps_wk (ps_asg he hg hs hw h1) fun D σ H ⟨ρ, M, P, er, hr, w, k⟩ => ⟨ρ, M, _, er, hr, w, fun d M1 v H1 p1 e1 d1 h1 => ⟨d, ρ, M1, P.nx, d1, er.mono e1, h1, p1, fun ρ2 M2 σ2 H2 p2 e2 => k.nx ρ2 M2 σ2 H2 p2 (e1.trans e2)⟩⟩
theorem ds_set {i : Nat} {x : Str} {e : Expr} {we : DT} {pos pos' : Pos} (hN : X.N.Nodup) (hi : X.N[i]? = some x) (hx : Loc X.env.scope x) (he : Dx X e we) (hs : swapsWith e (some (.Name x pos')) pos.line X.env = pure false) (hf : X.fn x = true ∨ X.env.scope.names.lookup x = some .local) :
    Ds X (.Assign [.Name x pos'] e pos) (sAsg we (gN i)) :=
  ps_wk (ps_set hN hi hx he hs hf) fun D σ H ⟨ρ, M, P, er, hr, w, k⟩ => ⟨ρ, M, _, er, hr, w, fun d M1 v H1 p1 e1 d1 h1 => k.nx _ _ _ _ p1 e1 ((er.mono e1).set d1) h1⟩
theorem ds_exp {e : Expr} {we : DT} {pos : Pos} (he : Dx X e we) (hs : swapsWith e none pos.line X.env = pure false) : Ds X (.Expr e pos) (sExp we) :=
  ps_wk (ps_expr he hs) fun D σ H ⟨ρ, M, P, er, hr, w, k⟩ => ⟨ρ, M, _, er, hr, w, fun d M1 v H1 p1 e1 d1 h1 => k.nx _ _ _ _ p1 e1 (er.mono e1) h1⟩
theorem ds_ret {e : Expr} {we : DT} {pos : Pos} (he : Dx X e we) : Ds X (.Return (some e) pos) (sRet we) :=
  ps_wk (ps_ret he) fun D σ H ⟨ρ, M, P, er, hr, w, k⟩ => ⟨ρ, M, _, er, hr, w, fun d M1 v H1 p1 e1 d1 h1 => k.rt _ _ _ _ p1 e1 d1 h1⟩
theorem ds_retN {pos : Pos} : Ds X (.Return none pos) sRetN := ps_wk ps_retN fun D σ H ⟨ρ, M, P, er, hr, w, k⟩ => k.rt _ _ _ _ w (.refl _ _) .non hr
theorem ds_pass {pos : Pos} : Ds X (.Pass pos) sNil := ps_wk ps_pass fun D σ H ⟨ρ, M, P, er, hr, w, k⟩ => k.nx _ _ _ _ w (.refl _ _) er hr
theorem ds_brk {pos : Pos} : Ds X (.Break pos) sBrk := ps_wk ps_break fun D σ H ⟨ρ, M, P, er, hr, w, k⟩ => k.bk _ _ _ _ w (.refl _ _) er hr
theorem ds_cnt {pos : Pos} : Ds X (.Continue pos) sCnt := ps_wk ps_continue fun D σ H ⟨ρ, M, P, er, hr, w, k⟩ => k.ct _ _ _ _ w (.refl _ _) er hr
theorem ds_aug {i : Nat} {x : Str} {e : Expr} {we : DT} {op : Operator} {r : D → D → Mh → PQ → Prop} {pos pos' : Pos} (hN : X.N.Nodup) (hi : X.N[i]? = some x) (hx : Loc X.env.scope x) (he : Dx X e we) (ho : OpR X (inplaceOp op) (up2 X.K r)) (hf : X.fn x = true ∨ X.env.scope.names.lookup x = some .local) :
    Ds X (.AugAssign (.Name x pos') op e pos) (sAug i r we) :=
  ps_wk (ps_aug hN hi hx he ho hf) fun D σ H ⟨ρ, M, P, er, hr, w, k⟩ => by
    unfold sAug at w
    cases e0 : slot ρ i with
    | none => rw [e0] at w; exact w.elim
    | some d =>
      rw [e0] at w
      obtain ⟨v, h1, h2⟩ := er.2 i d (slot_get e0)
      exact ⟨v, h1, ρ, M, _, er, hr, w, fun y M1 u H1 p1 e1 d1 hr1 => ⟨_, y, M1, _, h2.mono e1, d1, hr1, p1, fun z M2 v2 H2 p2 e2 d2 hr2 => k.nx _ _ _ _ p2 (e1.trans e2) ((er.mono (e1.trans e2)).set d2) hr2⟩⟩
theorem ds_par {i j : Nat} {x y : Str} {a b : Expr} {wa wb : DT} {px py pt pos : Pos} {kt k2 pt2} (hc : X.calm = true) (hN : X.N.Nodup) (hi : X.N[i]? = some x) (hj : X.N[j]? = some y) (hij : i ≠ j)
    (hx : X.env.scope.names.lookup x = some .local) (hy : X.env.scope.names.lookup y = some .local) (ha : Dx X a wa) (hb : Dx X b wb) (hs1 : starEach (a :: [b]) X.env = (false, eval a X.env) :: starEach [b] X.env) (hs2 : starEach (b :: []) X.env = (false, eval b X.env) :: starEach [] X.env)
    (hw : swappedStores [.Tuple [.Name x px, .Name y py] kt pt] (.Tuple [a, b] k2 pt2) X.env = pure (some [x, y])) :
    Ds X (.Assign [.Tuple [.Name x px, .Name y py] kt pt] (.Tuple [a, b] k2 pt2) pos) (sParN i j wa wb) :=
  ps_wk (ps_par hc hN hi hj hij hx hy (pa_cons ha (pa_cons hb pa_nil hs2) hs1) hw) fun D σ H ⟨ρ, M, P, er, hr, w, k⟩ =>
    ⟨ρ, M, _, er, hr, w, fun x M1 v H1 p1 e1 d1 h1 => ⟨ρ, M1, _, er.mono e1, h1, p1, fun y M2 u H2 p2 e2 d2 h2 => ⟨v, u, rfl, k.nx _ _ _ _ p2 (e1.trans e2) (((er.mono (e1.trans e2)).set (d1.mono e2)).set d2) h2⟩⟩⟩
theorem ds_wh {c : Expr} {body : List Stmt} {wc : DB} {wb : DS} {pos : Pos} (hp : PassesOwn (model X.prog X.w) X.A X.env X.xe) (hc : Dt X c wc) (hb : Dss X body wb) : Ds X (.While c body [] pos) (sWh wc wb) :=
  ps_wk (ps_while hp hc hb) fun D σ H ⟨ρ, M, P, er, hr, ⟨n, w⟩, k⟩ => by
    refine ⟨fun n σ1 H1 => ∃ ρ1 M1, ER X.K H1 ρ1 σ1 ∧ HR X.K H1 M1 ∧ Ext X.K H H1 ∧ whileD wc wb P n ρ1 M1, ⟨n, ρ, M, er, hr, .refl _ _, w⟩, ?_⟩
    rintro n σ1 H1 ⟨ρ1, M1, er1, hr1, x1, w1⟩
    cases n with
    | zero => exact False.elim w1
    | succ n =>
      refine ⟨ρ1, M1, _, er1, hr1, w1, fun t M2 H2 p2 e2 h2 => ?_⟩
      cases t with
      | false => exact k.nx _ _ _ _ p2 (x1.trans e2) (er1.mono e2) h2
      | true =>
        refine ⟨fun σ3 H3 => ∃ ρ3 M3, ER X.K H3 ρ3 σ3 ∧ HR X.K H3 M3 ∧ Ext X.K H H3 ∧ whileD wc wb P n ρ3 M3, fun σ3 H3 h => ⟨n, Nat.lt_succ_self n, h⟩, ρ1, M2, _, er1.mono e2, h2, p2, ?_⟩
        have x2 := x1.trans e2
        exact ⟨fun ρ3 M3 σ3 H3 p3 e3 er3 h3 => ⟨ρ3, M3, er3, h3, x2.trans e3, p3⟩, (k.mono x2).rt, fun ρ3 M3 σ3 H3 p3 e3 er3 h3 => k.nx _ _ _ _ p3 (x2.trans e3) er3 h3, fun ρ3 M3 σ3 H3 p3 e3 er3 h3 => ⟨ρ3, M3, er3, h3, x2.trans e3, p3⟩⟩
theorem ds_for {tg it : Expr} {body : List Stmt} {wi : DI} {g : DG} {wb : DS} {pos : Pos} (hp : PassesOwn (model X.prog X.w) X.A X.env X.xe) (hc : X.calm = true) (hi : Di X tg it wi) (hg : Dg X tg g) (hb : Dss X body wb)
    (hs : ∀ x, foldedSetIterable it X.env x = pure x) : Ds X (.For tg it body [] pos) (sFor wi g wb) :=
  ps_wk (ps_for hp hc hi hg hb hs) fun D σ H ⟨ρ, M, P, er, hr, w, k⟩ => by
    refine ⟨ρ, M, _, er, hr, w, fun items chk M1 H1 J p1 e1 h1 wj => ?_⟩
    refine ⟨fun i m σ2 H2 => ∃ ρ2 M2, ER X.K H2 ρ2 σ2 ∧ HR X.K H2 M2 ∧ Ext X.K H1 H2 ∧ m = items.length - i ∧ i ≤ items.length ∧ forD g wb chk P (items.drop i) ρ2 M2,
      ⟨items.length, ρ, M1, er.mono e1, h1, .refl _ _, rfl, Nat.zero_le _, p1⟩, ?_⟩
    rintro i m σ2 H2 ⟨ρ2, M2, er2, h2, x2, rfl, hi, w2⟩
    by_cases hl : i < items.length
    · have ed : items.drop i = items[i] :: items.drop (i + 1) := List.drop_eq_getElem_cons hl
      have eg : items[i]? = some items[i] := List.getElem?_eq_getElem hl
      rw [ed] at w2
      obtain ⟨c2, w2⟩ := w2
      refine .inr ⟨wj.go i H2 M2 _ x2 h2 c2 eg, fun σ3 H3 => ∃ ρ3 M3, ER X.K H3 ρ3 σ3 ∧ HR X.K H3 M3 ∧ Ext X.K H1 H3 ∧ forD g wb chk P (items.drop (i + 1)) ρ3 M3, ?_, ?_⟩
      · rintro σ3 H3 ⟨ρ3, M3, a, b, c, d⟩
        exact ⟨items.length - (i + 1), by omega, ρ3, M3, a, b, c, rfl, hl, d⟩
      · intro x H3 hy
        obtain ⟨e3, h3, _, d3⟩ := wj.yld i H2 M2 _ x H3 x2 h2 c2 eg hy
        refine ⟨_, ρ2, M2, _, d3, er2.mono e3, h3, w2, fun ρ4 M4 σ4 H4 p4 e4 er4 h4 => ⟨ρ4, M4, _, er4, h4, p4, ?_⟩⟩
        have x4 : Ext X.K H1 H4 := x2.trans (e3.trans e4)
        exact ⟨fun ρ5 M5 σ5 H5 p5 e5 er5 h5 => ⟨ρ5, M5, er5, h5, x4.trans e5, p5⟩, (k.mono (e1.trans x4)).rt, fun ρ5 M5 σ5 H5 p5 e5 er5 h5 => k.nx _ _ _ _ p5 (e1.trans (x4.trans e5)) er5 h5, fun ρ5 M5 σ5 H5 p5 e5 er5 h5 => ⟨ρ5, M5, er5, h5, x4.trans e5, p5⟩⟩
    · have ei : i = items.length := by omega
      rw [ei, List.drop_length] at w2
      exact .inl ⟨wj.stop i H2 M2 x2 h2 w2.1 (by omega), k.nx _ _ _ _ w2.2 (e1.trans x2) er2 h2⟩

/-! ### comprehensions -/
end
inductive Tg where
  | nm (i : Nat)
  | tp (is : List Nat)
def Tg.slots : Tg → List Nat
  | .nm i => [i]
  | .tp is => is
def gNms : List Nat → TGs
  | [] => gNil
  | i :: r => gCons (gName i) (gNms r)
def tgV (K : PySem.W.Frag) : Tg → TG
  | .nm i => gName i
  | .tp is => gTup K is.length (gNms is)
def setsD : List Nat → List D → Ev → Option Ev
  | [], [], ρ => some ρ
  | i :: is, d :: ds, ρ => setsD is ds (ρ.set i (some d))
  | _, _, _ => none
def tgD : Tg → D → Ev → Option Ev
  | .nm i, d, ρ => some (ρ.set i (some d))
  | .tp is, .tup ds, ρ => setsD is ds ρ
  | _, _, _ => none
def wipeD (ρ : Ev) : List Nat → Ev
  | [] => ρ
  | v :: vs => (wipeD ρ vs).set v none
def bYes : DB := fun _ M P => P true M
def lcLoop (p : Addr) (chk : Mh → Prop) (t : Tg) (tt : DB) (te : DT) (ρ : Ev) (P : PQ) : List D → Mh → Prop
  | [], M => chk M ∧ P (.ref p) M
  | d :: ds, M => chk M ∧ match tgD t d ρ with
    | none => False
    | some ρ1 => tt ρ1 M fun k M1 => if k = true then te ρ1 M1 fun y M2 => (match M2 p with
        | some (.lst acc) => acc.length < sizeLine ∧ lcLoop p chk t tt te ρ P ds (mup M2 p (.lst (acc ++ [y])))
        | _ => False) else lcLoop p chk t tt te ρ P ds M1
def eLC (it : DI) (t : Tg) (tt : DB) (te : DT) (vs : List Nat) : DT := fun ρ M P => it ρ M fun items chk M1 => ∀ p, M1 p = none → lcLoop p chk t tt te (wipeD ρ vs) P items (mup M1 p (.lst []))
section
variable {K : PySem.W.Frag} {H : Hp}
theorem ER.unset {ρ : Ev} {σ : St} (e : ER K H ρ σ) (i : Nat) : ER K H (ρ.set i none) (σ.set i none) := by
  refine ⟨by rw [List.length_set, List.length_set, e.1], fun j c q => ?_⟩
  by_cases hj : i = j
  · subst hj
    rw [List.getElem?_set, if_pos rfl] at q
    split at q <;> cases q
  · rw [List.getElem?_set_ne hj] at q
    obtain ⟨w, h1, h2⟩ := e.2 j c q
    exact ⟨w, by rw [List.getElem?_set_ne hj]; exact h1, h2⟩
theorem ER.wipe {ρ : Ev} {σ : St} (e : ER K H ρ σ) : ∀ vs, ER K H (wipeD ρ vs) (wipe σ vs)
  | [] => e
  | v :: vs => (ER.wipe e vs).unset v
theorem wipe_get {j : Nat} : ∀ (vs : List Nat) (σ : St), (wipe σ vs)[j]? = if j ∈ vs then (if j < σ.length then some none else none) else σ[j]?
  | [], σ => by simp [wipe]
  | v :: vs, σ => by
    show ((wipe σ vs).set v none)[j]? = _
    rw [List.getElem?_set, wipe_length, wipe_get vs σ]
    by_cases hv : v = j
    · subst hv
      simp
    · have hv' : ¬ j = v := fun e => hv e.symm
      simp [hv, hv']
theorem wipe_set {i : Nat} {vs : List Nat} {σ : St} {x : Option V} (h : i ∈ vs) : wipe (σ.set i x) vs = wipe σ vs := by
  apply List.ext_getElem?
  intro j
  rw [wipe_get, wipe_get, List.length_set]
  by_cases hj : j ∈ vs
  · rw [if_pos hj, if_pos hj]
  · rw [if_neg hj, if_neg hj, List.getElem?_set_ne]
    intro e
    exact hj (e ▸ h)
theorem wipe_wipe {vs : List Nat} {σ : St} : wipe (wipe σ vs) vs = wipe σ vs := by
  apply List.ext_getElem?
  intro j
  rw [wipe_get, wipe_length, wipe_get]
  by_cases hj : j ∈ vs
  · rw [if_pos hj, if_pos hj]
  · rw [if_neg hj, if_neg hj]
theorem sets_ok : ∀ {is : List Nat} {ds : List D} {vs : List V} {ρ ρ1 : Ev} {σ : St} {own : List Nat} {Q : St → Hp → Prop}, setsD is ds ρ = some ρ1 → DRs K H ds vs → ER K H ρ σ → (∀ i ∈ is, i ∈ own) →
    (∀ σ1, ER K H ρ1 σ1 → wipe σ1 own = wipe σ own → Q σ1 H) → is.length = vs.length ∧ gNms is vs σ H Q
  | [], [], _, ρ, ρ1, σ, own, Q, e, .nil, er, _, k => by
    cases e
    exact ⟨rfl, rfl, k σ er rfl⟩
  | i :: is, d :: ds, _, ρ, ρ1, σ, own, Q, e, .cons h r, er, ho, k => by
    obtain ⟨h1, h2⟩ := sets_ok (Q := Q) (show setsD is ds (ρ.set i (some d)) = some ρ1 from e) r (er.set h) (fun j hj => ho j (List.mem_cons_of_mem _ hj)) fun σ1 er1 hw => k σ1 er1 (hw.trans (wipe_set (ho i List.mem_cons_self)))
    exact ⟨by rw [List.length_cons, List.length_cons, h1], _, _, rfl, h2⟩
theorem tg_ok {t : Tg} {d : D} {v : V} {ρ ρ1 : Ev} {σ : St} {own : List Nat} {Q : St → Hp → Prop} (e : tgD t d ρ = some ρ1) (dv : DR K H d v) (er : ER K H ρ σ) (ho : ∀ i ∈ t.slots, i ∈ own)
    (k : ∀ σ1, ER K H ρ1 σ1 → wipe σ1 own = wipe σ own → Q σ1 H) : tgV K t v σ H Q := by
  cases t with
  | nm i =>
    cases e
    exact k _ (er.set dv) (wipe_set (ho i (List.mem_singleton.mpr rfl)))
  | tp is =>
    cases dv <;> first | (cases (show none = some ρ1 from e); done) | skip
    rename_i s r
    obtain ⟨h1, h2⟩ := sets_ok (Q := Q) (show setsD is _ ρ = some ρ1 from e) r er ho k
    exact ⟨_, _, rfl, SqT.of s, h1.symm, h2⟩
/-- a comprehension's reading -/
theorem lc_ok {wi : DI} {t : Tg} {tt : DB} {te : DT} {own : List Nat} {σ : St} {Q : VK} (ho : ∀ i ∈ t.slots, i ∈ own) (h : up K (eLC wi t tt te own) σ H Q) : tLc (upI K wi) (tgV K t) (upB K tt) (up K te) own σ H Q := by
  obtain ⟨ρ, M, P, er, hr, w, k⟩ := h
  refine ⟨ρ, M, _, er, hr, w, fun items chk M1 H1 J p1 e1 h1 wj D nD => ?_⟩
  refine ⟨fun i m H2 => ∃ M2, HR K H2 M2 ∧ Ext K H1 H2 ∧ m = items.length - i ∧ i ≤ items.length ∧ lcLoop D chk t tt te (wipeD ρ own) P (items.drop i) M2,
    ⟨items.length, _, h1.new nD .nil, .fresh nD, rfl, Nat.zero_le _, p1 D (h1.free nD)⟩, ?_⟩
  rintro i m H2 ⟨M2, h2, x2, rfl, hi, w2⟩
  by_cases hl : i < items.length
  · have ed : items.drop i = items[i] :: items.drop (i + 1) := List.drop_eq_getElem_cons hl
    have eg : items[i]? = some items[i] := List.getElem?_eq_getElem hl
    rw [ed] at w2
    obtain ⟨c2, w2⟩ := w2
    refine .inr ⟨wj.go i H2 M2 _ x2 h2 c2 eg, fun H3 => ∃ M3, HR K H3 M3 ∧ Ext K H1 H3 ∧ lcLoop D chk t tt te (wipeD ρ own) P (items.drop (i + 1)) M3, ?_, ?_⟩
    · rintro H3 ⟨M3, a, b, c⟩
      exact ⟨items.length - (i + 1), by omega, M3, a, b, rfl, hl, c⟩
    · intro x H3 hy
      obtain ⟨e3, h3, _, d3⟩ := wj.yld i H2 M2 _ x H3 x2 h2 c2 eg hy
      cases et : tgD t items[i] (wipeD ρ own) with
      | none => simp only [et] at w2
      | some ρ1 =>
        simp only [et] at w2
        have er3 : ER K H3 (wipeD ρ own) (wipe σ own) := (er.mono (e1.trans (x2.trans e3))).wipe own
        refine tg_ok et d3 er3 ho fun σ4 er4 hw4 => ⟨hw4.trans wipe_wipe, ρ1, M2, _, er4, h3, w2, fun b M5 H5 p5 e5 h5 => ?_⟩
        cases b with
        | false => exact ⟨M5, h5, x2.trans (e3.trans e5), p5⟩
        | true =>
          refine ⟨ρ1, M5, _, er4.mono e5, h5, p5, fun y M6 u H6 p6 e6 d6 h6 => ?_⟩
          cases em : M6 D with
          | none => simp only [em] at p6
          | some o =>
            simp only [em] at p6
            cases o with
            | dk _ => exact False.elim p6
            | dt _ => exact False.elim p6
            | lst acc =>
              simp only at p6
              obtain ⟨vs, q, r⟩ := h6 _ _ em
              exact ⟨vs, q, by rw [← r.length]; exact p6.1, _, h6.write q (r.append (.one d6)), x2.trans (e3.trans (e5.trans (e6.trans (.lst q)))), p6.2⟩
  · have ei : i = items.length := by omega
    rw [ei, List.drop_length] at w2
    exact .inl ⟨wj.stop i H2 M2 x2 h2 w2.1 (by omega), k _ _ _ _ w2.2 (e1.trans x2) (.ref D) h2⟩
end
section
variable {X : Cx}
/-- the parts of a comprehension -/
structure LcOk (X : Cx) (elt tg : Expr) (ifs : List Expr) (scope : Scope) (t : Tg) (tt : DB) (te : DT) : Prop where
  tg : ∀ (s : Shared) (H : Hp) (C : Addr) (cl : List (Str × Addr)) (fp : List Addr), PG (X.blk s H scope (compEnvC scope cl C X.env) fp) tg (tgV X.K t)
  ts : ∀ (s : Shared) (H : Hp) (C : Addr) (cl : List (Str × Addr)) (fp : List Addr), PTs (X.blk s H scope (compEnvC scope cl C X.env) fp) ifs (upB X.K tt)
  el : ∀ (s : Shared) (H : Hp) (C : Addr) (cl : List (Str × Addr)) (fp : List Addr), PE (X.blk s H scope (compEnvC scope cl C X.env) fp) elt (up X.K te)
theorem dx_lc {elt tg iter : Expr} {ifs : List Expr} {scope : Scope} {own : List (Str × Nat)} {pos : Pos} {wi : DI} {t : Tg} {tt : DB} {te : DT} (hc : X.calm = true) (hN : X.N.Nodup) (hi : Di X tg iter wi) (ok : BlkOk X.N X.env.scope scope own)
    (L : LcOk X elt tg ifs scope t tt te) (ho : ∀ i ∈ t.slots, i ∈ own.map (·.2)) (hs : ∀ x, foldedSetIterable iter X.env x = pure x) : Dx X (.ListComp elt [⟨tg, iter, ifs, 0⟩] scope pos) (eLC wi t tt te (own.map (·.2))) :=
  pe_wk (pe_lc hc hN hi ok L.tg L.ts L.el hs) fun σ H Q h => lc_ok ho h
theorem ds_lc {i : Nat} {y : Str} {py : Pos} {elt tg iter : Expr} {ifs : List Expr} {scope : Scope} {own : List (Str × Nat)} {pos spos : Pos} {wi : DI} {t : Tg} {tt : DB} {te : DT} (hc : X.calm = true) (hN : X.N.Nodup) (hy : X.N[i]? = some y) (hyl : X.env.scope.names.lookup y = some .local)
    (hsw : swapsWith (.ListComp elt [⟨tg, iter, ifs, 0⟩] scope pos) (some (.Name y py)) spos.line X.env = pure true) (hi : Di X tg iter wi) (ok : BlkOk X.N X.env.scope scope own)
    (L : LcOk X elt tg ifs scope t tt te) (ho : ∀ i ∈ t.slots, i ∈ own.map (·.2)) (hs : ∀ x, foldedSetIterable iter X.env x = pure x) :
    Ds X (.Assign [.Name y py] (.ListComp elt [⟨tg, iter, ifs, 0⟩] scope pos) spos) (sAsg (eLC wi t tt te (own.map (·.2))) (gN i)) :=
  ps_wk (ps_setLc hc hN hy hyl hsw hi ok L.tg L.ts L.el hs) fun D σ H ⟨ρ, M, P, er, hr, w, k⟩ =>
    lc_ok ho ⟨ρ, M, _, er, hr, w, fun d M1 v H1 p1 e1 d1 h1 => k.nx _ _ _ _ p1 e1 ((er.mono e1).set d1) h1⟩
end
end DL
/-! DLi: zip, x.index(y), list(range(..)). -/
namespace DL
open PySem PySem.Spec L2
open PyProof.Rows hiding St

/-! ### x.index(y) -/
def seqK (x : D) (M : Mh) : Prop := match x with
  | .ktp _ => True
  | .rol _ => True
  | .ref a => match M a with
    | some (.lst _) => True
    | _ => False
  | _ => False
def kitemsD (x : D) (M : Mh) : Option (List D) := match x with
  | .ktp ds => some ds
  | x => litemsD x M
def indexD (x y : D) (M : Mh) (P : PQ) : Prop := ∃ ds j z, kitemsD x M = some ds ∧ okD (.tup ds) = true ∧ okD y = true ∧ ds[j]? = some z ∧ deq z y = true ∧ (∀ m z', m < j → ds[m]? = some z' → deq z' y = false) ∧ P (.int (j : Nat)) M
def eIx (o a : DT) : DT := fun ρ M P => o ρ M fun x M1 => seqK x M1 ∧ a ρ M1 fun y M2 => indexD x y M2 P
theorem pds_get : ∀ (ds : List D) (j : Nat), (pds ds)[j]? = (ds[j]?).map pd
  | [], _ => by simp [pds]
  | d :: r, 0 => by simp [pds]
  | d :: r, j + 1 => by simpa [pds] using pds_get r j
section
variable {X : Cx}
theorem call_ix_list (hu : X.A.units + 65 < cLine) {pins : List (Addr × Obj)} {s : Shared} {σ : St} {H : Hp} {p : Addr} {vs : List V} {ds : List D} {y : D} {yv : V} {u : Value} {j : Nat} {z : D} {Q : VK} (I : Inv X pins σ H s) (q : SqL X.K H p vs) (r : DRs X.K H ds vs) (dy : DR X.K H y yv) (ry : RelV yv u)
    (o1 : okD (.tup ds) = true) (o2 : okD y = true) (hz : ds[j]? = some z) (he : deq z y = true) (hn : ∀ m z', m < j → ds[m]? = some z' → deq z' y = false) (k : Q (.int (j : Nat)) H) : wpAny (model X.prog X.w) X.A (call (.builtin "list.index") [.ref p, u]) (EP X pins σ Q) X.xe s := by
  have o1' : SeqAt.shaped (.list (pds ds)) = true := by
    unfold okD SeqAt.shaped at o1
    unfold SeqAt.shaped
    simpa [pd, PyData.canLay0, PyData.depth] using o1
  refine mt_indexD hu pins s σ H (.ref p) [yv] (.ref p) [u] Q I rfl (.cons ry .nil) ⟨p, yv, pd y, pds ds, j, pd z, rfl, rfl, .lst q (dps_of r (SeqAt.canLay_of_shaped (d := .tuple (pds ds)) o1)), dp_of dy (SeqAt.canLay_of_shaped o2), o1', o2, by rw [pds_get, hz]; rfl, he, fun m z' hm e => ?_, k⟩
  rw [pds_get] at e
  obtain ⟨w, hw, rfl⟩ := Option.map_eq_some_iff.mp e
  exact hn m w hm hw
theorem call_ix_tup (hu : X.A.units + 65 < cLine) {pins : List (Addr × Obj)} {s : Shared} {σ : St} {H : Hp} {p : Addr} {vs : List V} {ds : List D} {y : D} {yv : V} {u : Value} {j : Nat} {z : D} {Q : VK} (I : Inv X pins σ H s) (q : SqT X.K H p vs) (r : DRs X.K H ds vs) (dy : DR X.K H y yv) (ry : RelV yv u)
    (o1 : okD (.tup ds) = true) (o2 : okD y = true) (hz : ds[j]? = some z) (he : deq z y = true) (hn : ∀ m z', m < j → ds[m]? = some z' → deq z' y = false) (k : Q (.int (j : Nat)) H) : wpAny (model X.prog X.w) X.A (call (.builtin "tuple.index") [.ref p, u]) (EP X pins σ Q) X.xe s := by
  obtain ⟨bs, r1⟩ := Dp.reads I (pd y) yv u (dp_of dy (SeqAt.canLay_of_shaped o2)) ry
  have hxs : PyData.canLayAll0 (pds ds) = true := SeqAt.canLay_of_shaped (d := .tuple (pds ds)) o1
  have hroom : X.A.units + 1 + min (PyData.depthAll (pds ds)) (pd y).depth < cLine := room_in_shaped o2 hu
  obtain ⟨its, rv, pl, hlen⟩ := I.tuple q
  obtain ⟨⟨cls, dd, dt, sls⟩, ho, hc, n, hdt⟩ := pl
  dsimp only at hc hdt
  subst hc
  subst hdt
  obtain ⟨as, h4⟩ := Dp.readsAll I (pds ds) vs its (dps_of r hxs) rv
  have hm' : its.map (SeqAt.readOf s.heap) = pds ds := SeqAt.readsAll_map (pds ds) its as hxs h4
  have spot : ∀ (m : Nat) (hm : m < its.toArray.size), ∃ w, ds[m]? = some w ∧ SeqAt.readOf s.heap its.toArray[m] = pd w := fun m hm => by
    have lm : m < its.length := by rw [List.size_toArray] at hm; exact hm
    have e1 : (its.map (SeqAt.readOf s.heap))[m]? = some (SeqAt.readOf s.heap its[m]) := by rw [List.getElem?_map, List.getElem?_eq_getElem lm]; rfl
    rw [hm', pds_get] at e1
    obtain ⟨w, hw, e2⟩ := Option.map_eq_some_iff.mp e1
    exact ⟨w, hw, by rw [List.getElem_toArray]; exact e2.symm⟩
  have jl : j < its.toArray.size := by
    have l1 := r.length
    have l2 := rv.length
    have := (List.getElem?_eq_some_iff.mp hz).1
    rw [List.size_toArray]; omega
  refine call_meets PySem.F.slot_tuple_index ⟨_, ho, rfl⟩ PySem.F.entry_tuple_index (PySem.F.args_tuple_index_2 _ _) (TI.tuple_indexAt p its.toArray n dd sls u (fun v => PyData.eqv (SeqAt.readOf s.heap v) (pd y)) j jl ?_ ?_)
    ⟨ho, SeqAt.items_eqAt (vs := its.toArray) (show ReadsAll s.heap its.toArray.toList (pds ds) as from h4) r1 hxs (SeqAt.canLay_of_shaped o2) hroom, ⟨.int (j : Nat), H, I.tok _, ⟨_, rfl⟩, k⟩⟩
  · obtain ⟨w, hw, e⟩ := spot j jl
    rw [hz] at hw
    cases hw
    show PyData.eqv (SeqAt.readOf s.heap its.toArray[j]) (pd y) = true
    rw [e]; exact he
  · intro m hm hmj
    obtain ⟨w, hw, e⟩ := spot m hm
    show PyData.eqv (SeqAt.readOf s.heap its.toArray[m]) (pd y) = false
    rw [e]; exact hn m w hmj hw
theorem dx_idx {o e : Expr} {wo we : DT} {apos cpos : Pos} (hu : X.A.units + 65 < cLine) (ho : Dx X o wo) (he : Dx X e we) (hbase : attributeBase o "index" X.env (eval o X.env) = eval o X.env)
    (hfew : ((backTo cpos (starEach [e] X.env)).all (fun x => !x.1) && (backToKw cpos (keywordEach [] X.env)).all (fun x => x.1.isSome)
      && decide (([e] : List Expr).length + ([] : List Keyword).length + (if ([] : List Keyword).isEmpty then 0 else 1) < 30)) = true)
    (hline : (apos.endLine == cpos.line) = true) (hs : starEach [e] X.env = (false, eval e X.env) :: starEach [] X.env) : Dx X (.Call (.Attribute o "index" apos) [e] [] cpos) (eIx wo we) := by
  refine ⟨fun pins s σ H Q I h => ?_⟩
  obtain ⟨ρ, M, P, er, hr, w, k⟩ := h
  refine wpAny_Call_method_late hbase hfew hline rfl (thn (ho.run pins s σ H (fun v H1 => ∃ x M1, (seqK x M1 ∧ we ρ M1 fun y M2 => indexD x y M2 P) ∧ Ext X.K H H1 ∧ DR X.K H1 x v ∧ HR X.K H1 M1) I ⟨ρ, M, _, er, hr, w, fun x M1 v H1 p1 e1 d1 h1 => ⟨x, M1, p1, e1, d1, h1⟩⟩) ?_)
  rintro v s1 ⟨xv, H1, I1, r1, x, M1, ⟨sk, w1⟩, e1, d1, h1⟩
  have da : Da X [e] (aCons we aNil) := da_cons he da_nil hs
  have hA := da.run cpos pins s1 σ H1 (fun vs H2 => ∃ y M2, indexD x y M2 P ∧ Ext X.K H1 H2 ∧ DRs X.K H2 [y] vs ∧ HR X.K H2 M2) I1 ⟨ρ, M1, (fun xs M2 => match xs with
    | [y] => indexD x y M2 P
    | _ => False), er.mono e1, h1, w1, fun ds M2 vs H2 p2 e2 d2 h2 => by
      match ds, p2, d2 with
      | [y], p2, d2 => exact ⟨y, M2, p2, e2, d2, h2⟩⟩
  rw [hs] at hA ⊢
  have fin : ∀ id, (∀ (us : List Value) (s2 : Shared) (y : D) (yv : V) (u : Value) (H2 : Hp) (M2 : Mh), us = [u] → Inv X pins σ H2 s2 → indexD x y M2 P → Ext X.K H1 H2 → DR X.K H2 y yv → RelV yv u → HR X.K H2 M2 → wpAny (model X.prog X.w) X.A (call (.builtin id) (v :: us)) (EP X pins σ Q) X.xe s2) →
      wpAny (model X.prog X.w) X.A (callWith cpos (.builtin id) [v] (backTo cpos ((false, eval e X.env) :: starEach [] X.env)) (backToKw cpos (keywordEach [] X.env))) (EP X pins σ Q) X.xe s1 := fun id hcall => by
    refine Calls.callWith_builtin rfl (Calls.evalArgs_plain ?_)
    refine thn hA fun us s2 ⟨vs, H2, I2, r2, y, M2, p2, e2, d2, h2⟩ => ?_
    cases d2 with
    | cons dy dt =>
      cases dt
      cases r2 with
      | cons ry rt =>
        cases rt
        exact hcall _ s2 y _ _ H2 M2 rfl I2 p2 e2 dy ry h2
  have asList : ∀ p vs, v = .ref p → SqL X.K H1 p vs → (∀ H2 M2 y, Ext X.K H1 H2 → HR X.K H2 M2 → indexD x y M2 P → ∃ ds ws j z, SqL X.K H2 p ws ∧ DRs X.K H2 ds ws ∧ okD (.tup ds) = true ∧ okD y = true ∧ ds[j]? = some z ∧ deq z y = true ∧ (∀ m z', m < j → ds[m]? = some z' → deq z' y = false) ∧ P (.int (j : Nat)) M2) →
      ∃ T id, PlainAttrs T ∧ Slot T "index" id ∧ typeOf (.builtin id) = pure (.type "method_descriptor") ∧ s1.TypeIs v T ∧ (∀ a, v = .ref a → ∃ ob, s1.heap.get? a = some ob ∧ ob.dict = none) ∧
        wpAny (model X.prog X.w) X.A (callWith cpos (.builtin id) [v] (backTo cpos ((false, eval e X.env) :: starEach [] X.env)) (backToKw cpos (keywordEach [] X.env))) (EP X pins σ Q) X.xe s1 := fun p vs ev q g => by
    subst ev
    obtain ⟨its, _, pl, _⟩ := I1.list q
    refine ⟨"list", "list.index", PySem.F.plainAttrs_list, PySem.F.slot_list_index, PySem.F.type_list_index, pl.isList.typeIs, fun a ea => ?_, fin _ fun us s2 y yv u H2 M2 eu I2 p2 e2 dy ry h2 => ?_⟩
    · cases ea
      obtain ⟨ob, n, g1, g2, g3, _⟩ := pl
      exact ⟨ob, g1, g3⟩
    · subst eu
      obtain ⟨ds, ws, j, z, q2, r2, o1, o2, hz, hd, hn, pj⟩ := g H2 M2 y e2 h2 p2
      exact call_ix_list hu I2 q2 r2 dy ry o1 o2 hz hd hn (k _ _ _ _ pj (e1.trans e2) (.int _) h2)
  cases d1 with
  | ktp sn rr =>
    cases r1
    obtain ⟨its, rv, pl, hlen⟩ := I1.tuple sn.t
    refine ⟨"tuple", "tuple.index", PySem.F.plainAttrs_tuple, PySem.F.slot_tuple_index, PySem.F.type_tuple_index, (let ⟨ob, g1, g2, _⟩ := pl; ⟨ob, g1, g2⟩), fun a ea => ?_, fin _ fun us s2 y yv u H2 M2 eu I2 p2 e2 dy ry h2 => ?_⟩
    · cases ea
      rcases sn with ⟨ob, g, gd⟩ | ⟨ob, its, n, g, _, gd, _⟩
      · exact ⟨ob, (I1.hok _ _ g).1, gd⟩
      · exact ⟨ob, I1.kIn _ _ g, gd⟩
    · subst eu
      obtain ⟨ds, j, z, hk, o1, o2, hz, hd, hn, pj⟩ := p2
      cases hk
      exact call_ix_tup hu I2 (e2.sqT sn.t) (rr.mono e2) dy ry o1 o2 hz hd hn (k _ _ _ _ pj (e1.trans e2) (.int _) h2)
  | rol sf rr =>
    cases r1
    exact asList _ _ rfl sf.seq fun H2 M2 y e2 h2 ⟨ds, j, z, hk, r⟩ => by
      cases hk
      exact ⟨_, _, j, z, (sf.mono e2).seq, rr.mono e2, r⟩
  | ref a =>
    cases r1
    have sk : (match M1 a with | some (.lst _) => True | _ => False) := sk
    cases ea : M1 a with
    | none => rw [ea] at sk; exact sk.elim
    | some ob =>
      rw [ea] at sk
      cases ob with
      | lst ls =>
        obtain ⟨vs, q, rr⟩ := h1 _ _ ea
        refine asList a vs rfl (SqL.of q) fun H2 M2 y e2 h2 ⟨ds, j, z, hk, r⟩ => ?_
        have hk : (match M2 a with | some (.lst ds) => some ds | _ => none) = some ds := hk
        cases eb : M2 a with
        | none => rw [eb] at hk; cases hk
        | some ob2 =>
          rw [eb] at hk
          cases ob2 with
          | lst l2 =>
            cases hk
            obtain ⟨vs2, q2, rr2⟩ := h2 _ _ eb
            exact ⟨_, _, j, z, SqL.of q2, rr2, r⟩
          | _ => cases hk
      | _ => exact sk.elim
  | _ => exact sk.elim
end

/-! ### zip(x, y) -/
def titemsD : D → Option (List D)
  | .tup ds => some ds
  | .ktp ds => some ds
  | _ => none
def zipD (as bs : List D) : List D := List.zipWith (fun a b => .tup [a, b]) as bs
/-- x stands as it stood -/
def lchk (x : D) (M M' : Mh) : Prop := litemsD x M' = litemsD x M
def zipP (x y : D) (M : Mh) (P : List D → (Mh → Prop) → Mh → Prop) : Prop := match titemsD x, titemsD y with
  | some as, some bs => P (zipD as bs) (fun _ => True) M
  | _, _ => match litemsD x M, litemsD y M with
    | some as, some bs => P (zipD as bs) (fun M' => lchk x M M' ∧ lchk y M M') M
    | _, _ => False
def iZip2 (a b : DT) : DI := fun ρ M P => a ρ M fun x M1 => b ρ M1 fun y M2 => zipP x y M2 P
theorem zipD_get {as bs : List D} {i : Nat} {d : D} (h : (zipD as bs)[i]? = some d) : ∃ a b, as[i]? = some a ∧ bs[i]? = some b ∧ d = .tup [a, b] := by
  unfold zipD at h
  rw [List.getElem?_zipWith] at h
  cases ha : as[i]? with
  | none => rw [ha] at h; cases h
  | some a =>
    cases hb : bs[i]? with
    | none => rw [ha, hb] at h; cases h
    | some b =>
      rw [ha, hb] at h
      cases h
      exact ⟨a, b, rfl, rfl, rfl⟩
theorem zipD_len (as bs : List D) : (zipD as bs).length = min as.length bs.length := by unfold zipD; rw [List.length_zipWith]
section
variable {K : PySem.W.Frag} {H0 : Hp}
theorem wj_zip {a b : Addr} {as bs : List D} {chk : Mh → Prop} (fa : ∀ H M, Ext K H0 H → HR K H M → chk M → ∃ xs, SqL K H a xs ∧ DRs K H as xs) (fb : ∀ H M, Ext K H0 H → HR K H M → chk M → ∃ xs, SqL K H b xs ∧ DRs K H bs xs) : WalkJ K H0 (zipD as bs) chk (Itz K a b) where
  stop := fun i H M x h c hl => by
    obtain ⟨xs, q1, r1⟩ := fa H M x h c
    obtain ⟨ys, q2, r2⟩ := fb H M x h c
    refine ⟨xs, ys, q1, q2, ?_⟩
    rw [zipD_len, r1.length, r2.length] at hl
    omega
  go := fun i H M d x h c e => by
    obtain ⟨xs, q1, r1⟩ := fa H M x h c
    obtain ⟨ys, q2, r2⟩ := fb H M x h c
    obtain ⟨a, b, e1, e2, rfl⟩ := zipD_get e
    obtain ⟨v, g1, _⟩ := r1.get e1
    obtain ⟨u, g2, _⟩ := r2.get e2
    exact ⟨xs, ys, v, u, q1, q2, g1, g2⟩
  yld := fun i H M d y H' x h c e w => by
    obtain ⟨xs, q1, r1⟩ := fa H M x h c
    obtain ⟨ys, q2, r2⟩ := fb H M x h c
    obtain ⟨a, b, e1, e2, rfl⟩ := zipD_get e
    obtain ⟨v, g1, d1⟩ := r1.get e1
    obtain ⟨u, g2, d2⟩ := r2.get e2
    obtain ⟨T, v', u', rfl, nT, rfl, f1, f2⟩ := w
    have z1 := f1 _ q1
    have z2 := f2 _ q2
    rw [g1] at z1
    rw [g2] at z2
    cases z1
    cases z2
    refine ⟨.fresh nT, h.fresh nT, fun p vs q => ?_, .tup upd_same (.two (d1.mono (.fresh nT)) (d2.mono (.fresh nT)))⟩
    rw [upd_ne fun z => by rw [z, nT] at q; cases q]; exact q
theorem wj_zipT {a b : Addr} {as bs : List D} {xs ys : List V} (q1 : SqT K H0 a xs) (r1 : DRs K H0 as xs) (q2 : SqT K H0 b ys) (r2 : DRs K H0 bs ys) : WalkJ K H0 (zipD as bs) (fun _ => True) (RZ.ItzT K a b) where
  stop := fun i H M x h c hl => by
    refine ⟨xs, ys, x.sqT q1, x.sqT q2, ?_⟩
    rw [zipD_len, r1.length, r2.length] at hl
    omega
  go := fun i H M d x h c e => by
    obtain ⟨a, b, e1, e2, rfl⟩ := zipD_get e
    obtain ⟨v, g1, _⟩ := r1.get e1
    obtain ⟨u, g2, _⟩ := r2.get e2
    exact ⟨xs, ys, v, u, x.sqT q1, x.sqT q2, g1, g2⟩
  yld := fun i H M d y H' x h c e w => by
    obtain ⟨a, b, e1, e2, rfl⟩ := zipD_get e
    obtain ⟨v, g1, d1⟩ := r1.get e1
    obtain ⟨u, g2, d2⟩ := r2.get e2
    obtain ⟨T, v', u', rfl, nT, rfl, f1, f2⟩ := w
    have z1 := f1 _ (x.sqT q1)
    have z2 := f2 _ (x.sqT q2)
    rw [g1] at z1
    rw [g2] at z2
    cases z1
    cases z2
    refine ⟨.fresh nT, h.fresh nT, fun p vs q => ?_, .tup upd_same (.two ((d1.mono x).mono (.fresh nT)) ((d2.mono x).mono (.fresh nT)))⟩
    rw [upd_ne fun z => by rw [z, nT] at q; cases q]; exact q
end
section
variable {X : Cx}
theorem litems_sq {K : PySem.W.Frag} {H0 H : Hp} {x : D} {v : V} {p : Addr} {M M' : Mh} {ds : List D} (d : DR K H0 x v) (ev : v = .ref p) (x1 : Ext K H0 H) (h : HR K H M') (e : litemsD x M = some ds) (c : lchk x M M') : ∃ xs, SqL K H p xs ∧ DRs K H ds xs := by
  unfold lchk at c
  rw [e] at c
  obtain ⟨p', vs, e1, q, r⟩ := litems_of (d.mono x1) h c
  rw [ev] at e1
  cases e1
  exact ⟨vs, q, r⟩
theorem titems_sq {K : PySem.W.Frag} {H : Hp} {x : D} {v : V} {ds : List D} (d : DR K H x v) (e : titemsD x = some ds) : ∃ p xs, v = .ref p ∧ SqT K H p xs ∧ DRs K H ds xs := by
  cases d with
  | tup s r => cases e; exact ⟨_, _, rfl, .of s, r⟩
  | ktp s r => cases e; exact ⟨_, _, rfl, s.t, r⟩
  | _ => cases e
theorem di_zip {a b : Expr} {wa wb : DT} {elts : List Expr} {kk : Nat} {p pos tpos : Pos} (hg : Gl X "zip") (hm : X.mg "zip" = none) (ha : Dx X a wa) (hb : Dx X b wb) (hs : starEach [a, b] X.env = (false, eval a X.env) :: starEach [b] X.env) (hs2 : starEach [b] X.env = (false, eval b X.env) :: starEach [] X.env)
    (hpl : (backTo pos (starEach [b] X.env)).any (·.1) = false) : Di X (.Tuple elts kk tpos) (.Call (.Name "zip" p) [a, b] [] pos) (iZip2 wa wb) :=
  pi_wk (RZ.pi_zipA hg hm (da_cons ha (da_cons hb da_nil hs2) hs) hs hpl) fun σ H R ⟨ρ, M, P, er, hr, w, k⟩ => by
    refine ⟨ρ, M, (fun xs M1 => match xs with
      | [x, y] => zipP x y M1 P
      | _ => False), er, hr, w, fun xs M1 vs H1 p1 e1 d1 h1 => ?_⟩
    match xs, p1, d1 with
    | [x, y], p1, .cons dx (.cons dy .nil) =>
      have p1 : zipP x y M1 P := p1
      unfold zipP at p1
      split at p1
      · rename_i as bs ea eb
        obtain ⟨pa, xs, rfl, q1, r1⟩ := titems_sq dx ea
        obtain ⟨pb, ys, rfl, q2, r2⟩ := titems_sq dy eb
        exact ⟨pa, pb, xs, ys, rfl, .inr ⟨q1, q2, k _ _ _ _ _ p1 e1 h1 (wj_zipT q1 r1 q2 r2)⟩⟩
      · split at p1
        · rename_i as bs ea eb
          obtain ⟨pa, xs, rfl, q1, r1⟩ := litems_of dx h1 ea
          obtain ⟨pb, ys, rfl, q2, r2⟩ := litems_of dy h1 eb
          exact ⟨pa, pb, xs, ys, rfl, .inl ⟨q1, q2, k _ _ _ _ _ p1 e1 h1 (wj_zip (fun H M x h c => litems_sq dx rfl x h ea c.1) fun H M x h c => litems_sq dy rfl x h eb c.2)⟩⟩
        · exact p1.elim

/-! ### list(range(n)) -/
def eLr (a : DT) : DT := fun ρ M P => a ρ M fun x M1 => match x with
  | .int j => (-(2 ^ 62) ≤ j ∧ j ≤ 16777216) ∧ ∀ p, M1 p = none → P (.ref p) (mup M1 p (.lst (rngI 0 j.toNat)))
  | _ => False
theorem rgV_dr {K : PySem.W.Frag} {H : Hp} (j : Int) : DRs K H (rngI 0 j.toNat) (rgV 0 j) := by
  unfold rngI rgV
  rw [show (j - 0).toNat = j.toNat by omega]
  generalize List.range j.toNat = l
  induction l with
  | nil => exact .nil
  | cons a r ih => exact .cons (.int _) ih
theorem dx_lr {a : Expr} {wa : DT} {p p2 pos pos2 : Pos} (hc : X.calm = true) (hg : Gl X "list") (hm : X.mg "list" = none) (hg2 : Gl X "range") (hm2 : X.mg "range" = none) (ha : Dx X a wa) (na : starEach [a] X.env = (false, eval a X.env) :: starEach [] X.env)
    (na2 : starEach [.Call (.Name "range" p2) [a] [] pos2] X.env = (false, eval (.Call (.Name "range" p2) [a] [] pos2) X.env) :: starEach [] X.env) : Dx X (.Call (.Name "list" p) [.Call (.Name "range" p2) [a] [] pos2] [] pos) (eLr wa) :=
  pe_wk (pe_listRg hc hg hm (prg_1 hg2 hm2 ha na) na2) fun σ H Q ⟨ρ, M, P, er, hr, w, k⟩ => ⟨ρ, M, _, er, hr, w, fun x M1 v H1 p1 e1 d1 h1 => by
    cases d1 <;> first | exact False.elim p1 | skip
    rename_i j
    exact ⟨j, rfl, ⟨by decide, by decide, p1.1.1, by omega, by omega⟩, fun q nq => k _ _ _ _ (p1.2 q (h1.free nq)) (e1.trans (.fresh nq)) (.ref q) (h1.new nq (rgV_dr j))⟩⟩
end
end DL
/-! DLj: repr of a tuple, list(d.values()). -/
namespace DL
open PySem PySem.Spec L2
open PyProof.Rows hiding St

/-! ### repr(x), x a tuple -/
def tupB : D → Bool
  | .tup _ => true
  | .ktp _ => true
  | _ => false
def reprD : DSp := fun xs M P => ∃ x, xs = [x] ∧ tupB x = true ∧ okD x = true ∧ (pd x).showable = true ∧ (pd x).shown.length ≤ sizeLine ∧ P (.str (pd x).shown) M
theorem fd_repr {X : Cx} (hu : X.A.units + 65 < cLine) (hgd : X.A.guards = some []) : CallR X (.builtin "repr") (upL X.K reprD) := by
  intro pins s σ H xs us Q I r h
  obtain ⟨ds, M, P, dr, hr, ⟨x, rfl, tb, ok, sh, sz, w⟩, k⟩ := h
  cases dr with
  | cons d1 d2 =>
    cases d2
    rename_i v
    obtain ⟨u, rfl, ru⟩ : ∃ u, us = [u] ∧ RelV v u := by
      cases r with
      | cons a b => cases b; exact ⟨_, rfl, a⟩
    obtain ⟨bs, rd⟩ := Dp.reads I (pd x) v u (dp_of d1 (SeqAt.canLay_of_shaped ok)) ru
    obtain ⟨a, rfl⟩ : ∃ a, v = .ref a := by
      cases d1 <;> first | exact ⟨_, rfl⟩ | (exact absurd tb (by simp [tupB]))
    obtain rfl : u = Value.ref a := ru
    refine repr_of_reads' rd sh (PyData.noDict_hsm (PyData.hasDict_of_canLay _ (SeqAt.canLay_of_shaped ok))) hgd (by have := SeqAt.depth_of_shaped ok; omega) (fun _ _ e => e) (fun h' t tk hk => ?_) sz
    exact ⟨.str _, H, I.kept (t' := tk) hk, ⟨_, rfl⟩, k _ _ _ _ w (Ext.refl _ _) (.str _) hr⟩

/-! ### what may be shown -/
structure Lay (k w : Nat) (d : D) : Prop where
  c : (pd d).canLay0 = true
  dp : (pd d).depth ≤ k
  wt : (pd d).weight ≤ w
  ns : (pd d).intsShort 13 = true
  sh : (pd d).showable = true
theorem Lay.mono {k w k' w' : Nat} {d : D} (h : Lay k w d) (h1 : k ≤ k') (h2 : w ≤ w') : Lay k' w' d := ⟨h.c, Nat.le_trans h.dp h1, Nat.le_trans h.wt h2, h.ns, h.sh⟩
theorem Lay.ok {k w : Nat} {d : D} (h : Lay k w d) (hk : k ≤ 64) : okD d = true := by
  unfold okD SeqAt.shaped
  rw [h.c, decide_eq_true (Nat.le_trans h.dp hk)]; rfl
theorem Lay.fits {k w : Nat} {d : D} (h : Lay k w d) (hk : k ≤ 64) (hw : w ≤ 1048576) : (pd d).shown.length ≤ sizeLine := by
  refine PyData.shown_fits_of_layable0 (B := 13) (by decide) (by decide) ?_ h.ns
  unfold PyData.layable0
  rw [h.c, decide_eq_true (Nat.le_trans h.dp hk), decide_eq_true (Nat.le_trans h.wt hw)]; rfl
theorem lay_int {k : Nat} {i : Int} (h : i.natAbs < 1048576) : Lay k 20 (.int i) := by
  refine ⟨rfl, Nat.zero_le _, ?_, ?_, ?_⟩
  · show (if i == 0 then 0 else i.natAbs.log2 + 1) ≤ 20
    split
    · omega
    · rename_i hz
      have hz : i ≠ 0 := by simpa using hz
      have := (Nat.log2_lt (n := i.natAbs) (k := 20) (by omega)).mpr (by simpa using h)
      omega
  · show decide _ = true
    exact decide_eq_true (PyData.shown_int_le (by omega))
  · show decide _ = true
    refine decide_eq_true ?_
    by_cases hz : i.natAbs = 0
    · rw [hz]; decide
    · exact Nat.lt_of_lt_of_le ((Nat.log2_lt (n := i.natAbs) (k := 20) hz).mpr (by simpa using h)) (by decide)
theorem lay_str {k n : Nat} {z : Str} (h : PyData.strOk z = true) (hn : z.length ≤ n) : Lay k n (.str z) := ⟨h, Nat.zero_le _, hn, rfl, rfl⟩
theorem lay_all {k w : Nat} : ∀ {ds : List D}, (∀ d ∈ ds, Lay k w d) → PyData.canLayAll0 (pds ds) = true ∧ PyData.depthAll (pds ds) ≤ k ∧ PyData.weightAll (pds ds) ≤ ds.length * (w + 1) ∧ PyData.intsShortAll 13 (pds ds) = true ∧ PyData.showableAll (pds ds) = true
  | [], _ => by simp [pds, PyData.canLayAll0, PyData.depthAll, PyData.weightAll, PyData.intsShortAll, PyData.showableAll]
  | d :: r, h => by
    obtain ⟨i1, i2, i3, i4, i5⟩ := lay_all (ds := r) fun x hx => h x (List.mem_cons_of_mem _ hx)
    obtain ⟨h1, h2, h3, h4, h5⟩ := h d List.mem_cons_self
    simp only [pds, PyData.canLayAll0, PyData.depthAll, PyData.weightAll, PyData.intsShortAll, PyData.showableAll, h1, i1, h4, i4, h5, i5, Bool.and_self, and_self, and_true, true_and]
    refine ⟨by omega, ?_⟩
    rw [List.length_cons, Nat.succ_mul]
    omega
theorem lay_tup {k w n : Nat} {ds : List D} (h : ∀ d ∈ ds, Lay k w d) (hn : ds.length ≤ n) : Lay (k + 1) (n * (w + 1)) (.tup ds) := by
  obtain ⟨h1, h2, h3, h4, h5⟩ := lay_all h
  have e : pd (.tup ds) = .tuple (pds ds) := by simp [pd]
  refine ⟨by rw [e]; exact h1, ?_, ?_, by rw [e]; exact h4, by rw [e]; exact h5⟩
  · rw [e]; simp only [PyData.depth]; omega
  · rw [e]; simp only [PyData.weight]; exact Nat.le_trans h3 (Nat.mul_le_mul_right _ hn)

/-! ### list(d.values()) -/
section
variable {X : Cx} {e : Expr} {te : TE} {p apos cpos pos : Pos}
def tLV (te : TE) : TE := fun σ H Q => te σ H fun x H1 => ∃ d kvs, x = .ref d ∧ H1 d = some (.dK kvs) ∧ ∀ q, H1 q = none → Q (.ref q) (upd H1 q (.lst (kvs.map (·.2))))
theorem pe_listVals (hc : X.calm = true) (he : PE X e te) (hg : Gl X "list") (hm : X.mg "list" = none) (hbase : attributeBase e "values" X.env (eval e X.env) = eval e X.env) (hline : (apos.endLine == cpos.line) = true)
    (hs : starEach [.Call (.Attribute e "values" apos) [] [] cpos] X.env = (false, eval (.Call (.Attribute e "values" apos) [] [] cpos) X.env) :: starEach [] X.env) :
    PE X (.Call (.Name "list" p) [.Call (.Attribute e "values" apos) [] [] cpos] [] pos) (tLV te) := by
  refine ⟨fun pins s σ H Q I hq => ?_⟩
  refine wpAny_Call_Name_kw (ld_blt I hg hm (u := .type "list") (by decide +kernel) ?_)
  refine PyProof.Rows.callWith_type1 ?_ hs rfl
  rw [hs]
  show wpAny _ _ (spliced ((false, eval (.Call (.Attribute e "values" apos) [] [] cpos) X.env) :: backTo pos (starEach [] X.env))) _ _ s
  refine Calls.spliced_cons ?_
  refine wpAny_Call_method (T := "dict") (id := "dict.values") hbase rfl hline PySem.F.plainAttrs_dict PySem.F.slot_dict_values PySem.F.type_dict_values (thn (he.run pins s σ H _ I hq) fun u s1 ⟨x, H1, I1, rx, d, kvs, ex, hd, q⟩ => ?_)
  subst ex
  obtain rfl : u = Value.ref d := rx
  have I2 : Inv X pins σ H1 { s1 with heap := s1.heap.push { cls := .type "dict_values", data := .fields #[.ref d] } } := I1.kept (t' := s1.toks) fun b ob q => Heap.get?_push_of_some _ q
  obtain ⟨hz, hs0, vs, kv, hdo⟩ := I1.hok d _ hd
  obtain ⟨ep, hat⟩ := hdo.dictAt
  have hl : kvs.length = vs.length := Paired.length kv
  refine ⟨hdo.typeIs, hdo.mapOf.noDict, ?_⟩
  show wpAny _ _ (callWith cpos (.builtin "dict.values") [.ref d] [] []) _ X.xe s1
  refine method_meetsIn PySem.F.slot_dict_values PySem.F.entry_dict_values rfl (PySem.evalArgs_none ⟨rfl, hdo.typeIs, PySem.F.args_dict_values_1 _, _, meets_dict_values (mixKind X.prog X.w) d hs0, ⟨vs, hdo⟩, ?_⟩)
  refine Calls.spliced_nil ?_
  refine PySem.W.kdl_call (PySem.W.kdl_values (knd := mixKind X.prog X.w) (kvs := vs) (ep := ep)) (I1.ok.hd hc) ⟨⟨_, Heap.get?_push_size _ rfl, rfl, rfl⟩, hat.push _⟩ (by rw [← hl]; exact hz) fun h' tk acc' c' hkeep hS hacc => ?_
  refine ⟨.ref _, upd H1 _ (.lst (kvs.map (·.2))), I2.laid hkeep (Nat.le_refl _) (show ObjOk X.prog X.w _ _ _ (.lst (kvs.map (·.2))) from ⟨?_, acc'.toList, c', ?_, ?_⟩), rfl, q _ (I2.hok.fresh (Nat.le_refl _))⟩
  · rw [List.length_map]; exact hz
  · have el : acc'.toList.length = acc'.size := by simp
    refine vals_of_at (by rw [List.length_map, el, hacc.1, hl]) fun j x w h1 h2 => ?_
    obtain ⟨k, hky⟩ := hacc.2 j w (by rw [← Array.getElem?_toList]; exact h2)
    obtain ⟨y, e1, ry⟩ := KV.at' kv hky
    rw [List.getElem?_map, e1] at h1
    cases h1
    exact ry
  · rw [Array.toArray_toList]; exact hS
/-- list(d.values()) by values -/
def valsLD (x : D) (M : Mh) (P : PQ) : Prop := match x with
  | .ref a => match M a with
    | some (.dk kvs) => ∀ p, M p = none → P (.ref p) (mup M p (.lst (kvs.map (·.2))))
    | _ => False
  | _ => False
def eVs (a : DT) : DT := fun ρ M P => a ρ M fun x M1 => valsLD x M1 P
theorem dks_vals {K : PySem.W.Frag} {H : Hp} {kvs : List (Key × D)} {ws : List (Key × V)} (h : DKs K H kvs ws) : DRs K H (kvs.map (·.2)) (ws.map (·.2)) := by
  induction h with
  | nil => exact .nil
  | cons a b ih => exact .cons a.2 ih
theorem dx_vals {wa : DT} (hc : X.calm = true) (he : Dx X e wa) (hg : Gl X "list") (hm : X.mg "list" = none) (hbase : attributeBase e "values" X.env (eval e X.env) = eval e X.env) (hline : (apos.endLine == cpos.line) = true)
    (hs : starEach [.Call (.Attribute e "values" apos) [] [] cpos] X.env = (false, eval (.Call (.Attribute e "values" apos) [] [] cpos) X.env) :: starEach [] X.env) :
    Dx X (.Call (.Name "list" p) [.Call (.Attribute e "values" apos) [] [] cpos] [] pos) (eVs wa) :=
  pe_wk (pe_listVals hc he hg hm hbase hline hs) fun σ H Q ⟨ρ, M, P, er, hr, w, k⟩ =>
    ⟨ρ, M, _, er, hr, w, fun x M1 v H1 p1 e1 d1 h1 => by
      cases d1 <;> first | exact False.elim p1 | skip
      rename_i a
      have p1 : (match M1 a with | some (.dk kvs) => ∀ p, M1 p = none → P (.ref p) (mup M1 p (.lst (kvs.map (·.2)))) | _ => False) := p1
      cases ea : M1 a with
      | none => rw [ea] at p1; exact p1.elim
      | some o =>
        rw [ea] at p1
        cases o with
        | dk kvs =>
          obtain ⟨ws, q, r⟩ := h1 _ _ ea
          exact ⟨a, ws, rfl, q, fun q nq => k _ _ _ _ (p1 q (h1.free nq)) (e1.trans (.fresh nq)) (.ref q) (h1.new nq (dks_vals r))⟩
        | _ => exact p1.elim⟩
end
end DL
/-! DLf: from the syntax to its transformer, and that this is right. -/
namespace DL
open PySem PySem.Spec L2
open PyProof.Rows hiding St

/-- what is known where a piece of code runs -/
structure Gm where
  N : List Str
  sc : Scope
  st : Str → Bool
  fns : List (Str × Nat × DSp)
  glb : List (Str × D)

def bltNames : List Str := ["len", "int", "str", "tuple", "list", "sum", "abs", "max", "min", "range", "isinstance", "bool", "dict", "sorted", "zip", "enumerate", "reversed", "repr"]
/-- the def of this name that takes so many -/
def fnAt (l : List (Str × Nat × DSp)) (x : Str) (n : Nat) : Option DSp := (l.find? fun e => e.1 == x && e.2.1 == n).map (·.2.2)
structure XOk (X : Cx) (G : Gm) : Prop where
  nd : X.N.Nodup
  hN : X.N = G.N
  sc : X.env.scope = G.sc
  calm : X.calm = true
  hu : X.A.units + 65 < cLine
  gd : X.A.guards = some []
  pass : PassesOwn (model X.prog X.w) X.A X.env X.xe
  fns : ∀ x n sp, fnAt G.fns x n = some sp → CallOk X x n sp
  glb : ∀ x d, G.glb.lookup x = some d → ∃ u v, X.mg x = some u ∧ RelV v u ∧ ∀ H, DR X.K H d v
  blt : ∀ x ∈ bltNames, X.mg x = none
  st : ∀ x, G.st x = true → Loc X.env.scope x ∧ (X.fn x = true ∨ X.env.scope.names.lookup x = some .local)

def ixOf : List Str → Str → Option Nat
  | [], _ => none
  | y :: r, x => if y == x then some 0 else (ixOf r x).map (· + 1)
theorem ixOf_get : ∀ {N : List Str} {x : Str} {i : Nat}, ixOf N x = some i → N[i]? = some x
  | [], _, _, h => by cases h
  | y :: r, x, i, h => by
    unfold ixOf at h
    split at h
    · cases h
      rename_i e
      rw [eq_of_beq e]; rfl
    · obtain ⟨j, e, rfl⟩ := Option.map_eq_some_iff.mp h
      simpa using ixOf_get e
def okName (x : Str) : Bool := !(x == ("__debug__" : Str)) && !(x == ("__classdict__" : Str))
def visB (sc : Scope) (x : Str) : Bool := match sc.names.lookup x with
  | some .local => true | some .cell => true | some .free => true
  | _ => false
theorem vis_of {sc : Scope} {x : Str} (h : visB sc x = true) : Vis sc x := by
  unfold visB at h
  split at h
  · exact .inl (by assumption)
  · exact .inr (.inl (by assumption))
  · exact .inr (.inr (by assumption))
  · cases h
def glB (sc : Scope) (x : Str) : Bool := match sc.names.lookup x with
  | some .globalImplicit => true
  | _ => false
theorem gl_of {X : Cx} {G : Gm} (O : XOk X G) {x : Str} (h : glB G.sc x = true) : Gl X x := by
  unfold glB at h
  split at h
  · show X.env.scope.names.lookup x = _
    rw [O.sc]; assumption
  · cases h
def starB : Expr → Bool
  | .Starred .. => true
  | _ => false
theorem star_of {e : Expr} {es : List Expr} {env : Env} (h : starB e = false) : starEach (e :: es) env = (false, eval e env) :: starEach es env := by
  cases e <;> first | rfl | cases h
theorem stars_of {pos : Pos} {env : Env} : ∀ {es : List Expr}, es.all (fun e => !starB e) = true → (backTo pos (starEach es env)).any (·.1) = false
  | [], _ => rfl
  | e :: es, h => by
    rw [List.all_cons, Bool.and_eq_true] at h
    rw [star_of (by simpa using h.1)]
    show (false || (backTo pos (starEach es env)).any (·.1)) = false
    rw [stars_of h.2]; rfl
theorem stars_all {pos : Pos} {env : Env} : ∀ {es : List Expr}, es.all (fun e => !starB e) = true → (backTo pos (starEach es env)).all (fun x => !x.1) = true
  | [], _ => rfl
  | e :: es, h => by
    rw [List.all_cons, Bool.and_eq_true] at h
    rw [star_of (by simpa using h.1)]
    show (true && (backTo pos (starEach es env)).all (fun x => !x.1)) = true
    rw [stars_all h.2]; rfl
def sliceB : Expr → Bool
  | .Slice .. => true
  | _ => false
theorem plain_of {b : Expr} (h : sliceB b = false) : PlainIx b := by
  intro o i
  cases b <;> first | rfl | cases h
def setB : Expr → Bool
  | .Set .. => true
  | _ => false
theorem folded_of {e : Expr} {env : Env} (h : setB e = false) : ∀ x, foldedSetIterable e env x = pure x := by
  intro x
  cases e <;> first | rfl | cases h
theorem marks_of {op : CmpOp} {e : Expr} (h : setB e = false) : behindInMarks op e = false := by
  cases e <;> first | rfl | cases h
def compB : Expr → Bool
  | .ListComp .. => true | .SetComp .. => true | .DictComp .. => true
  | _ => false
theorem swaps_of {e : Expr} {t : Option Expr} {l : Nat} {env : Env} (h : compB e = false) : swapsWith e t l env = pure false := by
  cases e <;> first | rfl | cases h
/-- a test that is its value's truth -/
def truB : Expr → Bool
  | .UnaryOp .. => false | .BoolOp .. => false | .IfExp .. => false | .Compare .. => false
  | _ => true
theorem tru_plain {e : Expr} {env : Env} (h : truB e = true) : ∀ whole, isTrue e env whole = (do let v ← whole; standAt e.pos; holding [v] (truthy v)) := by
  intro whole
  cases e <;> first | rfl | cases h
def superB : Expr → Bool
  | .Call .. => true
  | _ => false
theorem base_of {o : Expr} {m : Str} {env : Env} {t : Sem Value} (h : superB o = false) : attributeBase o m env t = t := by
  cases o <;> first | rfl | cases h

def binR : Operator → Option (D → D → Mh → PQ → Prop)
  | .Add => some addD | .Sub => some subD | .Mult => some mulD | .FloorDiv => some divD | .Mod => some modD | .Pow => some powD
  | _ => none
def augR : Operator → Option (D → D → Mh → PQ → Prop)
  | .Add => some iaddD | .Sub => some subD
  | _ => none
def cmpR : CmpOp → Option Cmp
  | .Eq => some eqD | .NotEq => some neD | .Lt => some ltD | .LtE => some leD | .Gt => some gtD | .GtE => some geD | .In => some inD | .NotIn => some ninD | .Is => some isD | .IsNot => some isnD
def fnR (x : Str) : Option (Bool × String × DSp) :=
  if x == "len" then some (true, "len", lenD) else if x == "int" then some (false, "int", intD) else if x == "str" then some (false, "str", strD)
  else if x == "tuple" then some (false, "tuple", tupleD) else if x == "list" then some (false, "list", listD) else if x == "sum" then some (true, "sum", sumD)
  else if x == "abs" then some (true, "abs", absD) else if x == "max" then some (true, "max", maxD) else if x == "min" then some (true, "min", minD) else if x == "sorted" then some (true, "sorted", sortedD) else if x == "repr" then some (true, "repr", reprD) else none
def tyR (x : Str) : Option String :=
  if x == "int" then some "int" else if x == "str" then some "str" else if x == "tuple" then some "tuple" else if x == "list" then some "list" else if x == "bool" then some "bool" else if x == "dict" then some "dict" else none
def mtR (x : Str) : Option (String × (D → List D → Mh → PQ → Prop)) :=
  if x == "append" then some ("list", appendD) else if x == "extend" then some ("list", extendD) else if x == "pop" then some ("list", popD) else if x == "join" then some ("str", joinD) else none

def andE : BoolOp → DT → DT → DT
  | .And => eAnd
  | .Or => eOr
def andB : BoolOp → DB → DB → DB
  | .And => bAnd
  | .Or => bOr
/-- the recursion, given from outside -/
structure Rc where
  e : Gm → Expr → Option DT
  b : Gm → Expr → Option DB
section
variable (r : Rc)
def dAs (G : Gm) : List Expr → Option DA
  | [] => some aNil
  | e :: es => if starB e then none else match r.e G e, dAs G es with
    | some w, some u => some (aCons w u)
    | _, _ => none
def dOpt (G : Gm) : Option Expr → Option (Option DT)
  | none => some none
  | some e => (r.e G e).map some
def tupTg : Expr → Bool
  | .Tuple .. => true
  | _ => false
def dIt0 (G : Gm) (it : Expr) : Option DI := match it with
  | .Call (.Name f _) [a] [] _ => if f == "range" then (if glB G.sc f && !starB a then (dAs r G [a]).map iRg1 else none) else (r.e G it).map iSeq
  | .Call (.Name f _) [a, b] [] _ => if f == "range" then (if glB G.sc f && !starB a && !starB b then (dAs r G [a, b]).map iRg2 else none) else (r.e G it).map iSeq
  | .Call (.Name f _) [a, b, c] [] _ => if f == "range" then (if glB G.sc f && !starB a && !starB b && !starB c then (dAs r G [a, b, c]).map iRg3 else none) else (r.e G it).map iSeq
  | it => (r.e G it).map iSeq
def dIt (G : Gm) (tg it : Expr) : Option DI := match it with
  | .Call (.Name f _) [a, b] [] _ => if f == "zip" then (if tupTg tg && glB G.sc f && !starB a && !starB b then (match r.e G a, r.e G b with
      | some x, some y => some (iZip2 x y)
      | _, _ => none) else none) else dIt0 r G it
  | it => dIt0 r G it
def ownOf (N : List Str) (scope : Scope) : List (Str × Nat) := scope.names.filterMap fun (x, k) => if k == .local || k == .cell then (ixOf N x).map (x, ·) else none
def tgNms (N : List Str) (st : Str → Bool) : List Expr → Option (List Nat)
  | [] => some []
  | .Name x _ :: r => if st x then match ixOf N x, tgNms N st r with
    | some i, some is => some (i :: is)
    | _, _ => none else none
  | _ => none
def tgOf (N : List Str) (st : Str → Bool) : Expr → Option Tg
  | .Name x _ => if st x then (ixOf N x).map .nm else none
  | .Tuple es _ _ => (tgNms N st es).map .tp
  | _ => none
def Gm.blk (G : Gm) (scope : Scope) : Gm := { G with sc := relS scope G.sc, st := fun x => match scope.names.lookup x with | some .local => true | some .cell => true | _ => false }
def dTs (G : Gm) : List Expr → Option DB
  | [] => some bYes
  | [c] => r.b G c
  | _ => none
def dLc (G : Gm) (elt tg it : Expr) (ifs : List Expr) (scope : Scope) : Option DT :=
  match dIt r G tg it, tgOf G.N (G.blk scope).st tg, dTs r (G.blk scope) ifs, r.e (G.blk scope) elt with
  | some wi, some t, some tt, some te =>
    if blkC G.N G.sc scope (ownOf G.N scope) && t.slots.all (fun i => (ownOf G.N scope).map (·.2) |>.contains i) && !setB it then some (eLC wi t tt te ((ownOf G.N scope).map (·.2))) else none
  | _, _, _, _ => none
/-- special forms -/
def dX (G : Gm) : Expr → Option DT
  | .Dict [] [] _ => some eDct
  | .Dict [some k] [v] _ => match r.e G k, r.e G v with
    | some a, some b => some (eD1 a b)
    | _, _ => none
  | .Call (.Name f _) [.Call (.Attribute o m apos) [] [] cpos] [] _ => if (f == "list") && (m == "keys") && glB G.sc f && !superB o && (apos.endLine == cpos.line) then (r.e G o).map eKs else if (f == "list") && (m == "values") && glB G.sc f && !superB o && (apos.endLine == cpos.line) then (r.e G o).map eVs else none
  | .Call (.Name f _) [.Call (.Name g _) [e] [] _] [] _ => if (f == "list") && (g == "reversed") && glB G.sc f && glB G.sc g && !starB e then (r.e G e).map eRv
    else if (f == "tuple") && (g == "reversed") && glB G.sc f && glB G.sc g && !starB e then (r.e G e).map eTr
    else if (f == "list") && (g == "range") && glB G.sc f && glB G.sc g && !starB e then (r.e G e).map eLr else none
  | .Call (.Attribute o m apos) [e] [] cpos => if (m == "index") && !superB o && (apos.endLine == cpos.line) && !starB e then (match r.e G o, r.e G e with
    | some x, some y => some (eIx x y)
    | _, _ => none) else none
  | _ => none
def dE0 (G : Gm) : Expr → Option DT
  | .Name x _ => if okName x then (if visB G.sc x then (ixOf G.N x).map eVar else if glB G.sc x then (G.glb.lookup x).map eC else none) else none
  | .Constant c _ _ => match c with
    | .int i => some (eC (.int i)) | .bool b => some (eC (.bl b)) | .none => some (eC .non) | .str x => some (eC (.str x))
    | _ => none
  | .BinOp a op b _ => match binR op, r.e G a, r.e G b with
    | some f, some x, some y => some (eBin f x y)
    | _, _, _ => none
  | .UnaryOp op a _ => match op with
    | .USub => (r.e G a).map (eUn negD)
    | .Not => (r.e G a).map eNot
    | _ => none
  | .Compare a [op] [b] _ => if setB b then none else match cmpR op, r.e G a, r.e G b with
    | some f, some x, some y => some (eCmp f x y)
    | _, _, _ => none
  | .BoolOp _ [a] _ => r.e G a
  | .BoolOp op (a :: b :: rest) pos => match r.e G a, r.e G (.BoolOp op (b :: rest) pos) with
    | some x, some y => some (andE op x y)
    | _, _ => none
  | .IfExp c a b _ => match r.b G c, r.e G a, r.e G b with
    | some z, some x, some y => some (eIf z x y)
    | _, _, _ => none
  | .Tuple es _ _ => (dAs r G es).map eTup
  | .List es _ => (dAs r G es).map eLst
  | .Subscript a (.Slice lo hi none _) _ => match r.e G a, dOpt r G lo, dOpt r G hi with
    | some x, some l, some h => some (eSl x l h)
    | _, _, _ => none
  | .Subscript a b _ => if sliceB b then none else match r.e G a, r.e G b with
    | some x, some y => some (eBin ixD x y)
    | _, _ => none
  | .Call (.Name f _) args [] _ => if glB G.sc f then (match fnAt G.fns f args.length with
      | some sp => if args.all (fun e => !starB e) then (dAs r G args).map (eFn args.length sp) else none
      | none => if f == "isinstance" then (match args with
          | [e, .Name t _] => if starB e || !glB G.sc t then none else match tyR t, r.e G e with
            | some T, some w => some (eIsi T w)
            | _, _ => none
          | _ => none)
        else match fnR f, args with
          | some (_, _, sp), _ :: _ => if args.all (fun e => !starB e) then (dAs r G args).map (eCall sp) else none
          | _, _ => none) else none
  | .Call (.Attribute o m apos) args [] cpos => if (apos.endLine == cpos.line) && !superB o && args.all (fun e => !starB e) && decide (args.length < 30) then (match mtR m, r.e G o, dAs r G args with
      | some (T, f), some w, some a => some (eMt T f w a)
      | _, _, _ => none) else none
  | .ListComp elt [⟨tg, it, ifs, 0⟩] scope _ => dLc r G elt tg it ifs scope
  | _ => none
def dE1 (G : Gm) (e : Expr) : Option DT := match dX r G e with
  | some w => some w
  | none => dE0 r G e
def dB1 (G : Gm) : Expr → Option DB
  | .UnaryOp .Not a _ => (r.b G a).map bNot
  | .Compare a [op] [b] _ => if setB b then none else match cmpR op, r.e G a, r.e G b with
    | some f, some x, some y => some (bCmp f x y)
    | _, _, _ => none
  | .BoolOp _ [a] _ => r.b G a
  | .BoolOp op (a :: b :: rest) pos => match r.b G a, r.b G (.BoolOp op (b :: rest) pos) with
    | some x, some y => some (andB op x y)
    | _, _ => none
  | e => if truB e then (r.e G e).map bTru else none
end
def dR : Nat → Rc
  | 0 => ⟨fun _ _ => none, fun _ _ => none⟩
  | n + 1 => ⟨dE1 (dR n), dB1 (dR n)⟩

/-! ### it is right -/
/-- tests: a row of and, or stands also where 'whole' is another -/
structure RcOk (r : Rc) : Prop where
  e : ∀ (X : Cx) (G : Gm) (e : Expr) (w : DT), XOk X G → r.e G e = some w → Dx X e w
  b : ∀ (X : Cx) (G : Gm) (e : Expr) (w : DB), XOk X G → r.b G e = some w → Dt X e w
  w : ∀ (X : Cx) (G : Gm) (op : BoolOp) (es : List Expr) (pos : Pos) (w : DB), XOk X G → r.b G (.BoolOp op es pos) = some w → Dw X (.BoolOp op es pos) w
section
variable {X : Cx} {G : Gm} {r : Rc}
theorem as_ok (R : RcOk r) (O : XOk X G) : ∀ {es : List Expr} {w : DA}, dAs r G es = some w → Da X es w
  | [], _, h => by cases h; exact da_nil
  | e :: es, w, h => by
    unfold dAs at h
    split at h
    · cases h
    · rename_i hs
      split at h
      · cases h
        rename_i h1 h2
        exact da_cons (R.e X G _ _ O h1) (as_ok R O h2) (star_of (by simpa using hs))
      · cases h
theorem opt_ok (R : RcOk r) (O : XOk X G) : ∀ {o : Option Expr} {w : Option DT}, dOpt r G o = some w → PO X o (upO X.K (oPart w))
  | none, _, h => by cases h; exact do_none
  | some e, w, h => by
    obtain ⟨u, h1, rfl⟩ := Option.map_eq_some_iff.mp h
    exact do_some (R.e X G _ _ O h1)
theorem seq_ok (R : RcOk r) (O : XOk X G) {tg it : Expr} {w : DI} (h : (r.e G it).map iSeq = some w) : Di X tg it w := by
  obtain ⟨u, h1, rfl⟩ := Option.map_eq_some_iff.mp h
  exact di_seq (R.e X G _ _ O h1)
theorem it0_ok (R : RcOk r) (O : XOk X G) {tg it : Expr} {w : DI} (h : dIt0 r G it = some w) : Di X tg it w := by
  unfold dIt0 at h
  split at h
  · rename_i f p a pos
    by_cases hf : (f == "range") = true
    · rw [if_pos hf] at h
      have ef : f = "range" := eq_of_beq hf
      subst ef
      split at h
      · rename_i hc
        simp only [Bool.and_eq_true, Bool.not_eq_true'] at hc
        obtain ⟨u, h1, rfl⟩ := Option.map_eq_some_iff.mp h
        exact di_rg1 (gl_of O hc.1) (O.blt _ (by decide +kernel)) (as_ok R O h1) (by rw [star_of hc.2]; rfl)
      · cases h
    · rw [if_neg hf] at h
      exact seq_ok R O h
  · rename_i f p a b pos
    by_cases hf : (f == "range") = true
    · rw [if_pos hf] at h
      have ef : f = "range" := eq_of_beq hf
      subst ef
      split at h
      · rename_i hc
        simp only [Bool.and_eq_true, Bool.not_eq_true'] at hc
        obtain ⟨u, h1, rfl⟩ := Option.map_eq_some_iff.mp h
        exact di_rg2 (gl_of O hc.1.1) (O.blt _ (by decide +kernel)) (as_ok R O h1) (by rw [star_of hc.1.2, star_of hc.2]; rfl) (by rw [star_of hc.2]; rfl)
      · cases h
    · rw [if_neg hf] at h
      exact seq_ok R O h
  · rename_i f p a b c pos
    by_cases hf : (f == "range") = true
    · rw [if_pos hf] at h
      have ef : f = "range" := eq_of_beq hf
      subst ef
      split at h
      · rename_i hc
        simp only [Bool.and_eq_true, Bool.not_eq_true'] at hc
        obtain ⟨u, h1, rfl⟩ := Option.map_eq_some_iff.mp h
        exact di_rg3 (gl_of O hc.1.1.1) (O.blt _ (by decide +kernel)) (as_ok R O h1) (by rw [star_of hc.1.1.2]) (by rw [star_of hc.1.2, star_of hc.2]; rfl)
      · cases h
    · rw [if_neg hf] at h
      exact seq_ok R O h
  · exact seq_ok R O h
theorem it_ok (R : RcOk r) (O : XOk X G) {tg it : Expr} {w : DI} (h : dIt r G tg it = some w) : Di X tg it w := by
  unfold dIt at h
  split at h
  · rename_i f p a b pos
    by_cases hf : (f == "zip") = true
    · rw [if_pos hf] at h
      have ef : f = "zip" := eq_of_beq hf
      subst ef
      split at h
      · rename_i hc
        simp only [Bool.and_eq_true, Bool.not_eq_true'] at hc
        obtain ⟨⟨⟨c1, c2⟩, c3⟩, c4⟩ := hc
        split at h
        · rename_i x y h1 h2
          cases h
          cases tg <;> first | (cases c1; done) | skip
          exact di_zip (gl_of O c2) (O.blt _ (by decide +kernel)) (R.e X G _ _ O h1) (R.e X G _ _ O h2) (star_of c3) (star_of c4) (by rw [star_of c4]; rfl)
        · cases h
      · cases h
    · rw [if_neg hf] at h
      exact it0_ok R O h
  · exact it0_ok R O h
end

section
variable {X : Cx} {G : Gm} {r : Rc}
theorem blk_ok (O : XOk X G) {scope : Scope} {own : List (Str × Nat)} (ok : BlkOk X.N X.env.scope scope own) (s : Shared) (H : Hp) (C : Addr) (cl : List (Str × Addr)) (fp : List Addr) :
    XOk (X.blk s H scope (compEnvC scope cl C X.env) fp) (G.blk scope) where
  nd := O.nd
  hN := O.hN
  sc := by
    show relS scope X.env.scope = relS scope G.sc
    rw [O.sc]
  calm := O.calm
  hu := O.hu
  gd := O.gd
  pass := PassesOwn.never
  fns := fun x n sp h => ⟨(O.fns x n sp h).dbg, (O.fns x n sp h).ok⟩
  glb := O.glb
  blt := O.blt
  st := fun x h => by
    have h : (match scope.names.lookup x with | some .local => true | some .cell => true | _ => false) = true := h
    split at h
    · rename_i e
      have e2 := lookup_relS_keep (sc := X.env.scope) (by decide) e
      exact ⟨.inl e2, .inr e2⟩
    · rename_i e
      have e2 := lookup_relS_keep (sc := X.env.scope) (by decide) e
      exact ⟨.inr e2, .inl (by show (scope.names.lookup x == some NameKind.cell) = true; rw [e]; rfl)⟩
    · cases h
theorem nms_ok (O : XOk X G) {st : Str → Bool} (hst : st = G.st) : ∀ {es : List Expr} {is : List Nat}, tgNms G.N st es = some is → PGs X es (gNms is) ∧ (assignEach es X.env).length = is.length ∧ (assignEach es X.env).findIdx? (·.1) = none
  | [], _, h => by cases h; exact ⟨pgs_nil, rfl, rfl⟩
  | e :: es, is, h => by
    cases e with
    | Name x p =>
      unfold tgNms at h
      split at h
      · rename_i hx
        split at h
        · cases h
          rename_i h1 h2
          obtain ⟨g1, g2, g3⟩ := nms_ok O hst h2
          rw [hst] at hx
          obtain ⟨hl, hf⟩ := O.st x hx
          refine ⟨pgs_cons (pg_name O.nd (by rw [O.hN]; exact ixOf_get h1) hl hf) g1 (by rfl), by show (assignEach es X.env).length + 1 = _; rw [g2]; rfl, ?_⟩
          show ((false, _) :: assignEach es X.env).findIdx? (·.1) = none
          rw [List.findIdx?_cons, g3]; rfl
        · cases h
      · cases h
    | _ => cases h
theorem tgv_ok (O : XOk X G) {tg : Expr} {t : Tg} (h : tgOf G.N G.st tg = some t) : PG X tg (tgV X.K t) := by
  cases tg with
  | Name x p =>
    have h : (if G.st x then (ixOf G.N x).map Tg.nm else none) = some t := h
    split at h
    · rename_i hx
      obtain ⟨i, h1, rfl⟩ := Option.map_eq_some_iff.mp h
      obtain ⟨hl, hf⟩ := O.st x hx
      exact pg_name O.nd (by rw [O.hN]; exact ixOf_get h1) hl hf
    · cases h
  | Tuple es k p =>
    have h : (tgNms G.N G.st es).map Tg.tp = some t := h
    obtain ⟨is, h1, rfl⟩ := Option.map_eq_some_iff.mp h
    obtain ⟨g1, g2, g3⟩ := nms_ok O rfl h1
    exact pg_tup O.calm g1 g2 g3
  | _ => cases h
theorem ts_ok (R : RcOk r) (O : XOk X G) {ifs : List Expr} {w : DB} (h : dTs r G ifs = some w) : PTs X ifs (upB X.K w) := by
  match ifs with
  | [] =>
    cases h
    exact ⟨fun pins s σ H Q I ⟨ρ, M, P, er, hr, w, k⟩ => pts_nil.run pins s σ H Q I (k _ M H w (.refl _ _) hr)⟩
  | [c] => exact pts_one (R.b X G _ _ O h)
  | _ :: _ :: _ => cases h
theorem lcp_ok (R : RcOk r) (O : XOk X G) {elt tg it : Expr} {ifs : List Expr} {scope : Scope} {w : DT} (h : dLc r G elt tg it ifs scope = some w) :
    ∃ wi t tt te, w = eLC wi t tt te ((ownOf G.N scope).map (·.2)) ∧ Di X tg it wi ∧ BlkOk X.N X.env.scope scope (ownOf G.N scope) ∧ LcOk X elt tg ifs scope t tt te ∧ (∀ i ∈ t.slots, i ∈ (ownOf G.N scope).map (·.2)) ∧ setB it = false := by
  unfold dLc at h
  split at h
  · rename_i wi t tt te h1 h2 h3 h4
    split at h
    · rename_i hc
      cases h
      simp only [Bool.and_eq_true, List.all_eq_true, Bool.not_eq_true'] at hc
      have ok : BlkOk X.N X.env.scope scope (ownOf G.N scope) := by
        rw [O.hN, O.sc]; exact blkOk_by hc.1.1
      have O' := fun s H C cl fp => blk_ok O ok s H C cl fp
      refine ⟨wi, t, tt, te, rfl, it_ok R O h1, ok, ⟨fun s H C cl fp => ?_, fun s H C cl fp => ts_ok R (O' s H C cl fp) h3, fun s H C cl fp => R.e _ _ _ _ (O' s H C cl fp) h4⟩, fun i hi => by simpa using hc.1.2 i hi, hc.2⟩
      exact tgv_ok (O' s H C cl fp) h2
    · cases h
  · cases h
theorem bin_ok (O : XOk X G) {op : Operator} {f : D → D → Mh → PQ → Prop} (h : binR op = some f) : OpR X (binaryOp op) (up2 X.K f) := by
  cases op <;> first | (cases h; done) | skip
  all_goals (cases h)
  all_goals first | exact od_add | exact od_sub | exact od_mul | exact od_mod | exact od_pow | exact od_div
theorem aug_ok {op : Operator} {f : D → D → Mh → PQ → Prop} (h : augR op = some f) : OpR X (inplaceOp op) (up2 X.K f) := by
  cases op <;> first | (cases h; done) | skip
  all_goals (cases h)
  all_goals first | exact iod_add | exact iod_sub
theorem cmp_ok (O : XOk X G) {op : CmpOp} {f : Cmp} (h : cmpR op = some f) : OpR X (compareOp op) (upC X.K f) := by
  have hu : X.A.units + 64 < cLine := Nat.lt_of_succ_lt O.hu
  cases op <;> cases h
  all_goals first | exact cd_eq hu | exact cd_ne hu | exact cd_lt | exact cd_le | exact cd_gt | exact cd_ge | exact cd_is | exact cd_isn | exact cd_in O.hu | exact cd_nin O.hu
theorem fnR_ok (O : XOk X G) {f : Str} {b : Bool} {id : String} {sp : DSp} {e : Expr} {es : List Expr} {wa : DA} {p pos : Pos} (h : fnR f = some (b, id, sp)) (hg : Gl X f) (ha : Da X (e :: es) wa)
    (he : starEach (e :: es) X.env = (false, eval e X.env) :: starEach es X.env) (hpl : (backTo pos (starEach es X.env)).any (·.1) = false) : Dx X (.Call (.Name f p) (e :: es) [] pos) (eCall sp wa) := by
  unfold fnR at h
  have eqf : ∀ {z : Str}, (f == z) = true → f = z := fun h => eq_of_beq h
  by_cases c1 : (f == "len") = true
  · rw [if_pos c1] at h; cases h; have := eqf c1; subst this
    exact dx_fb fd_len hg (O.blt _ (by decide +kernel)) (by decide +kernel) ha (by decide +kernel) (by decide +kernel) he hpl
  rw [if_neg c1] at h
  by_cases c2 : (f == "int") = true
  · rw [if_pos c2] at h; cases h; have := eqf c2; subst this
    exact dx_ft fd_int hg (O.blt _ (by decide +kernel)) (by decide +kernel) ha (by decide +kernel) (by decide +kernel) he hpl
  rw [if_neg c2] at h
  by_cases c3 : (f == "str") = true
  · rw [if_pos c3] at h; cases h; have := eqf c3; subst this
    exact dx_ft fd_str hg (O.blt _ (by decide +kernel)) (by decide +kernel) ha (by decide +kernel) (by decide +kernel) he hpl
  rw [if_neg c3] at h
  by_cases c4 : (f == "tuple") = true
  · rw [if_pos c4] at h; cases h; have := eqf c4; subst this
    exact dx_ft fd_tuple hg (O.blt _ (by decide +kernel)) (by decide +kernel) ha (by decide +kernel) (by decide +kernel) he hpl
  rw [if_neg c4] at h
  by_cases c5 : (f == "list") = true
  · rw [if_pos c5] at h; cases h; have := eqf c5; subst this
    exact dx_ft fd_list hg (O.blt _ (by decide +kernel)) (by decide +kernel) ha (by decide +kernel) (by decide +kernel) he hpl
  rw [if_neg c5] at h
  by_cases c6 : (f == "sum") = true
  · rw [if_pos c6] at h; cases h; have := eqf c6; subst this
    exact dx_fb (fd_sum O.calm) hg (O.blt _ (by decide +kernel)) (by decide +kernel) ha (by decide +kernel) (by decide +kernel) he hpl
  rw [if_neg c6] at h
  by_cases c7 : (f == "abs") = true
  · rw [if_pos c7] at h; cases h; have := eqf c7; subst this
    exact dx_fb fd_abs hg (O.blt _ (by decide +kernel)) (by decide +kernel) ha (by decide +kernel) (by decide +kernel) he hpl
  rw [if_neg c7] at h
  by_cases c8 : (f == "max") = true
  · rw [if_pos c8] at h; cases h; have := eqf c8; subst this
    exact dx_fb (fd_max O.calm) hg (O.blt _ (by decide +kernel)) (by decide +kernel) ha (by decide +kernel) (by decide +kernel) he hpl
  rw [if_neg c8] at h
  by_cases c9 : (f == "min") = true
  · rw [if_pos c9] at h; cases h; have := eqf c9; subst this
    exact dx_fb (fd_min O.calm) hg (O.blt _ (by decide +kernel)) (by decide +kernel) ha (by decide +kernel) (by decide +kernel) he hpl
  rw [if_neg c9] at h
  by_cases c10 : (f == "sorted") = true
  · rw [if_pos c10] at h; cases h; have := eqf c10; subst this
    exact dx_fb fd_sorted hg (O.blt _ (by decide +kernel)) (by decide +kernel) ha (by decide +kernel) (by decide +kernel) he hpl
  rw [if_neg c10] at h
  by_cases c11 : (f == "repr") = true
  · rw [if_pos c11] at h; cases h; have := eqf c11; subst this
    exact dx_fb (fd_repr O.hu O.gd) hg (O.blt _ (by decide +kernel)) (by decide +kernel) ha (by decide +kernel) (by decide +kernel) he hpl
  rw [if_neg c11] at h
  cases h
theorem tyR_ok (O : XOk X G) {e : Expr} {t : Str} {T : String} {w : DT} {p p2 pos : Pos} (h : tyR t = some T) (he : Dx X e w) (hg : Gl X "isinstance") (hg2 : Gl X t) (hs : starB e = false) : Dx X (.Call (.Name "isinstance" p) [e, .Name t p2] [] pos) (eIsi T w) := by
  unfold tyR at h
  have eqf : ∀ {z : Str}, (t == z) = true → t = z := fun h => eq_of_beq h
  by_cases c1 : (t == "int") = true
  · rw [if_pos c1] at h; cases h; have := eqf c1; subst this
    exact dx_isi (by simp) he hg (O.blt _ (by decide +kernel)) hg2 (O.blt _ (by decide +kernel)) (by decide +kernel) (by decide +kernel) (by decide +kernel) (star_of hs)
  rw [if_neg c1] at h
  by_cases c2 : (t == "str") = true
  · rw [if_pos c2] at h; cases h; have := eqf c2; subst this
    exact dx_isi (by simp) he hg (O.blt _ (by decide +kernel)) hg2 (O.blt _ (by decide +kernel)) (by decide +kernel) (by decide +kernel) (by decide +kernel) (star_of hs)
  rw [if_neg c2] at h
  by_cases c3 : (t == "tuple") = true
  · rw [if_pos c3] at h; cases h; have := eqf c3; subst this
    exact dx_isi (by simp) he hg (O.blt _ (by decide +kernel)) hg2 (O.blt _ (by decide +kernel)) (by decide +kernel) (by decide +kernel) (by decide +kernel) (star_of hs)
  rw [if_neg c3] at h
  by_cases c4 : (t == "list") = true
  · rw [if_pos c4] at h; cases h; have := eqf c4; subst this
    exact dx_isi (by simp) he hg (O.blt _ (by decide +kernel)) hg2 (O.blt _ (by decide +kernel)) (by decide +kernel) (by decide +kernel) (by decide +kernel) (star_of hs)
  rw [if_neg c4] at h
  by_cases c5 : (t == "bool") = true
  · rw [if_pos c5] at h; cases h; have := eqf c5; subst this
    exact dx_isi (by simp) he hg (O.blt _ (by decide +kernel)) hg2 (O.blt _ (by decide +kernel)) (by decide +kernel) (by decide +kernel) (by decide +kernel) (star_of hs)
  rw [if_neg c5] at h
  by_cases c6 : (t == "dict") = true
  · rw [if_pos c6] at h; cases h; have := eqf c6; subst this
    exact dx_isi (by simp) he hg (O.blt _ (by decide +kernel)) hg2 (O.blt _ (by decide +kernel)) (by decide +kernel) (by decide +kernel) (by decide +kernel) (star_of hs)
  rw [if_neg c6] at h
  cases h
theorem mtd_ok (R : RcOk r) (O : XOk X G) {T id : String} {name : Str} {f : D → List D → Mh → PQ → Prop} {o : Expr} {args : List Expr} {wo : DT} {wa : DA} {apos cpos : Pos} (pa : PlainAttrs T) (sl : Slot T name id) (hty : typeOf (.builtin id) = pure (.type "method_descriptor"))
    (hm : MtR X id (upM X.K f)) (ho : Dx X o wo) (ha : dAs r G args = some wa) (hline : (apos.endLine == cpos.line) = true) (hb : superB o = false) (hs : args.all (fun e => !starB e) = true) (hl : args.length < 30) : Dx X (.Call (.Attribute o name apos) args [] cpos) (eMt T f wo wa) := by
  cases args with
  | nil => cases ha; exact dx_mt0 pa sl hty hm ho (base_of hb) hline
  | cons e es =>
    have hs' := hs
    rw [List.all_cons, Bool.and_eq_true] at hs'
    refine dx_mt pa sl hty hm ho (as_ok R O ha) (base_of hb) ?_ hline (star_of (by simpa using hs'.1)) (stars_of hs'.2)
    rw [stars_all hs]
    show (true && true && decide ((e :: es).length + 0 + 0 < 30)) = true
    rw [decide_eq_true (by omega)]; rfl
theorem mtR_ok (R : RcOk r) (O : XOk X G) {T : String} {name : Str} {f : D → List D → Mh → PQ → Prop} {o : Expr} {args : List Expr} {wo : DT} {wa : DA} {apos cpos : Pos} (h : mtR name = some (T, f)) (ho : Dx X o wo) (ha : dAs r G args = some wa)
    (hline : (apos.endLine == cpos.line) = true) (hb : superB o = false) (hs : args.all (fun e => !starB e) = true) (hl : args.length < 30) : Dx X (.Call (.Attribute o name apos) args [] cpos) (eMt T f wo wa) := by
  unfold mtR at h
  have eqf : ∀ {z : Str}, (name == z) = true → name = z := fun h => eq_of_beq h
  by_cases c1 : (name == "append") = true
  · rw [if_pos c1] at h; cases h; have := eqf c1; subst this
    exact mtd_ok R O PySem.F.plainAttrs_list PySem.F.slot_list_append PySem.F.type_list_append md_append ho ha hline hb hs hl
  rw [if_neg c1] at h
  by_cases c2 : (name == "extend") = true
  · rw [if_pos c2] at h; cases h; have := eqf c2; subst this
    exact mtd_ok R O PySem.F.plainAttrs_list PySem.F.slot_list_extend PySem.F.type_list_extend md_extend ho ha hline hb hs hl
  rw [if_neg c2] at h
  by_cases c3 : (name == "pop") = true
  · rw [if_pos c3] at h; cases h; have := eqf c3; subst this
    exact mtd_ok R O PySem.F.plainAttrs_list PySem.F.slot_list_pop PySem.F.type_list_pop md_pop ho ha hline hb hs hl
  rw [if_neg c3] at h
  by_cases c4 : (name == "join") = true
  · rw [if_pos c4] at h; cases h; have := eqf c4; subst this
    exact mtd_ok R O PySem.F.plainAttrs_str PySem.F.slot_str_join PySem.F.type_str_join md_join ho ha hline hb hs hl
  rw [if_neg c4] at h
  cases h
theorem x_ok (R : RcOk r) (O : XOk X G) {e : Expr} {w : DT} (h : dX r G e = some w) : Dx X e w := by
  unfold dX at h
  split at h
  · cases h
    exact dx_dct
  · split at h
    · cases h
      rename_i h1 h2
      exact dx_d1 (R.e X G _ _ O h1) (R.e X G _ _ O h2)
    · cases h
  · split at h
    · rename_i hc
      simp only [Bool.and_eq_true, Bool.not_eq_true'] at hc
      obtain ⟨⟨⟨⟨c1, c2⟩, c3⟩, c4⟩, c5⟩ := hc
      obtain ⟨u, h1, rfl⟩ := Option.map_eq_some_iff.mp h
      have e1 := eq_of_beq c1
      have e2 := eq_of_beq c2
      subst e1 e2
      exact dx_keys O.calm (R.e X G _ _ O h1) (gl_of O c3) (O.blt _ (by decide +kernel)) (base_of c4) c5 rfl
    · split at h
      · rename_i hc
        simp only [Bool.and_eq_true, Bool.not_eq_true'] at hc
        obtain ⟨⟨⟨⟨c1, c2⟩, c3⟩, c4⟩, c5⟩ := hc
        obtain ⟨u, h1, rfl⟩ := Option.map_eq_some_iff.mp h
        have e1 := eq_of_beq c1
        have e2 := eq_of_beq c2
        subst e1 e2
        exact dx_vals O.calm (R.e X G _ _ O h1) (gl_of O c3) (O.blt _ (by decide +kernel)) (base_of c4) c5 rfl
      · cases h
  · split at h
    · rename_i hc
      simp only [Bool.and_eq_true, Bool.not_eq_true'] at hc
      obtain ⟨⟨⟨⟨c1, c2⟩, c3⟩, c4⟩, c5⟩ := hc
      obtain ⟨u, h1, rfl⟩ := Option.map_eq_some_iff.mp h
      have e1 := eq_of_beq c1
      have e2 := eq_of_beq c2
      subst e1 e2
      exact dx_rev O.calm (gl_of O c3) (O.blt _ (by decide +kernel)) (gl_of O c4) (O.blt _ (by decide +kernel)) (R.e X G _ _ O h1) (star_of c5)
    · split at h
      · rename_i hc
        simp only [Bool.and_eq_true, Bool.not_eq_true'] at hc
        obtain ⟨⟨⟨⟨c1, c2⟩, c3⟩, c4⟩, c5⟩ := hc
        obtain ⟨u, h1, rfl⟩ := Option.map_eq_some_iff.mp h
        have e1 := eq_of_beq c1
        have e2 := eq_of_beq c2
        subst e1 e2
        exact dx_trev O.calm (gl_of O c3) (O.blt _ (by decide +kernel)) (gl_of O c4) (O.blt _ (by decide +kernel)) (R.e X G _ _ O h1) (star_of c5)
      · split at h
        · rename_i hc
          simp only [Bool.and_eq_true, Bool.not_eq_true'] at hc
          obtain ⟨⟨⟨⟨c1, c2⟩, c3⟩, c4⟩, c5⟩ := hc
          obtain ⟨u, h1, rfl⟩ := Option.map_eq_some_iff.mp h
          have e1 := eq_of_beq c1
          have e2 := eq_of_beq c2
          subst e1 e2
          exact dx_lr O.calm (gl_of O c3) (O.blt _ (by decide +kernel)) (gl_of O c4) (O.blt _ (by decide +kernel)) (R.e X G _ _ O h1) (star_of c5) (star_of rfl)
        · cases h
  · split at h
    · rename_i hc
      simp only [Bool.and_eq_true, Bool.not_eq_true'] at hc
      obtain ⟨⟨⟨c1, c2⟩, c3⟩, c4⟩ := hc
      have e1 := eq_of_beq c1
      subst e1
      split at h
      · rename_i x y h1 h2
        cases h
        refine dx_idx O.hu (R.e X G _ _ O h1) (R.e X G _ _ O h2) (base_of c2) ?_ c3 (star_of c4)
        rw [stars_all (by simpa using c4)]
        rfl
      · cases h
    · cases h
  · cases h
theorem e0_ok (R : RcOk r) (O : XOk X G) {e : Expr} {w : DT} (h : dE0 r G e = some w) : Dx X e w := by
  unfold dE0 at h
  split at h
  · -- a name
    rename_i x p
    by_cases c : okName x = true
    · rw [if_pos c] at h
      unfold okName at c
      simp only [Bool.and_eq_true, Bool.not_eq_true'] at c
      by_cases v : visB G.sc x = true
      · rw [if_pos v] at h
        obtain ⟨i, h1, rfl⟩ := Option.map_eq_some_iff.mp h
        exact dx_var (by rw [O.hN]; exact ixOf_get h1) (by rw [O.sc]; exact vis_of v) c.1 c.2
      · rw [if_neg v] at h
        by_cases g : glB G.sc x = true
        · rw [if_pos g] at h
          obtain ⟨d, h1, rfl⟩ := Option.map_eq_some_iff.mp h
          obtain ⟨u, vv, h2, h3, h4⟩ := O.glb x d h1
          exact dx_c (pe_glob (gl_of O g) h2 h3 c.1) h4
        · rw [if_neg g] at h; cases h
    · rw [if_neg c] at h; cases h
  · split at h <;> cases h
    · exact dx_c pe_int fun H => .int _
    · exact dx_c pe_bl fun H => .bl _
    · exact dx_c pe_non fun H => .non
    · exact dx_c pe_str fun H => .str _
  · split at h
    · cases h
      rename_i h1 h2 h3
      exact dx_bin (bin_ok O h1) (R.e X G _ _ O h2) (R.e X G _ _ O h3)
    · cases h
  · split at h
    · obtain ⟨u, h1, rfl⟩ := Option.map_eq_some_iff.mp h
      exact dx_un ud_neg (R.e X G _ _ O h1)
    · obtain ⟨u, h1, rfl⟩ := Option.map_eq_some_iff.mp h
      exact dx_not (R.e X G _ _ O h1)
    · cases h
  · split at h
    · cases h
    · rename_i hs
      split at h
      · cases h
        rename_i h1 h2 h3
        exact dx_cmp (cmp_ok O h1) (R.e X G _ _ O h2) (R.e X G _ _ O h3) (marks_of (by simpa using hs))
      · cases h
  · exact pe_one (R.e X G _ _ O h)
  · rename_i op _ _ _ _
    split at h
    · cases h
      rename_i h1 h2
      cases op with
      | And => exact dx_and (R.e X G _ _ O h1) (R.e X G _ _ O h2)
      | Or => exact dx_or (R.e X G _ _ O h1) (R.e X G _ _ O h2)
    · cases h
  · split at h
    · cases h
      rename_i h1 h2 h3
      exact dx_if (R.b X G _ _ O h1) (R.e X G _ _ O h2) (R.e X G _ _ O h3)
    · cases h
  · obtain ⟨u, h1, rfl⟩ := Option.map_eq_some_iff.mp h
    exact dx_tup (as_ok R O h1)
  · obtain ⟨u, h1, rfl⟩ := Option.map_eq_some_iff.mp h
    exact dx_lst (as_ok R O h1)
  · split at h
    · cases h
      rename_i h1 h2 h3
      exact dx_sl (R.e X G _ _ O h1) (opt_ok R O h2) (opt_ok R O h3)
    · cases h
  · split at h
    · cases h
    · rename_i hs
      split at h
      · cases h
        rename_i h1 h2
        exact dx_ix O.hu (R.e X G _ _ O h1) (R.e X G _ _ O h2) (plain_of (by simpa using hs))
      · cases h
  · -- a call of a name
    rename_i f p args pos
    by_cases g : glB G.sc f = true
    · rw [if_pos g] at h
      have hg := gl_of O g
      split at h
      · rename_i sp hf
        split at h
        · rename_i hs
          obtain ⟨u, h1, rfl⟩ := Option.map_eq_some_iff.mp h
          have c := O.fns _ _ _ hf
          cases args with
          | nil => cases h1; exact dx_fn0 c hg
          | cons e es =>
            rw [List.all_cons, Bool.and_eq_true] at hs
            exact dx_fn c hg (as_ok R O h1) (star_of (by simpa using hs.1)) (stars_of hs.2)
        · cases h
      · by_cases ci : (f == "isinstance") = true
        · rw [if_pos ci] at h
          have := eq_of_beq ci
          subst this
          split at h
          · split at h
            · cases h
            · rename_i hs
              simp only [Bool.or_eq_true, not_or, Bool.not_eq_true, Bool.not_eq_true', Bool.not_eq_false] at hs
              split at h
              · cases h
                rename_i h1 h2
                exact tyR_ok O h1 (R.e X G _ _ O h2) hg (gl_of O (by simpa using hs.2)) hs.1
              · cases h
          · cases h
        · rw [if_neg ci] at h
          split at h
          · rename_i h0 _hn
            split at h
            · rename_i hs
              obtain ⟨u, h1, rfl⟩ := Option.map_eq_some_iff.mp h
              rw [List.all_cons, Bool.and_eq_true] at hs
              exact fnR_ok O h0 hg (as_ok R O h1) (star_of (by simpa using hs.1)) (stars_of hs.2)
            · cases h
          · cases h
    · rw [if_neg g] at h; cases h
  · -- a method
    split at h
    · rename_i hc
      simp only [Bool.and_eq_true, Bool.not_eq_true', decide_eq_true_eq] at hc
      obtain ⟨⟨⟨c1, c2⟩, c3⟩, c4⟩ := hc
      split at h
      · cases h
        rename_i h1 h2 h3
        exact mtR_ok R O h1 (R.e X G _ _ O h2) h3 c1 c2 c3 c4
      · cases h
    · cases h
  · obtain ⟨wi, t, tt, te, rfl, h1, h2, h3, h4, h5⟩ := lcp_ok R O h
    exact dx_lc O.calm O.nd h1 h2 h3 h4 (folded_of h5)
  · cases h
theorem e1_ok (R : RcOk r) (O : XOk X G) {e : Expr} {w : DT} (h : dE1 r G e = some w) : Dx X e w := by
  unfold dE1 at h
  split at h
  · rename_i hx
    cases h
    exact x_ok R O hx
  · exact e0_ok R O h
theorem w1_ok (R : RcOk r) (O : XOk X G) {op : BoolOp} {es : List Expr} {pos : Pos} {w : DB} (h : dB1 r G (.BoolOp op es pos) = some w) : Dw X (.BoolOp op es pos) w := by
  match es with
  | [] => cases h
  | [a] =>
    have := R.b X G _ _ O h
    cases op with
    | And => exact pw_and1 this
    | Or => exact pw_or1 this
  | a :: b :: rest =>
    have h : (match r.b G a, r.b G (.BoolOp op (b :: rest) pos) with | some x, some y => some (andB op x y) | _, _ => none) = some w := h
    split at h
    · cases h
      rename_i h1 h2
      cases op with
      | And => exact dw_and (R.b X G _ _ O h1) (R.w X G _ _ _ _ O h2)
      | Or => exact dw_or (R.b X G _ _ O h1) (R.w X G _ _ _ _ O h2)
    · cases h
theorem b1_ok (R : RcOk r) (O : XOk X G) {e : Expr} {w : DB} (h : dB1 r G e = some w) : Dt X e w := by
  unfold dB1 at h
  split at h
  · obtain ⟨u, h1, rfl⟩ := Option.map_eq_some_iff.mp h
    exact dt_not (R.b X G _ _ O h1)
  · split at h
    · cases h
    · rename_i hs
      split at h
      · cases h
        rename_i h1 h2 h3
        exact dt_cmp (cmp_ok O h1) (R.e X G _ _ O h2) (R.e X G _ _ O h3) (marks_of (by simpa using hs))
      · cases h
  · exact (w1_ok (op := _) (es := [_]) R O h).pt
  · exact (w1_ok (es := _ :: _ :: _) R O h).pt
  · split at h
    · rename_i ht
      obtain ⟨u, h1, rfl⟩ := Option.map_eq_some_iff.mp h
      exact dt_tru (R.e X G _ _ O h1) (tru_plain ht)
    · cases h
theorem dR_ok : ∀ n, RcOk (dR n)
  | 0 => ⟨fun _ _ _ _ _ h => (nomatch h), fun _ _ _ _ _ h => (nomatch h), fun _ _ _ _ _ _ _ h => (nomatch h)⟩
  | n + 1 => ⟨fun _ _ _ _ O h => e1_ok (dR_ok n) O h, fun _ _ _ _ O h => b1_ok (dR_ok n) O h, fun _ _ _ _ _ _ O h => w1_ok (dR_ok n) O h⟩
end
end DL
/-! DLg: statements from the syntax; a def by its body. -/
namespace DL
open PySem PySem.Spec L2
open PyProof.Rows hiding St

def lcSw (sc : Scope) (x : Str) (l1 l2 : Nat) (scope : Scope) : Bool := (match sc.names.lookup x with | some .local => true | _ => false) && (match sc.kind with | .function => true | _ => false) && (l1 == l2) && !(scope.names.any fun (n, k) => n == x && (k == .local || k == .cell))
theorem swapsSole_of {t e : Expr} {l : Nat} {env : Env} (h : compB e = false) : swapsWithSole [t] e l env = pure false := swaps_of h
def isTupB : Expr → Bool
  | .Tuple .. => true
  | _ => false
section
variable (r : Rc)
def dGs (G : Gm) : List Expr → Option DGs
  | [] => some gsN
  | .Name x _ :: es => if G.st x then match ixOf G.N x, dGs G es with
    | some i, some g => some (gsC (gN i) g)
    | _, _ => none else none
  | _ => none
def dG (G : Gm) : Expr → Option DG
  | .Name x _ => if G.st x then (ixOf G.N x).map gN else none
  | .Tuple es _ _ => (dGs G es).map (gT es.length)
  | .Subscript o i _ => if sliceB i then none else match r.e G o, r.e G i with
    | some x, some y => some (gS x y)
    | _, _ => none
  | _ => none
/-- a statement, its blocks given from outside -/
def dS1 (bl : Gm → List Stmt → Option DS) (G : Gm) : Stmt → Option DS
  | .Assign [.Name x p'] e pos => if G.st x then (match e with
      | .ListComp elt [⟨tg, it, ifs, 0⟩] scope pos2 => if lcSw G.sc x p'.line pos2.line scope then
          (match ixOf G.N x, dLc r G elt tg it ifs scope with
          | some i, some w => some (sAsg w (gN i))
          | _, _ => none) else none
      | e => if compB e then none else match ixOf G.N x, r.e G e with
        | some i, some w => some (sAsg w (gN i))
        | _, _ => none) else none
  | .Assign [.Tuple ts kt pt] e pos => if isTupB e || compB e then none else match dG r G (.Tuple ts kt pt), r.e G e with
    | some g, some w => some (sAsg w g)
    | _, _ => none
  | .Assign [.Subscript o i p] e pos => if compB e then none else match dG r G (.Subscript o i p), r.e G e with
    | some g, some w => some (sAsg w g)
    | _, _ => none
  | .AugAssign (.Name x _) op e _ => if G.st x then (match ixOf G.N x, augR op, r.e G e with
    | some i, some f, some w => some (sAug i f w)
    | _, _, _ => none) else none
  | .Expr e _ => if compB e then none else (r.e G e).map sExp
  | .Return (some e) _ => (r.e G e).map sRet
  | .Return none _ => some sRetN
  | .If c p q _ => match r.b G c, bl G p, bl G q with
    | some w, some a, some b => some (sIf w a b)
    | _, _, _ => none
  | .While c p [] _ => match r.b G c, bl G p with
    | some w, some a => some (sWh w a)
    | _, _ => none
  | .For tg it p [] _ => if setB it then none else match dIt r G tg it, dG r G tg, bl G p with
    | some w, some g, some a => some (sFor w g a)
    | _, _, _ => none
  | .Pass _ => some sNil
  | .Break _ => some sBrk
  | .Continue _ => some sCnt
  | _ => none
def dSs1 (bl : Gm → List Stmt → Option DS) (G : Gm) : List Stmt → Option DS
  | [] => some sNil
  | s :: ss => match dS1 r bl G s, dSs1 bl G ss with
    | some a, some b => some (sSeq a b)
    | _, _ => none
def dB : Nat → Gm → List Stmt → Option DS
  | 0 => fun _ _ => none
  | n + 1 => dSs1 r (dB n)
end

section
variable {X : Cx} {G : Gm} {r : Rc}
theorem gs_ok (O : XOk X G) : ∀ {es : List Expr} {g : DGs}, dGs G es = some g → Dgs X es g ∧ (assignEach es X.env).length = es.length ∧ (assignEach es X.env).findIdx? (·.1) = none
  | [], _, h => by cases h; exact ⟨dgs_nil, rfl, rfl⟩
  | e :: es, g, h => by
    cases e with
    | Name x p =>
      unfold dGs at h
      split at h
      · rename_i hx
        split at h
        · cases h
          rename_i h1 h2
          obtain ⟨g1, g2, g3⟩ := gs_ok O h2
          obtain ⟨hl, hf⟩ := O.st x hx
          refine ⟨dgs_cons (dg_nm O.nd (by rw [O.hN]; exact ixOf_get h1) hl hf) g1 (by rfl), by show (assignEach es X.env).length + 1 = _; rw [g2]; rfl, ?_⟩
          show ((false, _) :: assignEach es X.env).findIdx? (·.1) = none
          rw [List.findIdx?_cons, g3]; rfl
        · cases h
      · cases h
    | _ => cases h
theorem g_ok (R : RcOk r) (O : XOk X G) {tg : Expr} {g : DG} (h : dG r G tg = some g) : Dg X tg g := by
  unfold dG at h
  split at h
  · split at h
    · rename_i hx
      obtain ⟨i, h1, rfl⟩ := Option.map_eq_some_iff.mp h
      obtain ⟨hl, hf⟩ := O.st _ hx
      exact dg_nm O.nd (by rw [O.hN]; exact ixOf_get h1) hl hf
    · cases h
  · obtain ⟨u, h1, rfl⟩ := Option.map_eq_some_iff.mp h
    obtain ⟨g1, g2, g3⟩ := gs_ok O h1
    exact dg_tup O.calm g1 g2 g3
  · rename_i o i p
    split at h
    · cases h
    · rename_i hs
      split at h
      · cases h
        rename_i h1 h2
        refine dg_sub O.hu (R.e X G _ _ O h1) (R.e X G _ _ O h2) fun v => ?_
        cases i <;> first | rfl | (exact (hs rfl).elim)
      · cases h
  · cases h
theorem swapS_of {t e : Expr} {env : Env} (h : isTupB t = false ∨ isTupB e = false) (hl : ∀ es p, t ≠ .List es p) : swappedStores [t] e env = pure none := by
  rcases h with h | h
  · cases t <;> first | rfl | (cases h; done) | (exact absurd rfl (hl _ _))
  · cases t <;> first | rfl | (exact absurd rfl (hl _ _)) | skip
    cases e <;> first | rfl | cases h
theorem s1_ok (R : RcOk r) {bl : Gm → List Stmt → Option DS} (B : ∀ (b : List Stmt) (w : DS), bl G b = some w → Dss X b w) (O : XOk X G) {s : Stmt} {w : DS} (h : dS1 r bl G s = some w) : Ds X s w := by
  unfold dS1 at h
  split at h
  · -- name = e
    rename_i x p' e pos
    by_cases hx : G.st x = true
    · rw [if_pos hx] at h
      obtain ⟨hl, hf⟩ := O.st _ hx
      split at h
      · rename_i elt tg it ifs scope pos2
        split at h
        · rename_i hc
          unfold lcSw at hc
          simp only [Bool.and_eq_true] at hc
          obtain ⟨⟨⟨c1, c0⟩, c2⟩, c3⟩ := hc
          split at h
          · cases h
            rename_i h1 h2
            obtain ⟨wi, t, tt, te, rfl, l1, l2, l3, l4, l5⟩ := lcp_ok R O h2
            have hloc : X.env.scope.names.lookup x = some .local := by
              rw [O.sc]
              split at c1
              · assumption
              · cases c1
            have hk : X.env.scope.kind = .function := by
              rw [O.sc]
              split at c0
              · assumption
              · cases c0
            exact ds_lc O.calm O.nd (by rw [O.hN]; exact ixOf_get h1) hloc (sw_true hk hloc c2 (by simpa using c3)) l1 l2 l3 l4 (folded_of l5)
          · cases h
        · cases h
      · split at h
        · cases h
        · rename_i hs
          split at h
          · cases h
            rename_i h1 h2
            exact ds_set O.nd (by rw [O.hN]; exact ixOf_get h1) hl (R.e X G _ _ O h2) (swaps_of (by simpa using hs)) hf
          · cases h
    · rw [if_neg hx] at h; cases h
  · split at h
    · cases h
    · rename_i hs
      simp only [Bool.or_eq_true, not_or, Bool.not_eq_true] at hs
      split at h
      · cases h
        rename_i h1 h2
        exact ds_asg (R.e X G _ _ O h2) (g_ok R O h1) (swapsSole_of hs.2) (swapS_of (.inr hs.1) fun _ _ z => nomatch z) (by rfl)
      · cases h
  · split at h
    · cases h
    · rename_i hs
      split at h
      · cases h
        rename_i h1 h2
        exact ds_asg (R.e X G _ _ O h2) (g_ok R O h1) (swapsSole_of (by simpa using hs)) (swapS_of (.inl rfl) fun _ _ z => nomatch z) (by rfl)
      · cases h
  · split at h
    · rename_i hx
      obtain ⟨hl, hf⟩ := O.st _ hx
      split at h
      · cases h
        rename_i h1 h2 h3
        exact ds_aug O.nd (by rw [O.hN]; exact ixOf_get h1) hl (R.e X G _ _ O h3) (aug_ok h2) hf
      · cases h
    · cases h
  · split at h
    · cases h
    · rename_i hs
      obtain ⟨u, h1, rfl⟩ := Option.map_eq_some_iff.mp h
      exact ds_exp (R.e X G _ _ O h1) (swaps_of (by simpa using hs))
  · obtain ⟨u, h1, rfl⟩ := Option.map_eq_some_iff.mp h
    exact ds_ret (R.e X G _ _ O h1)
  · cases h; exact ds_retN
  · split at h
    · cases h
      rename_i h1 h2 h3
      exact ds_if (R.b X G _ _ O h1) (B _ _ h2) (B _ _ h3)
    · cases h
  · split at h
    · cases h
      rename_i h1 h2
      exact ds_wh O.pass (R.b X G _ _ O h1) (B _ _ h2)
    · cases h
  · split at h
    · cases h
    · rename_i hs
      split at h
      · cases h
        rename_i h1 h2 h3
        exact ds_for O.pass O.calm (it_ok R O h1) (g_ok R O h2) (B _ _ h3) (folded_of (by simpa using hs))
      · cases h
  · cases h; exact ds_pass
  · cases h; exact ds_brk
  · cases h; exact ds_cnt
  · cases h
theorem ss1_ok (R : RcOk r) {bl : Gm → List Stmt → Option DS} (B : ∀ (b : List Stmt) (w : DS), bl G b = some w → Dss X b w) (O : XOk X G) : ∀ {ss : List Stmt} {w : DS}, dSs1 r bl G ss = some w → Dss X ss w
  | [], _, h => by cases h; exact dss_nil
  | s :: ss, w, h => by
    unfold dSs1 at h
    split at h
    · cases h
      rename_i h1 h2
      exact dss_cons (s1_ok R B O h1) (ss1_ok R B O h2)
    · cases h
theorem b_ok (R : RcOk r) (O : XOk X G) : ∀ (n : Nat) (b : List Stmt) (w : DS), dB r n G b = some w → Dss X b w
  | 0, _, _, h => by cases h
  | n + 1, b, w, h => ss1_ok R (b_ok R O n) O h
end

/-! ### a def -/
def stOf (sc : Scope) (x : Str) : Bool := match sc.names.lookup x with
  | some .local => true
  | some .cell => true
  | _ => false
/-- the context of a def's body -/
def gmOf (N : List Str) (sc : Scope) (fns : List (Str × Nat × DSp)) (glb : List (Str × D)) : Gm := ⟨N, sc, stOf sc, fns, glb⟩
section
variable {P : Program} {w : World} {K : PySem.W.Frag} {mg : Str → Option Value} {base : Heap}
/-- a def of the module, known by its promise -/
structure Dfn (P : Program) (w : World) (K : PySem.W.Frag) (mg : Str → Option Value) (base : Heap) (k : Nat) (x : Str) (n : Nat) (sp : DSp) : Prop where
  dbg : (x == ("__debug__" : Str)) = false
  ok : ∃ f fd ps, ∃ (dd : List D) (dvs : List V) (us : List Value) (sp0 : DSp), FnG P w K mg base CX0 k f fd ps (upF K ps.length sp0) ∧ mg x = some (.ref f) ∧ PySem.W.keepIn K (.ref f) = true ∧ Binds K fd ps us ∧
    Vals dvs us ∧ (∀ H, DRs K H dd dvs) ∧ n + dd.length = ps.length ∧ ∀ ds M P, ds.length = n → sp ds M P → sp0 (ds ++ dd) M P
theorem Dfn.mono {j k : Nat} {x : Str} {n : Nat} {sp : DSp} (d : Dfn P w K mg base j x n sp) (h : j ≤ k) : Dfn P w K mg base k x n sp :=
  ⟨d.dbg, let ⟨f, fd, ps, dd, dvs, us, sp0, F, r⟩ := d.ok; ⟨f, fd, ps, dd, dvs, us, sp0, F.mono h, r⟩⟩
/-- a weaker promise -/
theorem Dfn.imp {k : Nat} {x : Str} {n : Nat} {sp sp' : DSp} (d : Dfn P w K mg base k x n sp) (h : ∀ ds M P, sp' ds M P → sp ds M P) : Dfn P w K mg base k x n sp' :=
  ⟨d.dbg, let ⟨f, fd, ps, dd, dvs, us, sp0, F, a, b, c, d, e, g, i⟩ := d.ok; ⟨f, fd, ps, dd, dvs, us, sp0, F, a, b, c, d, e, g, fun ds M P l q => i ds M P l (h ds M P q)⟩⟩
def FnsOk (P : Program) (w : World) (K : PySem.W.Frag) (mg : Str → Option Value) (base : Heap) (k : Nat) (l : List (Str × Nat × DSp)) : Prop := ∀ x n sp, fnAt l x n = some sp → Dfn P w K mg base k x n sp
theorem FnsOk.nil {k : Nat} : FnsOk P w K mg base k [] := fun _ _ _ h => nomatch h
theorem FnsOk.cons {k : Nat} {x : Str} {n : Nat} {sp : DSp} {l : List (Str × Nat × DSp)} (d : Dfn P w K mg base k x n sp) (h : FnsOk P w K mg base k l) : FnsOk P w K mg base k ((x, n, sp) :: l) := fun y m s e => by
  unfold fnAt at e
  rw [List.find?_cons] at e
  by_cases c : (x == y && n == m) = true
  · simp only [c] at e
    cases e
    rw [Bool.and_eq_true] at c
    have c1 := eq_of_beq c.1
    have c2 := eq_of_beq c.2
    subst c1 c2
    exact d
  · simp only [Bool.eq_false_iff.mpr c] at e
    exact h y m s e
def GlbOk (K : PySem.W.Frag) (mg : Str → Option Value) (l : List (Str × D)) : Prop := ∀ x d, l.lookup x = some d → ∃ u v, mg x = some u ∧ RelV v u ∧ ∀ H, DR K H d v
theorem GlbOk.nil : GlbOk K mg [] := fun _ _ h => nomatch h
theorem GlbOk.cons {x : Str} {d : D} {l : List (Str × D)} (c : ∃ u v, mg x = some u ∧ RelV v u ∧ ∀ H, DR K H d v) (h : GlbOk K mg l) : GlbOk K mg ((x, d) :: l) := fun y e q => by
  rw [List.lookup_cons] at q
  by_cases b : (y == x) = true
  · rw [b] at q
    cases q
    rw [eq_of_beq b]
    exact c
  · rw [Bool.eq_false_iff.mpr b] at q
    exact h y e q
def BltOk (mg : Str → Option Value) : Prop := ∀ x ∈ bltNames, mg x = none

theorem start_er {K : PySem.W.Frag} {H : Hp} {N : List Str} {ds : List D} {vs : List V} (r : DRs K H ds vs) : ER K H (startD N.length ds) (L2.start N vs) := by
  unfold startD L2.start
  refine ⟨by simp [r.length], fun i d e => ?_⟩
  by_cases h : i < ds.length
  · rw [List.getElem?_append_left (by simpa using h), List.getElem?_map] at e
    cases q : ds[i]? with
    | none => rw [q] at e; cases e
    | some d' =>
      rw [q] at e
      cases e
      obtain ⟨v, h1, h2⟩ := r.get q
      refine ⟨v, ?_, h2⟩
      rw [List.getElem?_append_left (by rw [List.length_map, ← r.length]; exact h), List.getElem?_map, h1]; rfl
  · rw [List.getElem?_append_right (by simpa using h), List.getElem?_replicate] at e
    split at e <;> cases e
/-- THE RULE for a def: its body's transformer, and that its promise follows -/
theorem fnok_of {x qual : Str} {st : Stmt} {f : Addr} {fd : FuncData} {N ps : List Str} {k m : Nat} {b : DS} {sp : DSp} {fns : List (Str × Nat × DSp)} {glb : List (Str × D)} (F : Fun K x qual st f fd) (S : FnScope N ps (defScope st))
    (hfs : FnsOk P w K mg base k fns) (hgl : GlbOk K mg glb) (hbl : BltOk mg) (hden : dB (dR m) m (gmOf N (defScope st) fns glb) (defBody st) = some b)
    (hsp : ∀ ds M P, sp ds M P → b { nx := fun _ M' => P .non M', rt := P } (startD N.length ds) M) : FnG P w K mg base CX0 (k + 1) f fd ps (upF K ps.length sp) := by
  refine Fun.okG F S (fun vs H Q E h => h.1) (fun cdv A outer s H vs Q E hr hgd h => ?_)
  obtain ⟨hl, ds, M, PP, dr, h1, w1, k1⟩ := h
  have O : XOk (cxOf CX0 P w K mg base N qual (defScope st) f cdv A outer s H E).nox (gmOf N (defScope st) fns glb) := {
    nd := S.nd
    hN := rfl
    sc := rfl
    calm := rfl
    hu := by
      have := hr.un
      show (A.deeper _).units + 65 < cLine
      omega
    gd := hgd
    pass := PassesOwn.never
    fns := fun y n sp' e => ⟨(hfs y n sp' e).dbg, let ⟨f', fd', ps', dd, dvs, us, sp0, F', r⟩ := (hfs y n sp' e).ok; ⟨f', fd', k, ps', dd, dvs, us, sp0, F', hr, hgd, r⟩⟩
    glb := hgl
    blt := hbl
    st := fun y e => by
      have e : stOf (defScope st) y = true := e
      unfold stOf at e
      split at e
      · exact ⟨.inl (by assumption), .inl rfl⟩
      · exact ⟨.inr (by assumption), .inl rfl⟩
      · cases e }
  refine ⟨_, b_ok (dR_ok m) O m _ _ hden, startD N.length ds, M, _, start_er dr, h1, hsp ds M PP w1, ⟨fun ρ M' σ' H' p e er hr' => k1 _ _ _ _ p e .non hr', fun d M' v H' p e dv hr' => k1 _ _ _ _ p e dv hr', fun _ _ _ _ p => p.elim, fun _ _ _ _ p => p.elim⟩⟩
theorem dfn_of {x qual : Str} {st : Stmt} {f : Addr} {fd : FuncData} {N ps : List Str} {k m : Nat} {b : DS} {sp : DSp} {fns : List (Str × Nat × DSp)} {glb : List (Str × D)} (F : Fun K x qual st f fd) (S : FnScope N ps (defScope st)) (hm : mg x = some (.ref f))
    (hd : (x == ("__debug__" : Str)) = false) (hb : Binds K fd ps []) (hfs : FnsOk P w K mg base k fns) (hgl : GlbOk K mg glb) (hbl : BltOk mg) (hden : dB (dR m) m (gmOf N (defScope st) fns glb) (defBody st) = some b)
    (hsp : ∀ ds M P, sp ds M P → b { nx := fun _ M' => P .non M', rt := P } (startD N.length ds) M) : Dfn P w K mg base (k + 1) x ps.length sp :=
  ⟨hd, f, fd, ps, [], [], [], sp, fnok_of F S hfs hgl hbl hden hsp, hm, F.kp, hb, .nil, fun _ => .nil, rfl, fun ds M P _ h => by rw [List.append_nil]; exact h⟩

theorem FunD.okN {dvs0 : List V} {x qual : Str} {st : Stmt} {f : Addr} {fd : FuncData} {N ps : List Str} {k : Nat} {sp : Sp} (F : FunD K x qual (defArgs st) (defBody st) (defScope st) dvs0 [] f fd) (S : FnScope N ps (defScope st)) (len : ∀ vs H Q E, sp vs H Q E → vs.length = ps.length)
    (hbody : ∀ (cdv : Value) (A : Around) (outer : List Env) (s : Shared) (H : Hp) (vs : List V) (Q : VK) (E : XK), Room k (A.deeper (envOfC qual (defScope st) s.heap.objs.size f cdv)) → A.guards = some [] → sp vs H Q E →
      ∃ t, PSs (cxOf CX0 P w K mg base N qual (defScope st) f cdv A outer s H E).nox (defBody st) t ∧ t { nx := fun _ H' => Q .non H', rt := Q } (L2.start N vs) H) : FnG P w K mg base CX0 (k + 1) f fd ps sp := by
  obtain ⟨oc, od, dV, kV, doc, pm, an, cdv, ct, osl, rfl, lk, hcd, _, _⟩ := F.ex
  refine fn_ofG lk hcd S len fun A outer s H vs Q E hr hgd hsp => ?_
  obtain ⟨t, h, q⟩ := hbody cdv A outer s H vs Q E hr hgd hsp
  exact ⟨t, h.nox, q⟩
/-- the same of a def with defaults -/
theorem fnok_ofD {dvs0 : List V} {x qual : Str} {st : Stmt} {f : Addr} {fd : FuncData} {N ps : List Str} {k m : Nat} {b : DS} {sp : DSp} {fns : List (Str × Nat × DSp)} {glb : List (Str × D)} (F : FunD K x qual (defArgs st) (defBody st) (defScope st) dvs0 [] f fd) (S : FnScope N ps (defScope st))
    (hfs : FnsOk P w K mg base k fns) (hgl : GlbOk K mg glb) (hbl : BltOk mg) (hden : dB (dR m) m (gmOf N (defScope st) fns glb) (defBody st) = some b)
    (hsp : ∀ ds M P, sp ds M P → b { nx := fun _ M' => P .non M', rt := P } (startD N.length ds) M) : FnG P w K mg base CX0 (k + 1) f fd ps (upF K ps.length sp) := by
  refine FunD.okN F S (fun vs H Q E h => h.1) (fun cdv A outer s H vs Q E hr hgd h => ?_)
  obtain ⟨hl, ds, M, PP, dr, h1, w1, k1⟩ := h
  have O : XOk (cxOf CX0 P w K mg base N qual (defScope st) f cdv A outer s H E).nox (gmOf N (defScope st) fns glb) := {
    nd := S.nd
    hN := rfl
    sc := rfl
    calm := rfl
    hu := by
      have := hr.un
      show (A.deeper _).units + 65 < cLine
      omega
    gd := hgd
    pass := PassesOwn.never
    fns := fun y n sp' e => ⟨(hfs y n sp' e).dbg, let ⟨f', fd', ps', dd, dvs, us, sp0, F', r⟩ := (hfs y n sp' e).ok; ⟨f', fd', k, ps', dd, dvs, us, sp0, F', hr, hgd, r⟩⟩
    glb := hgl
    blt := hbl
    st := fun y e => by
      have e : stOf (defScope st) y = true := e
      unfold stOf at e
      split at e
      · exact ⟨.inl (by assumption), .inl rfl⟩
      · exact ⟨.inr (by assumption), .inl rfl⟩
      · cases e }
  refine ⟨_, b_ok (dR_ok m) O m _ _ hden, startD N.length ds, M, _, start_er dr, h1, hsp ds M PP w1, ⟨fun ρ M' σ' H' p e er hr' => k1 _ _ _ _ p e .non hr', fun d M' v H' p e dv hr' => k1 _ _ _ _ p e dv hr', fun _ _ _ _ p => p.elim, fun _ _ _ _ p => p.elim⟩⟩
/-- .. that may be called with n values: dd stand for those behind them -/
theorem dfn_ofD {dvs0 : List V} {x qual : Str} {st : Stmt} {f : Addr} {fd : FuncData} {N ps : List Str} {k m n : Nat} {b : DS} {sp sp0 : DSp} {fns : List (Str × Nat × DSp)} {glb : List (Str × D)} {dd : List D} {dvs : List V} {us : List Value} (F : FunD K x qual (defArgs st) (defBody st) (defScope st) dvs0 [] f fd) (S : FnScope N ps (defScope st)) (hm : mg x = some (.ref f))
    (hd : (x == ("__debug__" : Str)) = false) (hb : Binds K fd ps us) (hv : Vals dvs us) (hr : ∀ H, DRs K H dd dvs) (hn : n + dd.length = ps.length) (hfs : FnsOk P w K mg base k fns) (hgl : GlbOk K mg glb) (hbl : BltOk mg) (hden : dB (dR m) m (gmOf N (defScope st) fns glb) (defBody st) = some b)
    (hsp : ∀ ds M P, sp0 ds M P → b { nx := fun _ M' => P .non M', rt := P } (startD N.length ds) M) (hi : ∀ ds M P, ds.length = n → sp ds M P → sp0 (ds ++ dd) M P) : Dfn P w K mg base (k + 1) x n sp :=
  ⟨hd, f, fd, ps, dd, dvs, us, sp0, fnok_ofD F S hfs hgl hbl hden hsp, hm, F.kp, hb, hv, hr, hn, hi⟩

/-! ### what the top has left -/
/-- a def of the module, as it stands behind the top -/
structure DefAt (K : PySem.W.Frag) (x : Str) (st : Stmt) : Prop where
  ex : ∃ (f : Addr) (oc : Value) (od : Option Addr) (osl : Array (Option Value)) (kV doc pm : Value) (an : Option Addr) (cdv ct : Value), PySem.W.nsIn K mainGlobals x = some (some (.ref f)) ∧
    K.lookup f = some ⟨oc, od, .func (PySem.W.fnOf x x (defArgs st) (defBody st) (defScope st) .none kV doc pm an cdv ct), osl⟩ ∧ PySem.W.codeIn K cdv x = true ∧ PySem.W.keepIn K (.ref f) = true
theorem defAt {x : Str} {st : Stmt} {f : Addr} {oc : Value} {od : Option Addr} {osl : Array (Option Value)} {kV doc pm : Value} {an : Option Addr} {cdv ct : Value} (a : PySem.W.nsIn K mainGlobals x = some (some (.ref f)))
    (l : K.lookup f = some ⟨oc, od, .func (PySem.W.fnOf x x (defArgs st) (defBody st) (defScope st) .none kV doc pm an cdv ct), osl⟩) (c : PySem.W.codeIn K cdv x = true) (k : PySem.W.keepIn K (.ref f) = true) : DefAt K x st :=
  ⟨⟨f, oc, od, osl, kV, doc, pm, an, cdv, ct, a, l, c, k⟩⟩
/-- how a def binds: by its own text -/
def BindsBy (x : Str) (st : Stmt) (ps : List Str) : Prop := ∀ (kV doc pm : Value) (an : Option Addr) (cdv ct : Value) (us : List Value), us.length = ps.length →
  bindArgs (PySem.W.fnOf x x (defArgs st) (defBody st) (defScope st) .none kV doc pm an cdv ct) ⟨us, []⟩ = pure (ps.zip us)
theorem DefAt.get {x : Str} {st : Stmt} {h : Heap} {ps : List Str} (D : DefAt K x st) (X : K.In h) (G : h.Ns mainGlobals mg) (B : BindsBy x st ps) : ∃ f fd, Fun K x x st f fd ∧ mg x = some (.ref f) ∧ Binds K fd ps [] ∧ ∀ (s : Shared) (us : List Value), us.length = ps.length → BindsTo s fd ⟨us, []⟩ (ps.zip us) := by
  obtain ⟨f, oc, od, osl, kV, doc, pm, an, cdv, ct, a, l, c, k⟩ := D.ex
  have F := fun_mk (st := st) l c k
  exact ⟨f, _, F, PySem.W.mg_of X G a, F.binds fun kV doc pm an cdv ct us hl => B kV doc pm an cdv ct us hl, fun s us hl => .of_eq (B _ _ _ _ _ _ us hl)⟩
theorem glb_str {x z : Str} {t : Tok} {h : Heap} (X : K.In h) (G : h.Ns mainGlobals mg) (a : PySem.W.nsIn K mainGlobals x = some (some (.str z t))) : ∃ u v, mg x = some u ∧ RelV v u ∧ ∀ H, DR K H (.str z) v :=
  ⟨_, .str z, PySem.W.mg_of X G a, ⟨t, rfl⟩, fun _ => .str z⟩
theorem glb_int {x : Str} {z : Int} {t : Tok} {h : Heap} (X : K.In h) (G : h.Ns mainGlobals mg) (a : PySem.W.nsIn K mainGlobals x = some (some (.int z t))) : ∃ u v, mg x = some u ∧ RelV v u ∧ ∀ H, DR K H (.int z) v :=
  ⟨_, .int z, PySem.W.mg_of X G a, ⟨t, rfl⟩, fun _ => .int z⟩
/-- a constant's data -/
inductive Lit : D → Value → Prop
  | non : Lit .non .none
  | bl (b : Bool) : Lit (.bl b) (.bool b)
  | int (i : Int) (t : Tok) : Lit (.int i) (.int i t)
  | str (z : Str) (t : Tok) : Lit (.str z) (.str z t)
theorem Lit.rel {d : D} {u : Value} (l : Lit d u) : ∃ v, RelV v u ∧ ∀ (K : PySem.W.Frag) H, DR K H d v := by
  cases l with
  | non => exact ⟨.non, rfl, fun _ _ => .non⟩
  | bl b => exact ⟨.bl b, rfl, fun _ _ => .bl b⟩
  | int i t => exact ⟨.int i, ⟨t, rfl⟩, fun _ _ => .int i⟩
  | str z t => exact ⟨.str z, ⟨t, rfl⟩, fun _ _ => .str z⟩
theorem lits_rel : ∀ {ds : List D} {us : List Value}, Paired Lit ds us → ∃ vs, Vals vs us ∧ ∀ (K : PySem.W.Frag) H, DRs K H ds vs
  | _, _, .nil => ⟨[], .nil, fun _ _ => .nil⟩
  | _, _, .cons l r => let ⟨v, h1, h2⟩ := l.rel; let ⟨vs, h3, h4⟩ := lits_rel r; ⟨v :: vs, .cons h1 h3, fun K H => .cons (h2 K H) (h4 K H)⟩
/-- a def with defaults dd, as it stands behind the top -/
structure DefAtD (K : PySem.W.Frag) (x : Str) (st : Stmt) (dd : List D) : Prop where
  ex : ∃ (f T : Addr) (oc : Value) (od : Option Addr) (osl : Array (Option Value)) (o : Obj) (its : Array Value) (n : Nat) (kV doc pm : Value) (an : Option Addr) (cdv ct : Value), PySem.W.nsIn K mainGlobals x = some (some (.ref f)) ∧
    K.lookup f = some ⟨oc, od, .func (PySem.W.fnOf x x (defArgs st) (defBody st) (defScope st) (.ref T) kV doc pm an cdv ct), osl⟩ ∧ PySem.W.codeIn K cdv x = true ∧ PySem.W.keepIn K (.ref f) = true ∧ K.lookup T = some o ∧ o.data = .seq its n ∧ Paired Lit dd its.toList ∧ dd ≠ []
theorem defAtD {x : Str} {st : Stmt} {dd : List D} {f T : Addr} {oc : Value} {od od2 : Option Addr} {osl sl : Array (Option Value)} {its : Array Value} {n : Nat} {kV doc pm : Value} {an : Option Addr} {cdv ct : Value} (a : PySem.W.nsIn K mainGlobals x = some (some (.ref f)))
    (l : K.lookup f = some ⟨oc, od, .func (PySem.W.fnOf x x (defArgs st) (defBody st) (defScope st) (.ref T) kV doc pm an cdv ct), osl⟩) (c : PySem.W.codeIn K cdv x = true) (k : PySem.W.keepIn K (.ref f) = true) (t : K.lookup T = some ⟨.type "tuple", od2, .seq its n, sl⟩) (p : Paired Lit dd its.toList) (h : dd ≠ []) : DefAtD K x st dd :=
  ⟨⟨f, T, oc, od, osl, _, its, n, kV, doc, pm, an, cdv, ct, a, l, c, k, t, rfl, p, h⟩⟩
theorem DefAtD.get {x : Str} {st : Stmt} {dd : List D} {h : Heap} (D : DefAtD K x st dd) (X : K.In h) (G : h.Ns mainGlobals mg) : ∃ f fd dvs, FunD K x x (defArgs st) (defBody st) (defScope st) dvs [] f fd ∧ mg x = some (.ref f) ∧ (∀ H, DRs K H dd dvs) ∧ dvs ≠ [] ∧ dvs.length = dd.length := by
  obtain ⟨f, T, oc, od, osl, o, its, n, kV, doc, pm, an, cdv, ct, a, l, c, k, t, e, p, hne⟩ := D.ex
  obtain ⟨vs, h1, h2⟩ := lits_rel p
  have hl : vs.length = dd.length := ((h2 K (fun _ => none)).length).symm
  have hv : vs ≠ [] := fun z => by
    subst z
    cases dd with
    | nil => exact hne rfl
    | cons _ _ => cases hl
  exact ⟨f, _, vs, ⟨⟨oc, od, .ref T, kV, doc, pm, an, cdv, ct, osl, rfl, l, c, .inr ⟨hv, T, o, its.toList, n, rfl, t, by rw [e], h1⟩, .inl rfl⟩, k⟩, PySem.W.mg_of X G a, fun H => h2 K H, hv, hl⟩
theorem glb_tup {x : Str} {ds : List D} {a : Addr} {its : Array Value} {n : Nat} {sl : Array (Option Value)} {h : Heap} (X : K.In h) (G : h.Ns mainGlobals mg) (e : PySem.W.nsIn K mainGlobals x = some (some (.ref a)))
    (l : K.lookup a = some ⟨.type "tuple", none, .seq its n, sl⟩) (hz : its.size ≤ sizeLine) (p : Paired Lit ds its.toList) : ∃ u v, mg x = some u ∧ RelV v u ∧ ∀ H, DR K H (.ktp ds) v := by
  obtain ⟨vs, h1, h2⟩ := lits_rel p
  exact ⟨_, .ref a, PySem.W.mg_of X G e, rfl, fun H => .ktp (.inr ⟨_, its, n, l, rfl, rfl, rfl, hz, h1⟩) (h2 K H)⟩
/-- the built-in names are free -/
theorem blt_of {h : Heap} (X : K.In h) (G : h.Ns mainGlobals mg) (z : ∀ x ∈ bltNames, PySem.W.nsIn K mainGlobals x = some none) : BltOk mg := fun x hx => PySem.W.mg_none_of X G (z x hx)
end
theorem ints_dr {K : PySem.W.Frag} {H : Hp} : ∀ ns : List Int, DRs K H (ns.map D.int) (ns.map V.int)
  | [] => .nil
  | n :: r => .cons (.int n) (ints_dr r)
/-- the law's promise: it gives True for every list of ints -/
def lawSp : DSp := fun ds M P => ∃ ns : List Int, ds = [.rol (ns.map D.int)] ∧ ns.length ≤ 63 ∧ ∀ M', P (.bl true) M'
theorem law_entry {K : PySem.W.Frag} {H : Hp} {a : Addr} {ns : List Int} (hl : ns.length ≤ 63) (hO : Only H) (hS : SqL K H a (ns.map V.int)) (E : XK) : upF K 1 lawSp [.ref a] H (fun v _ => v = .bl true) E := by
  refine ⟨rfl, [.rol (ns.map D.int)], fun _ => none, fun d _ => d = .bl true, .cons (.rol ?_ (ints_dr ns)) .nil, (fun _ _ e => (nomatch e)), ⟨ns, rfl, hl, fun _ => rfl⟩, fun d M' v H' e _ dv _ => ?_⟩
  · rcases hS with (h | ⟨o, h⟩) | h
    · rcases hO a with z | ⟨o, xs, z⟩
      · rw [h] at z; cases z
      · rw [h] at z; cases z
    · exact .inl ⟨o, h⟩
    · exact .inr h
  · subst e
    cases dv
    rfl
end DL
/-! DLp: steps through the transformers of a body, one rule a construct. -/
namespace DL
open PySem L2

section
variable {P : De} {ρ : Ev} {M : Mh} {Q : PQ} {a b e : DT} {wc wd : DB} {p q : DS} {wa : DA}
theorem t_nil (h : P.nx ρ M) : sNil P ρ M := h
theorem t_seq (h : p { P with nx := fun ρ1 M1 => q P ρ1 M1 } ρ M) : sSeq p q P ρ M := h
/-- a block in two parts, with what holds between them -/
theorem t_cut (R : Ev → Mh → Prop) (h : ∀ N : Ev → Mh → Prop, (∀ ρ' M', R ρ' M' → N ρ' M') → p { P with nx := N } ρ M) (h2 : ∀ ρ' M', R ρ' M' → q P ρ' M') : sSeq p q P ρ M := h _ h2
theorem t_if (h : wc ρ M fun k M1 => if k = true then p P ρ M1 else q P ρ M1) : sIf wc p q P ρ M := h
theorem t_asg {g : DG} (h : e ρ M fun d M1 => g d ρ M1 P.nx) : sAsg e g P ρ M := h
theorem t_exp (h : e ρ M fun _ M1 => P.nx ρ M1) : sExp e P ρ M := h
theorem t_ret (h : e ρ M P.rt) : sRet e P ρ M := h
theorem t_retN (h : P.rt .non M) : sRetN P ρ M := h
theorem t_brk (h : P.bk ρ M) : sBrk P ρ M := h
theorem t_cnt (h : P.ct ρ M) : sCnt P ρ M := h
theorem t_aug {i : Nat} {r : D → D → Mh → PQ → Prop} {x : D} (s : slot ρ i = some x) (h : e ρ M fun y M1 => r x y M1 fun z M2 => P.nx (ρ.set i (some z)) M2) : sAug i r e P ρ M := by
  unfold sAug; rw [s]; exact h
theorem t_for {it : DI} {g : DG} (h : it ρ M fun items chk M1 => forD g p chk P items ρ M1) : sFor it g p P ρ M := h
theorem t_gN {i : Nat} {d : D} {R : Ev → Mh → Prop} (h : R (ρ.set i (some d)) M) : gN i d ρ M R := h
theorem t_gT {n : Nat} {g : DGs} {ds : List D} {R : Ev → Mh → Prop} (l : ds.length = n) (h : g ds ρ M R) : gT n g (.tup ds) ρ M R := ⟨l, h⟩
theorem t_gTr {n : Nat} {g : DGs} {a : Addr} {ds : List D} {R : Ev → Mh → Prop} (e : M a = some (.lst ds)) (l : ds.length = n) (h : g ds ρ M R) : gT n g (.ref a) ρ M R := by
  show (match M a with | some (.lst ds) => ds.length = n ∧ g ds ρ M R | _ => False)
  rw [e]; exact ⟨l, h⟩
theorem t_gsC {g : DG} {r : DGs} {d : D} {ds : List D} {R : Ev → Mh → Prop} (h : g d ρ M fun ρ1 M1 => r ds ρ1 M1 R) : gsC g r (d :: ds) ρ M R := h
theorem t_gsN {R : Ev → Mh → Prop} (h : R ρ M) : gsN [] ρ M R := h
theorem t_gS {o i : DT} {d : D} {R : Ev → Mh → Prop} (h : o ρ M fun x M1 => i ρ M1 fun y M2 => setD x y d M2 fun M3 => R ρ M3) : gS o i d ρ M R := h
theorem t_var {i : Nat} {d : D} (s : slot ρ i = some d) (h : Q d M) : eVar i ρ M Q := by
  unfold eVar; rw [s]; exact h
theorem t_c {d : D} (h : Q d M) : eC d ρ M Q := h
theorem t_bin {r : D → D → Mh → PQ → Prop} (h : a ρ M fun x M1 => b ρ M1 fun y M2 => r x y M2 Q) : eBin r a b ρ M Q := h
theorem t_un {r : D → Mh → PQ → Prop} (h : a ρ M fun x M1 => r x M1 Q) : eUn r a ρ M Q := h
theorem t_cmp {r : Cmp} (h : a ρ M fun x M1 => b ρ M1 fun y M2 => r x y M2 fun k => Q (.bl k) M2) : eCmp r a b ρ M Q := h
theorem t_not (h : a ρ M fun x M1 => truD x M1 fun k => Q (.bl (!k)) M1) : eNot a ρ M Q := h
theorem t_and (h : a ρ M fun x M1 => truD x M1 fun k => if k = true then b ρ M1 Q else Q x M1) : eAnd a b ρ M Q := h
theorem t_or (h : a ρ M fun x M1 => truD x M1 fun k => if k = true then Q x M1 else b ρ M1 Q) : eOr a b ρ M Q := h
theorem t_ife (h : wc ρ M fun k M1 => if k = true then a ρ M1 Q else b ρ M1 Q) : eIf wc a b ρ M Q := h
theorem t_tup (h : wa ρ M fun xs M1 => xs.length ≤ sizeLine ∧ Q (.tup xs) M1) : eTup wa ρ M Q := h
theorem t_lst (h : wa ρ M fun xs M1 => xs.length ≤ sizeLine ∧ ∀ p, M1 p = none → Q (.ref p) (mup M1 p (.lst xs))) : eLst wa ρ M Q := h
theorem t_call {sp : List D → Mh → PQ → Prop} (h : wa ρ M fun xs M1 => sp xs M1 Q) : eCall sp wa ρ M Q := h
theorem t_fn {n : Nat} {sp : DSp} (h : wa ρ M fun xs M1 => xs.length = n ∧ sp xs M1 Q) : eFn n sp wa ρ M Q := h
theorem t_mt {T : String} {r : D → List D → Mh → PQ → Prop} (h : a ρ M fun x M1 => tyD T x M1 ∧ wa ρ M1 fun xs M2 => r x xs M2 Q) : eMt T r a wa ρ M Q := h
theorem t_isi {T : String} (h : a ρ M fun x M1 => isiD T x M1 Q) : eIsi T a ρ M Q := h
theorem t_sl {lo hi : Option DT} (h : a ρ M fun x M1 => oPart lo ρ M1 fun l M2 => oPart hi ρ M2 fun u M3 => slD x l u M3 Q) : eSl a lo hi ρ M Q := h
theorem t_o0 {R : Option Int → Mh → Prop} (h : R none M) : oPart none ρ M R := h
theorem t_o1 {R : Option Int → Mh → Prop} {w : DT} (h : w ρ M fun d M1 => match d with | .int i => R (some i) M1 | _ => False) : oPart (some w) ρ M R := h
theorem t_an {R : List D → Mh → Prop} (h : R [] M) : aNil ρ M R := h
theorem t_ac {R : List D → Mh → Prop} (h : a ρ M fun x M1 => wa ρ M1 fun xs M2 => R (x :: xs) M2) : aCons a wa ρ M R := h
theorem t_bcmp {r : Cmp} {R : Bool → Mh → Prop} (h : a ρ M fun x M1 => b ρ M1 fun y M2 => r x y M2 fun k => R k M2) : bCmp r a b ρ M R := h
theorem t_btru {R : Bool → Mh → Prop} (h : a ρ M fun x M1 => truD x M1 fun k => R k M1) : bTru a ρ M R := h
theorem t_bnot {R : Bool → Mh → Prop} (h : wc ρ M fun k M1 => R (!k) M1) : bNot wc ρ M R := h
theorem t_band {R : Bool → Mh → Prop} (h : wc ρ M fun k M1 => if k = true then wd ρ M1 R else R false M1) : bAnd wc wd ρ M R := h
theorem t_bor {R : Bool → Mh → Prop} (h : wc ρ M fun k M1 => if k = true then R true M1 else wd ρ M1 R) : bOr wc wd ρ M R := h
theorem t_byes {R : Bool → Mh → Prop} (h : R true M) : bYes ρ M R := h
theorem t_seqi {R : List D → (Mh → Prop) → Mh → Prop} (h : e ρ M fun x M1 => seqP x M1 R) : iSeq e ρ M R := h
theorem t_lc {it : DI} {t : Tg} {tt : DB} {te : DT} {vs : List Nat} (h : it ρ M fun items chk M1 => ∀ p, M1 p = none → lcLoop p chk t tt te (wipeD ρ vs) Q items (mup M1 p (.lst []))) : eLC it t tt te vs ρ M Q := h
theorem t_rg1 {R : List D → (Mh → Prop) → Mh → Prop} (h : wa ρ M fun xs M1 => match xs with
  | [.int j] => (-(2 ^ 62) ≤ j ∧ j < 2 ^ 62) ∧ R (rngI 0 j.toNat) (fun _ => True) M1
  | _ => False) : iRg1 wa ρ M R := h
theorem t_rg2 {R : List D → (Mh → Prop) → Mh → Prop} (h : wa ρ M fun xs M1 => match xs with
  | [.int i, .int j] => (-(2 ^ 62) ≤ i ∧ i < 2 ^ 62 ∧ -(2 ^ 62) ≤ j ∧ j < 2 ^ 62) ∧ R (rngI i (j - i).toNat) (fun _ => True) M1
  | _ => False) : iRg2 wa ρ M R := h
end

/-! ### values -/
section
variable {M : Mh} {Q : PQ} {R : Bool → Prop}
theorem v_tru_bl {b : Bool} (h : R b) : truD (.bl b) M R := h
theorem v_tru_int {i : Int} (h : R (i != 0)) : truD (.int i) M R := h
theorem v_tru_non (h : R false) : truD .non M R := h
theorem v_tru_ref {p : Addr} {ds : List D} (e : M p = some (.lst ds)) (h : R (!ds.isEmpty)) : truD (.ref p) M R := by
  show (match M p with | some (.lst ds) => R (!ds.isEmpty) | _ => False)
  rw [e]; exact h
theorem v_tru_tup {ds : List D} (h : R (!ds.isEmpty)) : truD (.tup ds) M R := h
theorem v_add_int {i j : Int} (h : Q (.int (i + j)) M) : addD (.int i) (.int j) M Q := h
theorem v_add_str {i j : Str} (l : i.length + j.length ≤ sizeLine) (h : Q (.str (i ++ j)) M) : addD (.str i) (.str j) M Q := ⟨l, h⟩
theorem v_add_tup {i j : List D} (l : i.length + j.length ≤ sizeLine) (h : Q (.tup (i ++ j)) M) : addD (.tup i) (.tup j) M Q := ⟨l, h⟩
theorem v_iadd_int {i j : Int} (h : Q (.int (i + j)) M) : iaddD (.int i) (.int j) M Q := h
theorem v_iadd_str {i j : Str} (l : i.length + j.length ≤ sizeLine) (h : Q (.str (i ++ j)) M) : iaddD (.str i) (.str j) M Q := ⟨l, h⟩
theorem v_sub {i j : Int} (h : Q (.int (i - j)) M) : subD (.int i) (.int j) M Q := h
theorem v_mul {i j : Int} (c : CMul i j) (h : Q (.int (i * j)) M) : mulD (.int i) (.int j) M Q := ⟨c, h⟩
theorem v_div {i j : Int} (c : 0 < j ∧ j < 1073741824) (h : Q (.int (i / j)) M) : divD (.int i) (.int j) M Q := ⟨c, h⟩
theorem v_mod {i j : Int} (c : 0 < j) (h : Q (.int (i % j)) M) : modD (.int i) (.int j) M Q := ⟨c, h⟩
theorem v_pow {i j : Int} (c : CPow i j) (h : Q (.int (i ^ j.toNat)) M) : powD (.int i) (.int j) M Q := ⟨c, h⟩
theorem v_neg {i : Int} (h : Q (.int (-i)) M) : negD (.int i) M Q := h
theorem deq_int {i j : Int} : deq (.int i) (.int j) = (i == j) := by simp [deq, pd, PyData.eqv]
theorem deq_str {i j : Str} : deq (.str i) (.str j) = (i == j) := by simp [deq, pd, PyData.eqv]
theorem deq_bl {i j : Bool} : deq (.bl i) (.bl j) = (i == j) := by simp [deq, pd, PyData.eqv]
theorem v_eq_int {i j : Int} (h : R (i == j)) : eqD (.int i) (.int j) M R := .inl ⟨.inl rfl, by rw [deq_int]; exact h⟩
theorem v_eq_str {i j : Str} (h : R (i == j)) : eqD (.str i) (.str j) M R := .inl ⟨.inl rfl, by rw [deq_str]; exact h⟩
theorem v_eq_bl {i j : Bool} (h : R (i == j)) : eqD (.bl i) (.bl j) M R := .inl ⟨.inl rfl, by rw [deq_bl]; exact h⟩
theorem v_ne_int {i j : Int} (h : R (!(i == j))) : neD (.int i) (.int j) M R := .inl ⟨.inl rfl, by rw [deq_int]; exact h⟩
theorem v_ne_str {i j : Str} (h : R (!(i == j))) : neD (.str i) (.str j) M R := .inl ⟨.inl rfl, by rw [deq_str]; exact h⟩
theorem v_ne_bl {i j : Bool} (h : R (!(i == j))) : neD (.bl i) (.bl j) M R := .inl ⟨.inl rfl, by rw [deq_bl]; exact h⟩
theorem v_lt {i j : Int} (h : R (decide (i < j))) : ltD (.int i) (.int j) M R := h
theorem v_lt_str {i j : Str} (h : R (decide (i.cps.toList < j.cps.toList))) : ltD (.str i) (.str j) M R := h
theorem v_le {i j : Int} (h : R (decide (i ≤ j))) : leD (.int i) (.int j) M R := h
theorem v_gt {i j : Int} (h : R (decide (j < i))) : gtD (.int i) (.int j) M R := h
theorem v_ge {i j : Int} (h : R (decide (j ≤ i))) : geD (.int i) (.int j) M R := h
theorem v_len_str {z : Str} (l : z.length ≤ sizeLine) (h : Q (.int z.length) M) : lenD [.str z] M Q := ⟨l, h⟩
theorem v_len_tup {ds : List D} (h : Q (.int ds.length) M) : lenD [.tup ds] M Q := h
theorem v_len_rol {ds : List D} (h : Q (.int ds.length) M) : lenD [.rol ds] M Q := h
theorem items_ref {p : Addr} {ds : List D} (e : M p = some (.lst ds)) : itemsD (.ref p) M = some ds := by
  show (match M p with | some (.lst ds) => some ds | _ => none) = _
  rw [e]
theorem dict_lst {p : Addr} {ds : List D} (e : M p = some (.lst ds)) : dictD (.ref p) M = none := by
  show (match M p with | some (.dk kvs) => some (MO.dk kvs) | some (.dt kvs) => some (.dt kvs) | _ => none) = _
  rw [e]
theorem dict_dk {p : Addr} {ds : List (Key × D)} (e : M p = some (.dk ds)) : dictD (.ref p) M = some (.dk ds) := by
  show (match M p with | some (.dk kvs) => some (MO.dk kvs) | some (.dt kvs) => some (.dt kvs) | _ => none) = _
  rw [e]
theorem dict_dt {p : Addr} {ds : List (List Key × D)} (e : M p = some (.dt ds)) : dictD (.ref p) M = some (.dt ds) := by
  show (match M p with | some (.dk kvs) => some (MO.dk kvs) | some (.dt kvs) => some (.dt kvs) | _ => none) = _
  rw [e]
theorem v_len_ref {p : Addr} {ds : List D} (e : M p = some (.lst ds)) (h : Q (.int ds.length) M) : lenD [.ref p] M Q := by
  show (match dictD (.ref p) M with | some o => Q (.int (dSize o)) M | none => (match itemsD (.ref p) M with | some ds => Q (.int ds.length) M | none => False))
  rw [dict_lst e, items_ref e]; exact h
theorem v_len_dict {p : Addr} {o : MO} (e : dictD (.ref p) M = some o) (h : Q (.int (dSize o)) M) : lenD [.ref p] M Q := by
  show (match dictD (.ref p) M with | some o => Q (.int (dSize o)) M | none => (match itemsD (.ref p) M with | some ds => Q (.int ds.length) M | none => False))
  rw [e]; exact h
theorem v_int_int {i : Int} (h : Q (.int i) M) : intD [.int i] M Q := h
theorem litems_ref {p : Addr} {ds : List D} (e : M p = some (.lst ds)) : litemsD (.ref p) M = some ds := by
  show (match M p with | some (.lst ds) => some ds | _ => none) = _
  rw [e]
theorem v_tuple_ref {p : Addr} {ds : List D} (e : M p = some (.lst ds)) (h : Q (.tup ds) M) : tupleD [.ref p] M Q := by
  show (match litemsD (.ref p) M with | some ds => Q (.tup ds) M ∨ Q (.ktp ds) M | none => False)
  rw [litems_ref e]; exact .inl h
/-- .. one that knows its object: it may be asked for an index -/
theorem v_tuple_refK {p : Addr} {ds : List D} (e : M p = some (.lst ds)) (h : Q (.ktp ds) M) : tupleD [.ref p] M Q := by
  show (match litemsD (.ref p) M with | some ds => Q (.tup ds) M ∨ Q (.ktp ds) M | none => False)
  rw [litems_ref e]; exact .inr h
theorem v_tuple_tup {ds : List D} (h : Q (.tup ds) M) : tupleD [.tup ds] M Q := h
theorem v_list_tup {ds : List D} (h : ∀ p, M p = none → Q (.ref p) (mup M p (.lst ds))) : listD [.tup ds] M Q := h
theorem v_list_ref {p : Addr} {ds : List D} (e : M p = some (.lst ds)) (h : ∀ l, M l = none → Q (.ref l) (mup M l (.lst ds))) : listD [.ref p] M Q := by
  show (match itemsD (.ref p) M with | some ds => ∀ l, M l = none → Q (.ref l) (mup M l (.lst ds)) | none => False)
  rw [items_ref e]; exact h
theorem v_max {i j : Int} (h : Q (.int (if j > i then j else i)) M) : maxD [.int i, .int j] M Q := h
theorem v_min {i j : Int} (h : Q (.int (if j < i then j else i)) M) : minD [.int i, .int j] M Q := h
theorem v_ix_tup {ds : List D} {i : Int} {d : D} (e : atI ds i = some d) (h : Q d M) : ixD (.tup ds) (.int i) M Q := by
  show (match atI ds i with | some d => Q d M | none => False)
  rw [e]; exact h
theorem v_ix_rol {ds : List D} {i : Int} {d : D} (e : atI ds i = some d) (h : Q d M) : ixD (.rol ds) (.int i) M Q := by
  show (match atI ds i with | some d => Q d M | none => False)
  rw [e]; exact h
theorem v_ix_ref {p : Addr} {ds : List D} {i : Int} {d : D} (e : M p = some (.lst ds)) (e2 : atI ds i = some d) (h : Q d M) : ixD (.ref p) (.int i) M Q := by
  unfold ixD
  rw [dict_lst e]
  show (match itemsD (.ref p) M with | some ds => (match atI ds i with | some d => Q d M | none => False) | none => False)
  rw [items_ref e]
  show (match atI ds i with | some d => Q d M | none => False)
  rw [e2]; exact h
theorem v_ix_dict {p : Addr} {y d : D} {o : MO} (e : dictD (.ref p) M = some o) (e2 : dGet o y = some (some d)) (h : Q d M) : ixD (.ref p) y M Q := by
  unfold ixD
  rw [e]
  show (match dGet o y with | some (some d) => Q d M | _ => False)
  rw [e2]; exact h
theorem v_ix_str {z : Str} {i : Int} {c : Nat} (l : z.length ≤ sizeLine) (e : atI z.cps.toList i = some c) (h : Q (.str ⟨#[c]⟩) M) : ixD (.str z) (.int i) M Q := by
  refine ⟨l, ?_⟩
  rw [e]; exact h
theorem v_set {p : Addr} {ds : List D} {i : Int} {j : Nat} {d : D} {S : Mh → Prop} (e : M p = some (.lst ds)) (e2 : ixN ds.length i = some j) (h : S (mup M p (.lst (ds.set j d)))) : setD (.ref p) (.int i) d M S := by
  unfold setD
  rw [dict_lst e]
  show (match M p with | some (.lst ds) => (match ixN ds.length i with | some j => S (mup M p (.lst (ds.set j d))) | none => False) | _ => False)
  rw [e]
  show (match ixN ds.length i with | some j => S (mup M p (.lst (ds.set j d))) | none => False)
  rw [e2]; exact h
theorem v_set_dict {p : Addr} {y d : D} {o o' : MO} {S : Mh → Prop} (e : dictD (.ref p) M = some o) (l : dSize o < sizeLine) (e2 : dPut o y d = some o') (h : S (mup M p o')) : setD (.ref p) y d M S := by
  unfold setD
  rw [e]
  refine ⟨l, ?_⟩
  rw [e2]; exact h
theorem v_in_dict {x : D} {p : Addr} {o : MO} {r : Option D} (e : dictD (.ref p) M = some o) (e2 : dGet o x = some r) (h : R r.isSome) : inD x (.ref p) M R := by
  unfold inD
  rw [e]
  show (match dGet o x with | some r => R r.isSome | none => False)
  rw [e2]; exact h
theorem v_nin_dict {x : D} {p : Addr} {o : MO} {r : Option D} (e : dictD (.ref p) M = some o) (e2 : dGet o x = some r) (h : R (!r.isSome)) : ninD x (.ref p) M R := v_in_dict (R := fun k => R (!k)) e e2 h
theorem v_keys {p : Addr} {o : MO} (e : dictD (.ref p) M = some o) (h : ∀ q, M q = none → Q (.ref q) (mup M q (.lst (dKeys o)))) : keysLD (.ref p) M Q := by
  unfold keysLD
  rw [e]; exact h
theorem v_ty_ref {p : Addr} {ds : List D} (e : M p = some (.lst ds)) : tyD "list" (.ref p) M := by
  show (match M p with | some (.lst _) => "list" = "list" | _ => False)
  rw [e]
theorem v_append {p : Addr} {ds : List D} {y : D} (e : M p = some (.lst ds)) (l : ds.length < sizeLine) (h : Q .non (mup M p (.lst (ds ++ [y])))) : appendD (.ref p) [y] M Q := by
  show (match M p with | some (.lst ds) => ds.length < sizeLine ∧ Q .non (mup M p (.lst (ds ++ [y]))) | _ => False)
  rw [e]; exact ⟨l, h⟩
theorem v_extend {p b : Addr} {ds es : List D} (e : M p = some (.lst ds)) (e2 : M b = some (.lst es)) (l : ds.length + es.length ≤ sizeLine) (h : Q .non (mup M p (.lst (ds ++ es)))) : extendD (.ref p) [.ref b] M Q := by
  show (match M p, M b with | some (.lst ds), some (.lst es) => ds.length + es.length ≤ sizeLine ∧ Q .non (mup M p (.lst (ds ++ es))) | _, _ => False)
  rw [e, e2]; exact ⟨l, h⟩
theorem v_join {z : Str} {x : D} {ds : List D} {ys : List Str} (e : itemsD x M = some ds) (e2 : strsOf ds = some ys) (l : (ys.map (·.length)).sum + ys.length * z.length ≤ 16777216) (h : Q (.str (Txt.join z ys)) M) : joinD (.str z) [x] M Q := by
  show (match itemsD x M with | some ds => (match strsOf ds with | some ys => (ys.map (·.length)).sum + ys.length * z.length ≤ 16777216 ∧ Q (.str (Txt.join z ys)) M | none => False) | none => False)
  rw [e]
  show (match strsOf ds with | some ys => (ys.map (·.length)).sum + ys.length * z.length ≤ 16777216 ∧ Q (.str (Txt.join z ys)) M | none => False)
  rw [e2]; exact ⟨l, h⟩
theorem v_sl_str {z : Str} {lo hi : Option Int} (l : z.length ≤ sizeLine) (h : Q (.str (cutS z lo hi)) M) : slD (.str z) lo hi M Q := ⟨l, h⟩
theorem v_sl_tup {ds : List D} {lo hi : Option Int} (h : Q (.tup (cutD ds lo hi)) M) : slD (.tup ds) lo hi M Q := h
theorem v_sl_rol {ds : List D} {lo hi : Option Int} (h : ∀ p, M p = none → Q (.ref p) (mup M p (.lst (cutD ds lo hi)))) : slD (.rol ds) lo hi M Q := h
theorem v_sl_ref {p : Addr} {ds : List D} {lo hi : Option Int} (e : M p = some (.lst ds)) (h : ∀ l, M l = none → Q (.ref l) (mup M l (.lst (cutD ds lo hi)))) : slD (.ref p) lo hi M Q := by
  show (match M p with | some (.lst ds) => ∀ l, M l = none → Q (.ref l) (mup M l (.lst (cutD ds lo hi))) | _ => False)
  rw [e]; exact h
theorem v_in_str {i j : Str} (h : R (strIn i j)) : inD (.str i) (.str j) M R := h
theorem v_nin_str {i j : Str} (h : R (!strIn i j)) : ninD (.str i) (.str j) M R := h
theorem strIn_one {c : Nat} {z : Str} : strIn ⟨#[c]⟩ z = decide (c ∈ z.cps.toList) := (PySem.StrLaws.found_one z c)
theorem v_seq_tup {ds : List D} {S : List D → (Mh → Prop) → Mh → Prop} (h : S ds (fun _ => True) M) : seqP (.tup ds) M S := h
theorem v_seq_rol {ds : List D} {S : List D → (Mh → Prop) → Mh → Prop} (h : S ds (fun _ => True) M) : seqP (.rol ds) M S := h
theorem v_seq_str {z : Str} {S : List D → (Mh → Prop) → Mh → Prop} (h : S (z.cps.toList.map fun c => .str ⟨#[c]⟩) (fun _ => True) M) : seqP (.str z) M S := h
theorem v_seq_ref {p : Addr} {ds : List D} {S : List D → (Mh → Prop) → Mh → Prop} (e : M p = some (.lst ds)) (h : S ds (fun M' => M' p = some (.lst ds)) M) : seqP (.ref p) M S := by
  show (match M p with | some (.lst ds) => S ds (fun M' => M' p = some (.lst ds)) M | _ => False)
  rw [e]; exact h
theorem v_ix_ktp {ds : List D} {i : Int} {d : D} (e : atI ds i = some d) (h : Q d M) : ixD (.ktp ds) (.int i) M Q := by
  show (match atI ds i with | some d => Q d M | none => False)
  rw [e]; exact h
theorem v_len_ktp {ds : List D} (h : Q (.int ds.length) M) : lenD [.ktp ds] M Q := h
theorem v_tuple_ktp {ds : List D} (h : Q (.ktp ds) M) : tupleD [.ktp ds] M Q := h
theorem v_isi_ktp {T : String} {b : List D} (h : Q (.bl (T == "tuple")) M) : isiD T (.ktp b) M Q := h
theorem v_tru_ktp {ds : List D} (h : R (!ds.isEmpty)) : truD (.ktp ds) M R := h
theorem v_list_ktp {ds : List D} (h : ∀ p, M p = none → Q (.ref p) (mup M p (.lst ds))) : listD [.ktp ds] M Q := h
theorem t_gTk {n : Nat} {g : DGs} {ds : List D} {ρ : Ev} {R : Ev → Mh → Prop} (l : ds.length = n) (h : g ds ρ M R) : gT n g (.ktp ds) ρ M R := ⟨l, h⟩
/-! zip, index -/
theorem t_zip {a b : DT} {ρ : Ev} {R : List D → (Mh → Prop) → Mh → Prop} (h : a ρ M fun x M1 => b ρ M1 fun y M2 => zipP x y M2 R) : iZip2 a b ρ M R := h
theorem v_zip_tt {as bs : List D} {R : List D → (Mh → Prop) → Mh → Prop} (h : R (zipD as bs) (fun _ => True) M) : zipP (.tup as) (.tup bs) M R := h
theorem v_zip_tk {as bs : List D} {R : List D → (Mh → Prop) → Mh → Prop} (h : R (zipD as bs) (fun _ => True) M) : zipP (.tup as) (.ktp bs) M R := h
theorem v_zip_kt {as bs : List D} {R : List D → (Mh → Prop) → Mh → Prop} (h : R (zipD as bs) (fun _ => True) M) : zipP (.ktp as) (.tup bs) M R := h
theorem v_zip_kk {as bs : List D} {R : List D → (Mh → Prop) → Mh → Prop} (h : R (zipD as bs) (fun _ => True) M) : zipP (.ktp as) (.ktp bs) M R := h
theorem v_zip_ll {p q : Addr} {as bs : List D} {R : List D → (Mh → Prop) → Mh → Prop} (e1 : M p = some (.lst as)) (e2 : M q = some (.lst bs)) (h : R (zipD as bs) (fun M' => lchk (.ref p) M M' ∧ lchk (.ref q) M M') M) : zipP (.ref p) (.ref q) M R := by
  show (match litemsD (.ref p) M, litemsD (.ref q) M with | some as, some bs => R (zipD as bs) (fun M' => lchk (.ref p) M M' ∧ lchk (.ref q) M M') M | _, _ => False)
  rw [litems_ref e1, litems_ref e2]; exact h
theorem lchk_ref {p : Addr} {M' : Mh} {ds : List D} (e : M p = some (.lst ds)) (e2 : M' p = some (.lst ds)) : lchk (.ref p) M M' := by
  unfold lchk
  rw [litems_ref e, litems_ref e2]
theorem t_ix {o a : DT} {ρ : Ev} (h : o ρ M fun x M1 => seqK x M1 ∧ a ρ M1 fun y M2 => indexD x y M2 Q) : eIx o a ρ M Q := h
theorem seqK_ref {p : Addr} {ds : List D} (e : M p = some (.lst ds)) : seqK (.ref p) M := by
  show (match M p with | some (.lst _) => True | _ => False)
  rw [e]; trivial
theorem v_index_k {ds : List D} {y : D} {j : Nat} {z : D} (o1 : okD (.tup ds) = true) (o2 : okD y = true) (hz : ds[j]? = some z) (he : deq z y = true) (hn : ∀ m z', m < j → ds[m]? = some z' → deq z' y = false) (h : Q (.int (j : Nat)) M) : indexD (.ktp ds) y M Q :=
  ⟨ds, j, z, rfl, o1, o2, hz, he, hn, h⟩
theorem v_index_l {p : Addr} {ds : List D} {y : D} {j : Nat} {z : D} (e : M p = some (.lst ds)) (o1 : okD (.tup ds) = true) (o2 : okD y = true) (hz : ds[j]? = some z) (he : deq z y = true) (hn : ∀ m z', m < j → ds[m]? = some z' → deq z' y = false) (h : Q (.int (j : Nat)) M) : indexD (.ref p) y M Q :=
  ⟨ds, j, z, litems_ref e, o1, o2, hz, he, hn, h⟩
def lrD (x : D) (M : Mh) (Q : PQ) : Prop := match x with
  | .int j => (-(2 ^ 62) ≤ j ∧ j ≤ 16777216) ∧ ∀ p, M p = none → Q (.ref p) (mup M p (.lst (rngI 0 j.toNat)))
  | _ => False
theorem t_lr {a : DT} {ρ : Ev} (h : a ρ M fun x M1 => lrD x M1 Q) : eLr a ρ M Q := h
theorem v_seq_ktp {ds : List D} {S : List D → (Mh → Prop) → Mh → Prop} (h : S ds (fun _ => True) M) : seqP (.ktp ds) M S := h
theorem t_ite {c : Bool} {A B : Prop} (h1 : c = true → A) (h2 : c = false → B) : if c = true then A else B := by
  cases c
  · rw [if_neg Bool.false_ne_true]; exact h2 rfl
  · rw [if_pos rfl]; exact h1 rfl
theorem t_if0 {c : Bool} {A B : Prop} (e : c = false) (h : B) : if c = true then A else B := by rw [e, if_neg Bool.false_ne_true]; exact h
theorem t_if1 {c : Bool} {A B : Prop} (e : c = true) (h : A) : if c = true then A else B := by rw [e, if_pos rfl]; exact h
theorem v_isi_non {T : String} (h : Q (.bl false) M) : isiD T .non M Q := h
theorem v_isi_bl {T : String} {b : Bool} (h : Q (.bl (T == "bool" || T == "int")) M) : isiD T (.bl b) M Q := h
theorem v_isi_int {T : String} {b : Int} (h : Q (.bl (T == "int")) M) : isiD T (.int b) M Q := h
theorem v_isi_str {T : String} {b : Str} (h : Q (.bl (T == "str")) M) : isiD T (.str b) M Q := h
theorem v_isi_tup {T : String} {b : List D} (h : Q (.bl (T == "tuple")) M) : isiD T (.tup b) M Q := h
theorem v_in_tup {x : D} {ds : List D} (f : inOk x ds) (h : R (memD x ds)) : inD x (.tup ds) M R := by
  cases x <;> exact ⟨f, h⟩
theorem v_nin_tup {x : D} {ds : List D} (f : inOk x ds) (h : R (!memD x ds)) : ninD x (.tup ds) M R := by
  cases x <;> exact ⟨f, h⟩
theorem v_in_ktp {x : D} {ds : List D} (f : inOk x ds) (h : R (memD x ds)) : inD x (.ktp ds) M R := by
  cases x <;> exact ⟨f, h⟩
theorem v_nin_ktp {x : D} {ds : List D} (f : inOk x ds) (h : R (!memD x ds)) : ninD x (.ktp ds) M R := by
  cases x <;> exact ⟨f, h⟩
theorem v_in_ref {x : D} {p : Addr} {ds : List D} (e : M p = some (.lst ds)) (f : inOk x ds) (h : R (memD x ds)) : inD x (.ref p) M R := by
  unfold inD
  rw [dict_lst e]
  have e2 := items_ref e
  cases x <;> (show (match itemsD (.ref p) M with | some ys => inOk _ ys ∧ R (memD _ ys) | none => False)) <;> rw [e2] <;> exact ⟨f, h⟩
theorem v_nin_ref {x : D} {p : Addr} {ds : List D} (e : M p = some (.lst ds)) (f : inOk x ds) (h : R (!memD x ds)) : ninD x (.ref p) M R := v_in_ref (R := fun k => R (!k)) e f h
theorem v_sorted {p : Addr} {ds : List D} (e : M p = some (.lst ds)) (sk : SortK ds) (h : ∀ ys q, ys.Perm ds → ys.Pairwise (fun a b => ¬ (eD b < eD a)) → M q = none → Q (.ref q) (mup M q (.lst ys))) : sortedD [.ref p] M Q := by
  show (match litemsD (.ref p) M with | some ds => SortK ds ∧ ∀ ys q, ys.Perm ds → ys.Pairwise (fun a b => ¬ (eD b < eD a)) → M q = none → Q (.ref q) (mup M q (.lst ys)) | none => False)
  rw [litems_ref e]; exact ⟨sk, h⟩
theorem v_maxl {p : Addr} {ds : List D} {ns : List Int} (e : M p = some (.lst ds)) (e2 : intsOf ds = some ns) (l : 0 < ns.length) (h : ∀ m, m ∈ ns → (∀ y, y ∈ ns → y ≤ m) → Q (.int m) M) : maxD [.ref p] M Q := by
  show (match litemsD (.ref p) M with | some ds => (match intsOf ds with | some ns => 0 < ns.length ∧ ∀ m, m ∈ ns → (∀ y, y ∈ ns → y ≤ m) → Q (.int m) M | none => False) | none => False)
  rw [litems_ref e]
  show (match intsOf ds with | some ns => 0 < ns.length ∧ ∀ m, m ∈ ns → (∀ y, y ∈ ns → y ≤ m) → Q (.int m) M | none => False)
  rw [e2]; exact ⟨l, h⟩
theorem v_minl {p : Addr} {ds : List D} {ns : List Int} (e : M p = some (.lst ds)) (e2 : intsOf ds = some ns) (l : 0 < ns.length) (h : ∀ m, m ∈ ns → (∀ y, y ∈ ns → m ≤ y) → Q (.int m) M) : minD [.ref p] M Q := by
  show (match litemsD (.ref p) M with | some ds => (match intsOf ds with | some ns => 0 < ns.length ∧ ∀ m, m ∈ ns → (∀ y, y ∈ ns → m ≤ y) → Q (.int m) M | none => False) | none => False)
  rw [litems_ref e]
  show (match intsOf ds with | some ns => 0 < ns.length ∧ ∀ m, m ∈ ns → (∀ y, y ∈ ns → m ≤ y) → Q (.int m) M | none => False)
  rw [e2]; exact ⟨l, h⟩
theorem t_dct_k (h : ∀ p, M p = none → Q (.ref p) (mup M p (.dk []))) : eDct ρ M Q := .inl h
theorem t_dct_t (h : ∀ p, M p = none → Q (.ref p) (mup M p (.dt []))) : eDct ρ M Q := .inr h
theorem t_d1 {e : DT} (h : ∀ p, M p = none → a ρ (mup M p (.dk [])) fun x M1 => e ρ M1 fun y M2 => M2 p = some (.dk []) ∧ match keyD x with
  | some k => Q (.ref p) (mup M2 p (.dk [(k, y)]))
  | none => False) : eD1 a e ρ M Q := h
theorem t_ks (h : a ρ M fun x M1 => keysLD x M1 Q) : eKs a ρ M Q := h
theorem t_vs {a : DT} {ρ : Ev} {M : Mh} {Q : PQ} (h : a ρ M fun x M1 => valsLD x M1 Q) : eVs a ρ M Q := h
theorem t_rv (h : a ρ M fun x M1 => match itemsD x M1 with
  | some ds => ∀ p, M1 p = none → Q (.ref p) (mup M1 p (.lst ds.reverse))
  | none => False) : eRv a ρ M Q := h
theorem t_tr (h : a ρ M fun x M1 => match itemsD x M1 with
  | some ds => Q (.tup ds.reverse) M1
  | none => False) : eTr a ρ M Q := h
theorem t_rg3 {R : List D → (Mh → Prop) → Mh → Prop} (h : wa ρ M fun xs M1 => match xs with
  | [.int i, .int j, .int c] => (0 ≤ i ∧ i < 1073741824 ∧ 0 ≤ j ∧ j < 1073741824 ∧ 0 < c ∧ c < 1073741824) ∧ R (rngC i c (stepN i j c)) (fun _ => True) M1
  | _ => False) : iRg3 wa ρ M R := h
theorem v_ty_str {z : Str} : tyD "str" (.str z) M := rfl
theorem v_eq_tup {xs ys : List D} (f : okD (.tup xs) = true ∧ okD (.tup ys) = true) (h : R (deq (.tup xs) (.tup ys))) : eqD (.tup xs) (.tup ys) M R := .inl ⟨.inr f, h⟩
theorem rol_ints : ∀ ns : List Int, PyData.canLayAll0 (pds (ns.map D.int)) = true ∧ PyData.depthAll (pds (ns.map D.int)) ≤ 1
  | [] => by simp [pds, PyData.canLayAll0, PyData.depthAll]
  | n :: r => by
    obtain ⟨i1, i2⟩ := rol_ints r
    simp only [List.map_cons, pds, pd, PyData.canLayAll0, PyData.canLay0, PyData.depthAll, PyData.depth, i1, Bool.true_and, true_and]
    omega
theorem okD_ints (ns : List Int) : okD (.rol (ns.map D.int)) = true := by
  obtain ⟨i1, i2⟩ := rol_ints ns
  unfold okD SeqAt.shaped
  simp only [pd, PyData.canLay0, PyData.depth, i1, Bool.true_and, decide_eq_true_eq]
  omega
theorem deq_ints : ∀ ns ms : List Int, deq (.rol (ns.map D.int)) (.rol (ms.map D.int)) = decide (ns = ms)
  | [], [] => rfl
  | [], m :: s => by simp [deq, pd, pds, PyData.eqv, PyData.eqvAll]
  | n :: r, [] => by simp [deq, pd, pds, PyData.eqv, PyData.eqvAll]
  | n :: r, m :: s => by
    have := deq_ints r s
    simp only [deq, pd, PyData.eqv] at this
    simp only [deq, List.map_cons, pd, pds, PyData.eqv, PyData.eqvAll, this]
    by_cases h : n = m <;> by_cases h2 : r = s <;> simp [h, h2]
theorem v_ne_ints {p q : Addr} {ns ms : List Int} (e : M p = some (.lst (ns.map D.int))) (e2 : M q = some (.lst (ms.map D.int))) (h : R (!decide (ns = ms))) : neD (.ref p) (.ref q) M R :=
  .inr ⟨_, _, litems_ref e, litems_ref e2, ⟨okD_ints ns, okD_ints ms⟩, by rw [deq_ints]; exact h⟩
theorem v_eq_ints {p q : Addr} {ns ms : List Int} (e : M p = some (.lst (ns.map D.int))) (e2 : M q = some (.lst (ms.map D.int))) (h : R (decide (ns = ms))) : eqD (.ref p) (.ref q) M R :=
  .inr ⟨_, _, litems_ref e, litems_ref e2, ⟨okD_ints ns, okD_ints ms⟩, by rw [deq_ints]; exact h⟩
theorem CMul.r {i j : Int} (h : -(2 ^ 64) < j ∧ j < 2 ^ 64) : CMul i j := .inr h
theorem CMul.l {i j : Int} (h : -(2 ^ 64) < i ∧ i < 2 ^ 64) : CMul i j := .inl h
end

/-! ### heaps -/
theorem mup_mup {M : Mh} {a : Addr} {o o' : MO} : mup (mup M a o) a o' = mup M a o' := by
  funext b; unfold mup; split <;> rfl
theorem ne_free {M : Mh} {a p : Addr} {o : MO} (h : M a = some o) (n : M p = none) : a ≠ p := fun e => by rw [e, n] at h; cases h
/-- elsewhere as it was -/
def MKeep (S : Addr → Prop) (M M' : Mh) : Prop := ∀ a o, ¬ S a → M a = some o → M' a = some o
theorem MKeep.refl {S : Addr → Prop} {M : Mh} : MKeep S M M := fun _ _ _ h => h
theorem MKeep.trans {S : Addr → Prop} {M M1 M2 : Mh} (x : MKeep S M M1) (y : MKeep S M1 M2) : MKeep S M M2 := fun a o n h => y a o n (x a o n h)
theorem MKeep.fresh {S : Addr → Prop} {M : Mh} {p : Addr} {o : MO} (n : M p = none) : MKeep S M (mup M p o) := fun a o _ h => by rw [mup_ne (ne_free h n)]; exact h
theorem MKeep.put {S : Addr → Prop} {M : Mh} {p : Addr} {o : MO} (h : S p) : MKeep S M (mup M p o) := fun a o n q => by rw [mup_ne fun e => n (by rw [e]; exact h)]; exact q
theorem MKeep.mono {S S' : Addr → Prop} {M M1 : Mh} (x : MKeep S M M1) (h : ∀ a, S a → S' a) : MKeep S' M M1 := fun a o n q => x a o (fun z => n (h a z)) q
theorem MKeep.over {S : Addr → Prop} {M M' : Mh} {p : Addr} {o : MO} (x : MKeep S M M') (n : M p = none) : MKeep S M (mup M' p o) := fun a q h e => by rw [mup_ne (ne_free e n)]; exact x a q h e
abbrev MExt (M M' : Mh) : Prop := MKeep (fun _ => False) M M'

/-! ### loops by what holds of them -/
theorem for_each {g : DG} {b : DS} {chk : Mh → Prop} {P : De} {items : List D} {ρ : Ev} {M : Mh} (I : Nat → Ev → Mh → Prop) (h0 : I 0 ρ M)
    (step : ∀ (N : Ev → Mh → Prop) (i : Nat) (d : D) (ρ : Ev) (M : Mh), items[i]? = some d → I i ρ M → (∀ ρ' M', I (i + 1) ρ' M' → N ρ' M') → chk M ∧ g d ρ M fun ρ1 M1 => b { P with nx := N, ct := N, bk := P.nx } ρ1 M1)
    (fin : ∀ ρ M, I items.length ρ M → chk M ∧ P.nx ρ M) : forD g b chk P items ρ M := by
  have go : ∀ (l : List D) (i : Nat) (ρ : Ev) (M : Mh), items.drop i = l → i ≤ items.length → I i ρ M → forD g b chk P l ρ M := by
    intro l
    induction l with
    | nil =>
      intro i ρ M e hi h
      have : i = items.length := by
        have := congrArg List.length e
        simp at this
        omega
      subst this
      exact fin ρ M h
    | cons d l ih =>
      intro i ρ M e hi h
      have hl : i < items.length := by
        have := congrArg List.length e
        simp at this
        omega
      have e1 : items[i]? = some d := by
        have := congrArg (·[0]?) e
        simpa using this
      have e2 : items.drop (i + 1) = l := by
        rw [show i + 1 = i + 1 from rfl, ← List.drop_drop, e]; rfl
      exact step _ i d ρ M e1 h fun ρ' M' h' => ih (i + 1) ρ' M' e2 hl h'
  exact go items 0 ρ M rfl (Nat.zero_le _) h0
theorem while_each {c : DB} {b : DS} {P : De} {ρ : Ev} {M : Mh} (I : Nat → Ev → Mh → Prop) (m : Nat) (h0 : I m ρ M)
    (step : ∀ (N : Ev → Mh → Prop) (m : Nat) (ρ : Ev) (M : Mh), I m ρ M → (∀ m' ρ' M', m' < m → I m' ρ' M' → N ρ' M') → c ρ M fun t M1 => if t = true then b { P with nx := N, ct := N, bk := P.nx } ρ M1 else P.nx ρ M1) : sWh c b P ρ M := by
  have go : ∀ (n m : Nat) (ρ : Ev) (M : Mh), m < n → I m ρ M → whileD c b P n ρ M := by
    intro n
    induction n with
    | zero => intro m ρ M h; omega
    | succ n ih => intro m ρ M h hI; exact step _ m ρ M hI fun m' ρ' M' h' hI' => ih m' ρ' M' (by omega) hI'
  exact ⟨m + 1, go (m + 1) m ρ M (Nat.lt_succ_self m) h0⟩
/-- a comprehension without a test -/
theorem lc_each {t : Tg} {te : DT} {chk : Mh → Prop} {ρ : Ev} {Q : PQ} {items : List D} {M : Mh} {p : Addr} (I : Nat → List D → Mh → Prop) (hz : items.length < sizeLine) (hp : M p = some (.lst [])) (h0 : I 0 [] M)
    (step : ∀ (R : PQ) (i : Nat) (d : D) (acc : List D) (M : Mh), items[i]? = some d → acc.length = i → I i acc M → M p = some (.lst acc) → (∀ y M2, M2 p = some (.lst acc) → I (i + 1) (acc ++ [y]) (mup M2 p (.lst (acc ++ [y]))) → R y M2) →
      chk M ∧ ∃ ρ1, tgD t d ρ = some ρ1 ∧ te ρ1 M R)
    (fin : ∀ acc M, acc.length = items.length → I items.length acc M → M p = some (.lst acc) → chk M ∧ Q (.ref p) M) : lcLoop p chk t bYes te ρ Q items M := by
  have go : ∀ (l : List D) (i : Nat) (acc : List D) (M : Mh), items.drop i = l → i ≤ items.length → acc.length = i → I i acc M → M p = some (.lst acc) → lcLoop p chk t bYes te ρ Q l M := by
    intro l
    induction l with
    | nil =>
      intro i acc M e hi ha h hp
      have : i = items.length := by
        have := congrArg List.length e
        simp at this
        omega
      subst this
      exact fin acc M ha h hp
    | cons d l ih =>
      intro i acc M e hi ha h hp
      have hl : i < items.length := by
        have := congrArg List.length e
        simp at this
        omega
      have e1 : items[i]? = some d := by
        have := congrArg (·[0]?) e
        simpa using this
      have e2 : items.drop (i + 1) = l := by
        rw [show i + 1 = i + 1 from rfl, ← List.drop_drop, e]; rfl
      obtain ⟨hc, ρ1, ht, hw⟩ := step (fun y M2 => match M2 p with
        | some (.lst acc) => acc.length < sizeLine ∧ lcLoop p chk t bYes te ρ Q l (mup M2 p (.lst (acc ++ [y])))
        | _ => False) i d acc M e1 ha h hp (fun y M2 hp2 h2 => by
          simp only [hp2]
          exact ⟨by omega, ih (i + 1) (acc ++ [y]) _ e2 hl (by simp [ha]) h2 mup_same⟩)
      refine ⟨hc, ?_⟩
      rw [ht]
      unfold bYes
      dsimp only
      rw [if_pos rfl]
      exact hw
  exact go items 0 [] M rfl (Nat.zero_le _) rfl h0 hp
/-- .. with a test -/
theorem lc_eachT {t : Tg} {tt : DB} {te : DT} {chk : Mh → Prop} {ρ : Ev} {Q : PQ} {items : List D} {M : Mh} {p : Addr} (I : Nat → List D → Mh → Prop) (hz : items.length < sizeLine) (hp : M p = some (.lst [])) (h0 : I 0 [] M)
    (step : ∀ (R : PQ) (S : Mh → Prop) (i : Nat) (d : D) (acc : List D) (M : Mh), items[i]? = some d → acc.length ≤ i → I i acc M → M p = some (.lst acc) → (∀ y M2, M2 p = some (.lst acc) → I (i + 1) (acc ++ [y]) (mup M2 p (.lst (acc ++ [y]))) → R y M2) →
      (∀ M2, M2 p = some (.lst acc) → I (i + 1) acc M2 → S M2) → chk M ∧ ∃ ρ1, tgD t d ρ = some ρ1 ∧ tt ρ1 M fun k M1 => if k = true then te ρ1 M1 R else S M1)
    (fin : ∀ acc M, acc.length ≤ items.length → I items.length acc M → M p = some (.lst acc) → chk M ∧ Q (.ref p) M) : lcLoop p chk t tt te ρ Q items M := by
  have go : ∀ (l : List D) (i : Nat) (acc : List D) (M : Mh), items.drop i = l → i ≤ items.length → acc.length ≤ i → I i acc M → M p = some (.lst acc) → lcLoop p chk t tt te ρ Q l M := by
    intro l
    induction l with
    | nil =>
      intro i acc M e hi ha h hp
      have : i = items.length := by
        have := congrArg List.length e
        simp at this
        omega
      subst this
      exact fin acc M ha h hp
    | cons d l ih =>
      intro i acc M e hi ha h hp
      have hl : i < items.length := by
        have := congrArg List.length e
        simp at this
        omega
      have e1 : items[i]? = some d := by
        have := congrArg (·[0]?) e
        simpa using this
      have e2 : items.drop (i + 1) = l := by
        rw [show i + 1 = i + 1 from rfl, ← List.drop_drop, e]; rfl
      obtain ⟨hc, ρ1, ht, hw⟩ := step (fun y M2 => match M2 p with
        | some (.lst acc) => acc.length < sizeLine ∧ lcLoop p chk t tt te ρ Q l (mup M2 p (.lst (acc ++ [y])))
        | _ => False) (fun M2 => lcLoop p chk t tt te ρ Q l M2) i d acc M e1 ha h hp (fun y M2 hp2 h2 => by
          simp only [hp2]
          exact ⟨by omega, ih (i + 1) (acc ++ [y]) _ e2 hl (by simp; omega) h2 mup_same⟩) (fun M2 hp2 h2 => ih (i + 1) acc M2 e2 hl (by omega) h2 hp2)
      refine ⟨hc, ?_⟩
      rw [ht]
      exact hw
  exact go items 0 [] M rfl (Nat.zero_le _) (Nat.le_refl _) h0 hp

/-! ### items -/
theorem atI_mem {α : Type} {ds : List α} {k : Int} (h0 : 0 ≤ k) (h1 : k < ds.length) : ∃ d, atI ds k = some d ∧ d ∈ ds ∧ ds[k.toNat]? = some d := by
  have h2 : k.toNat < ds.length := by omega
  refine ⟨ds[k.toNat], ?_, List.getElem_mem h2, List.getElem?_eq_getElem h2⟩
  unfold atI ixN
  rw [if_pos h0, if_pos h1]
  exact List.getElem?_eq_getElem h2
theorem atI_get? {α : Type} {ds : List α} {k : Int} {d : α} (h0 : 0 ≤ k) (h : ds[k.toNat]? = some d) : atI ds k = some d := by
  have h2 := (List.getElem?_eq_some_iff.mp h).1
  unfold atI ixN
  rw [if_pos h0, if_pos (by omega)]
  exact h
theorem intsOf_map (ns : List Int) : intsOf (ns.map D.int) = some ns := by
  induction ns with
  | nil => rfl
  | cons n r ih => simp [intsOf, ih]
theorem strsOf_map (ns : List Str) : strsOf (ns.map D.str) = some ns := by
  induction ns with
  | nil => rfl
  | cons n r ih => simp [strsOf, ih]

/-! ### texts as lists of signs -/
def st (l : List Nat) : Str := ⟨l.toArray⟩
theorem st_cps (l : List Nat) : (st l).cps.toList = l := by simp [st]
theorem st_len (l : List Nat) : (st l).length = l.length := by simp [st, Str.length]
theorem st_of (z : Str) : z = st z.cps.toList := by cases z; simp [st]
theorem st_app (l r : List Nat) : st l ++ st r = st (l ++ r) := by
  show (⟨l.toArray ++ r.toArray⟩ : Str) = ⟨(l ++ r).toArray⟩
  simp
theorem st_inj {l r : List Nat} (h : st l = st r) : l = r := by
  have := congrArg (fun z : Str => z.cps.toList) h
  simpa [st] using this
theorem st_beq (l r : List Nat) : (st l == st r) = (l == r) := by
  by_cases h : l = r
  · subst h; simp
  · have : st l ≠ st r := fun e => h (st_inj e)
    rw [beq_eq_false_iff_ne.mpr this, beq_eq_false_iff_ne.mpr h]
theorem st_one (c : Nat) : (⟨#[c]⟩ : Str) = st [c] := rfl
theorem st_cut (l : List Nat) (lo hi : Option Int) : cutS (st l) lo hi = st ((l.drop (HT.sIx l.length 0 lo)).take (HT.sIx l.length l.length hi - HT.sIx l.length 0 lo)) := by
  unfold cutS
  rw [st_cps, st_len]; rfl
theorem st_cut_nat (l : List Nat) (i j : Nat) : cutS (st l) (some (i : Int)) (some (j : Int)) = st ((l.drop i).take (j - i)) := by
  rw [st_cut, HT.sIx_nat, HT.sIx_nat]
  congr 1
  by_cases h : i ≤ l.length
  · rw [Nat.min_eq_left h]
    by_cases h2 : j ≤ l.length
    · rw [Nat.min_eq_left h2]
    · rw [Nat.min_eq_right (show l.length ≤ j by omega), List.take_of_length_le (by simp), List.take_of_length_le (by simp; omega)]
  · rw [Nat.min_eq_right (show l.length ≤ i by omega), List.drop_of_length_le (Nat.le_refl _), List.drop_of_length_le (show l.length ≤ i by omega)]
    simp
theorem st_take (l : List Nat) (j : Nat) : cutS (st l) none (some (j : Int)) = st (l.take j) := by
  rw [st_cut, HT.sIx_none, HT.sIx_nat, List.drop_zero, Nat.sub_zero]
  congr 1
  by_cases h : j ≤ l.length
  · rw [Nat.min_eq_left h]
  · rw [Nat.min_eq_right (show l.length ≤ j by omega), List.take_length, List.take_of_length_le (show l.length ≤ j by omega)]
theorem st_drop (l : List Nat) (i : Nat) : cutS (st l) (some (i : Int)) none = st (l.drop i) := by
  rw [st_cut, HT.sIx_none, HT.sIx_nat]
  congr 1
  by_cases h : i ≤ l.length
  · rw [Nat.min_eq_left h, List.take_of_length_le (by simp)]
  · rw [Nat.min_eq_right (by omega), List.drop_of_length_le (Nat.le_refl _), List.drop_of_length_le (show l.length ≤ i by omega)]
    simp

/-! ### more of texts and items -/
theorem st_push (c : Nat) : (⟨#[c]⟩ : Str) = st [c] := rfl
def lit (z : Str) : List Nat := z.cps.toList
theorem lit_st (l : List Nat) : lit (st l) = l := st_cps l
theorem st_lit (z : Str) : st (lit z) = z := (st_of z).symm
theorem lit_len (z : Str) : (lit z).length = z.length := by simp [lit, Str.length]
theorem atI_map {α : Type} {zs : List α} {f : α → D} {k : Int} (h0 : 0 ≤ k) (h1 : k < zs.length) : ∃ z, z ∈ zs ∧ atI (zs.map f) k = some (f z) := by
  obtain ⟨d, h2, h3, h4⟩ := atI_mem (ds := zs) h0 h1
  refine ⟨d, h3, atI_get? h0 ?_⟩
  rw [List.getElem?_map, h4]; rfl
theorem atI_end {α : Type} (ds : List α) (d : α) : atI (ds ++ [d]) (((ds ++ [d]).length : Int) - 1) = some d := by
  have e : (((ds ++ [d]).length : Int) - 1) = ((ds.length : Nat) : Int) := by simp
  rw [e]
  exact atI_nat (by simp)
theorem ixN_end {α : Type} (ds : List α) (d : α) : ixN (ds ++ [d]).length (((ds ++ [d]).length : Int) - 1) = some ds.length := by
  have e : (((ds ++ [d]).length : Int) - 1) = ((ds.length : Nat) : Int) := by simp
  rw [e]
  unfold ixN
  rw [if_pos (Int.natCast_nonneg _), if_pos (by rw [List.length_append]; simp; omega)]
  simp
/-- texts of small signs: data that == takes -/
def small (l : List Nat) : Prop := ∀ c ∈ l, c < 128
theorem strOk_small {l : List Nat} (h : small l) : PyData.strOk (st l) = true := by
  unfold PyData.strOk st
  simp only [List.all_toArray, List.all_eq_true, decide_eq_true_eq]
  intro c hc
  have := h c hc
  omega
theorem okD_strs {ts : List (List Nat)} (h : ∀ t ∈ ts, small t) : okD (.tup (ts.map fun t => .str (st t))) = true := by
  have h1 : ∀ ts : List (List Nat), (∀ t ∈ ts, small t) → PyData.canLayAll0 (pds (ts.map fun t => .str (st t))) = true ∧ PyData.depthAll (pds (ts.map fun t => .str (st t))) ≤ 1 := by
    intro ts
    induction ts with
    | nil => intro _; simp [pds, PyData.canLayAll0, PyData.depthAll]
    | cons t r ih =>
      intro h
      obtain ⟨i1, i2⟩ := ih fun x hx => h x (List.mem_cons_of_mem _ hx)
      have := strOk_small (h t List.mem_cons_self)
      simp only [List.map_cons, pds, pd, PyData.canLayAll0, PyData.canLay0, PyData.depthAll, PyData.depth, this, i1, Bool.true_and, true_and]
      omega
  obtain ⟨i1, i2⟩ := h1 ts h
  unfold okD SeqAt.shaped
  simp only [pd, PyData.canLay0, PyData.depth, i1, Bool.true_and, decide_eq_true_eq]
  omega
theorem deq_refl (x : D) (h : okD x = true) : deq x x = true := SeqAt.eqv_refl _ (SeqAt.canLay_of_shaped h)

/-! ### texts joined -/
theorem glue_fold (g : Array Nat) : ∀ (ps : List Str) (a : Array Nat), (ps.foldl (fun acc p => acc ++ g ++ p.cps) a).toList = a.toList ++ ps.flatMap fun q => g.toList ++ lit q
  | [], a => by simp
  | p :: ps, a => by
    rw [List.foldl_cons, glue_fold g ps]
    simp [lit]
theorem join_lit (z p : Str) (ps : List Str) : lit (Txt.join z (p :: ps)) = lit p ++ ps.flatMap fun q => lit z ++ lit q := by
  show (((p :: ps).drop 1).foldl (fun acc p => acc ++ z.cps ++ p.cps) ((p :: ps).headD Str.empty).cps).toList = _
  rw [glue_fold]; rfl
theorem join_nil (z : Str) : Txt.join z [] = st [] := rfl
theorem join_empty (ys : List Str) : lit (Txt.join "" ys) = ys.flatMap lit := by
  cases ys with
  | nil => rfl
  | cons p ps =>
    rw [join_lit]
    have : lit (("" : String) : Str) = [] := by decide +kernel
    simp [this]
theorem str_ext {x y : Str} (h : lit x = lit y) : x = y := by
  rw [← st_lit x, ← st_lit y, h]
end DL
/-! DLq: the draws that every law has: a cell of the script, a jar, a pick. -/
namespace DL
open PySem L2
-- what the heap holds at a place
local macro_rules | `(tactic| walk_at "h") => `(tactic| first
  | assumption
  | exact mup_same
  | (refine (mup_ne ?_).trans ?_ <;> first | assumption | (apply Ne.symm; assumption) | walk_at "h"))
-- small facts of numbers
local macro_rules | `(tactic| walk_at "n") => `(tactic| first
  | assumption
  | omega
  | decide
  | (exact CMul.r (by decide))
  | (exact CMul.l (by decide))
  | (refine ⟨?_, ?_⟩ <;> first | assumption | omega | decide))
-- lengths
local macro_rules | `(tactic| walk_at "l") => `(tactic| first
  | assumption
  | (rw [sizeLine_eq]; first | omega | decide | (simp; done) | (simp; omega) | decide +kernel))
-- one step
local macro_rules | `(tactic| walk_at "e1") => `(tactic| first
  | with_reducible refine t_nil ?_
  | ((with_reducible refine' t_var ?s ?_); (case s => first | assumption | exact rfl))
  | with_reducible refine t_c ?_
  | with_reducible refine t_bin ?_
  | with_reducible refine t_if ?_
  | with_reducible refine t_asg ?_
  | with_reducible refine t_gN ?_
  | with_reducible refine t_ret ?_
  | with_reducible refine t_exp ?_
  | with_reducible refine t_bcmp ?_
  | with_reducible refine t_band ?_
  | with_reducible refine t_bor ?_
  | with_reducible refine t_bnot ?_
  | with_reducible refine t_btru ?_
  | with_reducible refine t_byes ?_
  | with_reducible refine t_an ?_
  | with_reducible refine t_ac ?_
  | with_reducible refine t_fn ?_
  | with_reducible refine t_call ?_
  | with_reducible refine t_cmp ?_
  | with_reducible refine t_and ?_
  | with_reducible refine t_or ?_
  | with_reducible refine t_not ?_
  | with_reducible refine t_ife ?_
  | with_reducible refine t_tup ?_
  | with_reducible refine t_lst ?_
  | with_reducible refine t_isi ?_
  | with_reducible refine t_sl ?_
  | with_reducible refine t_o0 ?_
  | with_reducible refine t_o1 ?_
  | with_reducible refine t_un ?_
  | with_reducible refine t_mt ?_
  | with_reducible refine t_gS ?_
  | with_reducible refine t_gsC ?_
  | with_reducible refine t_gsN ?_
  | ((with_reducible refine t_gT ?s ?_); (case s => first | assumption | exact rfl))
  | with_reducible refine t_retN ?_
  | with_reducible refine t_brk ?_
  | with_reducible refine t_cnt ?_
  | ((with_reducible refine' t_aug ?s ?_); (case s => first | assumption | exact rfl))
  | with_reducible refine t_for ?_
  | with_reducible refine t_seqi ?_
  | with_reducible refine t_rg1 ?_
  | with_reducible refine t_rg2 ?_
  | with_reducible refine t_lc ?_
  | with_reducible refine v_tru_bl ?_
  | with_reducible refine v_tru_int ?_
  | with_reducible refine v_tru_non ?_
  | with_reducible refine v_tru_tup ?_
  | with_reducible refine v_add_int ?_
  | ((with_reducible refine v_add_str ?l ?_); (case l => walk_at "l"))
  | ((with_reducible refine v_add_tup ?l ?_); (case l => walk_at "l"))
  | with_reducible refine v_iadd_int ?_
  | with_reducible refine v_sub ?_
  | ((with_reducible refine v_mul ?c ?_); (case c => walk_at "n"))
  | ((with_reducible refine v_div ?c ?_); (case c => walk_at "n"))
  | ((with_reducible refine v_mod ?c ?_); (case c => walk_at "n"))
  | ((with_reducible refine v_pow ?c ?_); (case c => exact ⟨by decide, by decide, by decide⟩))
  | with_reducible refine v_neg ?_
  | with_reducible exact trivial
  | with_reducible refine v_eq_int ?_
  | with_reducible refine v_eq_str ?_
  | with_reducible refine v_eq_bl ?_
  | with_reducible refine v_ne_int ?_
  | with_reducible refine v_ne_str ?_
  | with_reducible refine v_ne_bl ?_
  | with_reducible refine v_lt ?_
  | with_reducible refine v_lt_str ?_
  | with_reducible refine t_ks ?_
  | with_reducible refine t_rv ?_
  | with_reducible refine v_seq_ktp ?_
  | ((with_reducible refine' v_extend ?e ?f ?l ?_); (case e => walk_at "h"); (case f => walk_at "h"); (case l => walk_at "l"))
  | with_reducible refine v_le ?_
  | with_reducible refine v_gt ?_
  | with_reducible refine v_ge ?_
  | with_reducible refine v_isi_non ?_
  | with_reducible refine v_isi_bl ?_
  | with_reducible refine v_isi_int ?_
  | with_reducible refine v_isi_str ?_
  | with_reducible refine v_isi_tup ?_
  | with_reducible refine v_in_str ?_
  | with_reducible refine v_nin_str ?_
  | with_reducible refine v_len_tup ?_
  | with_reducible refine v_len_rol ?_
  | ((with_reducible refine v_len_str ?l ?_); (case l => walk_at "l"))
  | ((with_reducible refine' v_len_ref ?e ?_); (case e => walk_at "h"))
  | with_reducible refine v_int_int ?_
  | with_reducible refine v_max ?_
  | with_reducible refine v_min ?_
  | with_reducible refine v_tuple_tup ?_
  | ((with_reducible refine' v_tuple_ref ?e ?_); (case e => walk_at "h"))
  | ((with_reducible refine' v_ix_ref ?e ?f ?_); (case e => walk_at "h"); (case f => first | assumption | exact rfl))
  | ((with_reducible refine' v_ix_tup ?f ?_); (case f => first | assumption | exact rfl))
  | ((with_reducible refine' v_set ?e ?f ?_); (case e => walk_at "h"); (case f => first | assumption | exact rfl))
  | ((with_reducible refine v_sl_str ?l ?_); (case l => walk_at "l"))
  | with_reducible refine v_sl_tup ?_
  | with_reducible refine v_seq_tup ?_
  | with_reducible refine v_seq_str ?_
  | with_reducible refine v_seq_rol ?_
  | ((with_reducible refine' v_seq_ref ?e ?_); (case e => walk_at "h"))
  | ((with_reducible refine' ⟨v_ty_ref ?e, ?_⟩); (case e => walk_at "h"))
  | ((with_reducible refine' v_append ?e ?l ?_); (case e => walk_at "h"); (case l => walk_at "l")))
local macro_rules | `(tactic| walk_at "d1") => `(tactic| first | with_reducible refine t_seq ?_ | walk_at "e1")
local macro_rules | `(tactic| walk_at "d") => `(tactic| repeat walk_at "d1")
-- one statement
local macro_rules | `(tactic| walk_at "e") => `(tactic| ((repeat walk_at "e1"); try (with_reducible show sSeq _ _ _ _ _)))
local macro_rules | `(tactic| walk_at "s") => `(tactic| ((with_reducible refine t_seq ?_); walk_at "e"))
def b_cell : DS :=
  (sSeq (sIf (bCmp ltD (eVar 1) (eCall lenD (aCons (eVar 0) aNil)))
   (sSeq (sRet (eBin ixD (eVar 0) (eVar 1)))
   sNil)
   sNil)
  (sSeq (sRet (eBin addD (eBin addD (eBin mulD (eBin modD (eCall intD (aCons (eCall sumD (aCons (eSl (eVar 0) none (some (eC (.int 1)))) aNil)) aNil)) (eC (.int 1000003))) (eC (.int 7919))) (eBin mulD (eVar 1) (eC (.int 104729)))) (eC (.int 12345))))
  sNil))
def b_jar (c_cell : List D → Mh → PQ → Prop) : DS :=
  (sSeq (sAsg (eFn 2 c_cell (aCons (eVar 0) (aCons (eVar 1) aNil))) (gN 2))
  (sSeq (sAsg (eVar 2) (gN 3))
  (sSeq (sIf (bCmp ltD (eVar 2) (eC (.int 0)))
   (sSeq (sAsg (eBin subD (eC (.int 1)) (eBin mulD (eC (.int 3)) (eVar 2))) (gN 3))
   sNil)
   sNil)
  (sSeq (sIf (bCmp geD (eVar 3) (eBin powD (eC (.int 10)) (eC (.int 18))))
   (sSeq (sRet (eLst (aCons (eVar 3) (aCons (eC (.int 1)) (aCons (eVar 1) aNil)))))
   sNil)
   sNil)
  (sSeq (sRet (eLst (aCons (eBin addD (eBin modD (eCall intD (aCons (eVar 3) aNil)) (eC (.int 2147483646))) (eC (.int 1))) (aCons (eC (.int 0)) (aCons (eVar 1) aNil)))))
  sNil)))))
def b_pick : DS :=
  (sSeq (sIf (bAnd (bCmp eqD (eBin ixD (eVar 0) (eC (.int 1))) (eC (.int 1))) (bCmp gtD (eBin ixD (eVar 0) (eC (.int 0))) (eC (.int 0))))
   (sSeq (sAsg (eBin modD (eCall intD (aCons (eBin ixD (eVar 0) (eC (.int 0))) aNil)) (eVar 1)) (gN 2))
   (sSeq (sAsg (eBin divD (eBin ixD (eVar 0) (eC (.int 0))) (eVar 1)) (gS (eVar 0) (eC (.int 0))))
   (sSeq (sRet (eVar 2))
   sNil)))
   sNil)
  (sSeq (sIf (bCmp eqD (eBin ixD (eVar 0) (eC (.int 1))) (eC (.int 1)))
   (sSeq (sAsg (eC (.int 0)) (gS (eVar 0) (eC (.int 1))))
   (sSeq (sAsg (eBin addD (eC (.int 1234567)) (eBin mulD (eBin ixD (eVar 0) (eC (.int 2))) (eC (.int 7907)))) (gS (eVar 0) (eC (.int 0))))
   sNil))
   sNil)
  (sSeq (sAsg (eBin addD (eBin ixD (eVar 0) (eC (.int 2))) (eC (.int 1))) (gS (eVar 0) (eC (.int 2))))
  (sSeq (sAsg (eBin modD (eCall intD (aCons (eBin addD (eBin mulD (eBin ixD (eVar 0) (eC (.int 0))) (eC (.int 48271))) (eBin mulD (eBin ixD (eVar 0) (eC (.int 2))) (eC (.int 69621)))) aNil)) (eC (.int 2147483647))) (gS (eVar 0) (eC (.int 0))))
  (sSeq (sRet (eBin modD (eCall intD (aCons (eBin divD (eBin ixD (eVar 0) (eC (.int 0))) (eC (.int 977))) aNil)) (eVar 1)))
  sNil)))))

theorem cut_ints (ns : List Int) (lo hi : Option Int) : ∃ ms : List Int, cutD (ns.map D.int) lo hi = ms.map D.int := by
  unfold cutD
  exact ⟨(ns.drop (HT.sIx ns.length 0 lo)).take (HT.sIx ns.length ns.length hi - HT.sIx ns.length 0 lo), by simp⟩
theorem v_sum_ref {M : Mh} {Q : PQ} {p : Addr} {ds : List D} {ns : List Int} (e : M p = some (.lst ds)) (f : intsOf ds = some ns) (h : Q (.int ns.sum) M) : sumD [.ref p] M Q := by
  show (match litemsD (.ref p) M with | some ds => (match intsOf ds with | some ns => Q (.int ns.sum) M | none => False) | none => False)
  have : litemsD (.ref p) M = some ds := by
    show (match M p with | some (.lst ds) => some ds | _ => none) = _
    rw [e]
  rw [this]
  show (match intsOf ds with | some ns => Q (.int ns.sum) M | none => False)
  rw [f]; exact h
theorem MKeep.none {S : Addr → Prop} {M M1 : Mh} (x : MKeep S M M1) {p : Addr} (h : M1 p = none) (n : ¬ S p) : M p = none := by
  cases e : M p with
  | none => rfl
  | some o => rw [x p o n e] at h; cases h

/-- a cell: some int -/
def sp_cell : DSp := fun ds M P => ∃ (ns : List Int) (i : Int), ds = [.rol (ns.map D.int), .int i] ∧ 0 ≤ i ∧ ∀ (x : Int) M', MExt M M' → P (.int x) M'
theorem ok_cell (ds : List D) (M : Mh) (P : PQ) (h : sp_cell ds M P) : b_cell { nx := fun _ M' => P .non M', rt := P } (startD 2 ds) M := by
  obtain ⟨ns, i, rfl, hi, k⟩ := h
  unfold b_cell
  walk_at "d"
  refine t_ite (fun e => ?_) (fun e => ?_)
  · have e : i < (ns.map D.int).length := of_decide_eq_true e
    walk_at "d"
    obtain ⟨d, h1, h2, _⟩ := atI_mem hi e
    obtain ⟨x, _, rfl⟩ := List.mem_map.mp h2
    exact v_ix_rol h1 (k x M .refl)
  · walk_at "d"
    refine v_sl_rol fun p np => ?_
    walk_at "d"
    obtain ⟨ms, hm⟩ := cut_ints ns none (some 1)
    rw [hm]
    refine v_sum_ref mup_same (intsOf_map ms) ?_
    walk_at "d"
    exact k _ _ (.fresh np)

def JarOk (M : Mh) (j : Addr) : Prop := ∃ a b c : Int, M j = some (.lst [.int a, .int b, .int c]) ∧ 0 ≤ a ∧ (b = 0 ∨ b = 1) ∧ 0 ≤ c
/-- a jar: a new one -/
def sp_jar : DSp := fun ds M P => ∃ (ns : List Int) (i : Int), ds = [.rol (ns.map D.int), .int i] ∧ 0 ≤ i ∧ ∀ (p : Addr) M', MExt M M' → M p = none → JarOk M' p → P (.ref p) M'
theorem ok_jar (ds : List D) (M : Mh) (P : PQ) (h : sp_jar ds M P) : b_jar sp_cell { nx := fun _ M' => P .non M', rt := P } (startD 4 ds) M := by
  obtain ⟨ns, i, rfl, hi, k⟩ := h
  unfold b_jar
  walk_at "s"
  refine ⟨rfl, ns, i, rfl, hi, fun x M1 x1 => ?_⟩
  have fin : ∀ (a b c : Int) (p : Addr), 0 ≤ a → (b = 0 ∨ b = 1) → 0 ≤ c → M1 p = none → P (.ref p) (mup M1 p (.lst [.int a, .int b, .int c])) := fun a b c p ha hb hc np =>
    k p _ (x1.trans (.fresh np)) (x1.none np (fun z => z)) ⟨a, b, c, mup_same, ha, hb, hc⟩
  walk_at "e"
  walk_at "s"
  refine t_cut (fun ρ M' => M' = M1 ∧ slot ρ 0 = some (.rol (ns.map D.int)) ∧ slot ρ 1 = some (.int i) ∧ ∃ n : Int, 0 ≤ n ∧ slot ρ 3 = some (.int n)) (fun N hN => ?_) ?_
  · walk_at "d"
    refine t_ite (fun e => ?_) (fun e => ?_)
    · have e : x < 0 := of_decide_eq_true e
      walk_at "d"
      exact hN _ _ ⟨rfl, rfl, rfl, 1 - 3 * x, by omega, rfl⟩
    · have e : ¬ x < 0 := of_decide_eq_false e
      walk_at "d"
      exact hN _ _ ⟨rfl, rfl, rfl, x, by omega, rfl⟩
  · rintro ρ M' ⟨rfl, s0, s1, n, hn, s3⟩
    walk_at "d"
    refine t_ite (fun e => ?_) (fun e => ?_)
    · walk_at "d"
      refine ⟨by walk_at "l", fun p np => ?_⟩
      exact fin n 1 i p hn (.inr rfl) hi np
    · walk_at "d"
      refine ⟨by walk_at "l", fun p np => ?_⟩
      exact fin _ 0 i p (by have := Int.emod_nonneg n (show (2147483646 : Int) ≠ 0 by decide); omega) (.inl rfl) hi np

/-- a pick: some number below many; the jar alone changes -/
def sp_pick : DSp := fun ds M P => ∃ (j : Addr) (many : Int), ds = [.ref j, .int many] ∧ JarOk M j ∧ (0 < many ∧ many < 1073741824) ∧ ∀ (k : Int) o, 0 ≤ k → k < many → JarOk (mup M j o) j → P (.int k) (mup M j o)
theorem ok_pick (ds : List D) (M : Mh) (P : PQ) (h : sp_pick ds M P) : b_pick { nx := fun _ M' => P .non M', rt := P } (startD 3 ds) M := by
  obtain ⟨j, many, rfl, ⟨a, b, c, hM, ha, hb, hc⟩, ⟨h0, h1⟩, k⟩ := h
  have fin : ∀ (x y z r : Int), 0 ≤ x → (y = 0 ∨ y = 1) → 0 ≤ z → 0 ≤ r → r < many → P (.int r) (mup M j (.lst [.int x, .int y, .int z])) := fun x y z r hx hy hz h2 h3 =>
    k r _ h2 h3 ⟨x, y, z, mup_same, hx, hy, hz⟩
  have md : ∀ x : Int, 0 ≤ x % many ∧ x % many < many := fun x => ⟨Int.emod_nonneg _ (by omega), Int.emod_lt_of_pos _ h0⟩
  unfold b_pick
  walk_at "d"
  refine t_ite (fun e => ?_) (fun e => ?_)
  · walk_at "d"
    refine t_ite (fun e2 => ?_) (fun e2 => ?_)
    · walk_at "d"
      exact fin (a / many) b c _ (Int.ediv_nonneg ha (by omega)) hb hc (md _).1 (md _).2
    · walk_at "d"
      refine t_ite (fun e3 => ?_) (fun e3 => ?_)
      · walk_at "d"
        simp only [mup_mup]
        exact fin _ 0 (c + 1) _ (Int.emod_nonneg _ (by decide)) (.inl rfl) (by omega) (md _).1 (md _).2
      · walk_at "d"
        simp only [mup_mup]
        exact fin _ b (c + 1) _ (Int.emod_nonneg _ (by decide)) hb (by omega) (md _).1 (md _).2
  · refine t_ite (fun z => nomatch z) (fun _ => ?_)
    walk_at "d"
    refine t_ite (fun e3 => ?_) (fun e3 => ?_)
    · walk_at "d"
      simp only [mup_mup]
      exact fin _ 0 (c + 1) _ (Int.emod_nonneg _ (by decide)) (.inl rfl) (by omega) (md _).1 (md _).2
    · walk_at "d"
      simp only [mup_mup]
      exact fin _ b (c + 1) _ (Int.emod_nonneg _ (by decide)) hb (by omega) (md _).1 (md _).2
/-- the call of a pick -/
theorem c_pick {j : Addr} {many : Int} {M : Mh} {Q : PQ} (h : JarOk M j) (hm : 0 < many ∧ many < 1073741824) (k : ∀ (k : Int) o, 0 ≤ k → k < many → JarOk (mup M j o) j → Q (.int k) (mup M j o)) :
    [D.ref j, D.int many].length = 2 ∧ sp_pick [.ref j, .int many] M Q := ⟨rfl, j, many, rfl, h, hm, k⟩
theorem JarOk.keep {S : Addr → Prop} {M M' : Mh} {j : Addr} (h : JarOk M j) (x : MKeep S M M') (n : ¬ S j) : JarOk M' j := let ⟨a, b, c, e, r⟩ := h; ⟨a, b, c, x _ _ n e, r⟩
theorem JarOk.ne {M : Mh} {j p : Addr} (h : JarOk M j) (n : M p = none) : j ≠ p := let ⟨a, b, c, e, r⟩ := h; ne_free e n
end DL
/-! DLt: expressions that draw from a jar, by what they may give. -/
namespace DL
open PySem L2

/-- e draws from the jar at j alone, and gives something of T -/
def GI (j : Addr) (ρ : Ev) (T : D → Prop) (e : DT) : Prop := ∀ (M : Mh) (P : PQ), JarOk M j → (∀ d M', MKeep (· = j) M M' → JarOk M' j → T d → P d M') → e ρ M P
def GIs (j : Addr) (ρ : Ev) (T : List D → Prop) (a : DA) : Prop := ∀ (M : Mh) (P : List D → Mh → Prop), JarOk M j → (∀ ds M', MKeep (· = j) M M' → JarOk M' j → T ds → P ds M') → a ρ M P
/-- n things of T -/
def GA (n : Nat) (T : D → Prop) (xs : List D) : Prop := xs.length = n ∧ ∀ x ∈ xs, T x
def IsI (lo hi : Int) (d : D) : Prop := ∃ i, d = .int i ∧ lo ≤ i ∧ i ≤ hi
section
variable {j : Addr} {ρ : Ev} {T A B : D → Prop} {e a b : DT} {n : Nat} {as : DA}
theorem GI.mono (h : GI j ρ A e) (k : ∀ d, A d → T d) : GI j ρ T e := fun M P jk q => h M P jk fun d M' m jk' t => q d M' m jk' (k d t)
theorem gi_c {d : D} (h : T d) : GI j ρ T (eC d) := fun M P jk k => k d M .refl jk h
theorem gi_v {i : Nat} {d : D} (s : slot ρ i = some d) (h : T d) : GI j ρ T (eVar i) := fun M P jk k => by
  refine t_var s ?_
  exact k d M .refl jk h
theorem gi_bin {r : D → D → Mh → PQ → Prop} (ha : GI j ρ A a) (hb : GI j ρ B b) (h : ∀ x y M (P : PQ), A x → B y → (∀ d, T d → P d M) → r x y M P) : GI j ρ T (eBin r a b) := fun M P jk k =>
  ha M _ jk fun x M1 m1 j1 t1 => hb M1 _ j1 fun y M2 m2 j2 t2 => h x y M2 P t1 t2 fun d t => k d M2 (m1.trans m2) j2 t
theorem gi_add {l1 h1 l2 h2 : Int} (ha : GI j ρ (IsI l1 h1) a) (hb : GI j ρ (IsI l2 h2) b) : GI j ρ (IsI (l1 + l2) (h1 + h2)) (eBin addD a b) :=
  gi_bin ha hb fun x y M P ⟨i, e1, q1, q2⟩ ⟨i', e2, q3, q4⟩ k => by
    subst e1 e2
    exact k _ ⟨i + i', rfl, by omega, by omega⟩
theorem gi_sub {l1 h1 l2 h2 : Int} (ha : GI j ρ (IsI l1 h1) a) (hb : GI j ρ (IsI l2 h2) b) : GI j ρ (IsI (l1 - h2) (h1 - l2)) (eBin subD a b) :=
  gi_bin ha hb fun x y M P ⟨i, e1, q1, q2⟩ ⟨i', e2, q3, q4⟩ k => by
    subst e1 e2
    exact k _ ⟨i - i', rfl, by omega, by omega⟩
theorem gis_nil : GIs j ρ (· = []) aNil := fun M P jk k => k [] M .refl jk rfl
theorem gis_cons {U V : List D → Prop} (he : GI j ρ A e) (ha : GIs j ρ U as) (h : ∀ x xs, A x → U xs → V (x :: xs)) : GIs j ρ V (aCons e as) := fun M P jk k =>
  he M _ jk fun x M1 m1 j1 t1 => ha M1 _ j1 fun xs M2 m2 j2 t2 => k _ M2 (m1.trans m2) j2 (h x xs t1 t2)
theorem ga_nil : GIs j ρ (GA 0 T) aNil := fun M P jk k => k [] M .refl jk ⟨rfl, fun _ h => by simp at h⟩
theorem ga_cons (he : GI j ρ T e) (ha : GIs j ρ (GA n T) as) : GIs j ρ (GA (n + 1) T) (aCons e as) :=
  gis_cons he ha fun x xs t ⟨l, h⟩ => ⟨by rw [List.length_cons, l], fun y hy => by
    rcases List.mem_cons.mp hy with rfl | hy
    · exact t
    · exact h y hy⟩
theorem ga_cons2 (ha : GIs j ρ (GA n T) as) (he : GI j ρ T e) : GIs j ρ (GA (n + 1) T) (aCons e as) := ga_cons he ha
theorem keepj {M : Mh} {o : MO} : MKeep (· = j) M (mup M j o) := .put rfl
theorem gi_tup {U : List D → Prop} (ha : GIs j ρ U as) (h : ∀ xs, U xs → xs.length ≤ sizeLine ∧ T (.tup xs)) : GI j ρ T (eTup as) := fun M P jk k =>
  ha M _ jk fun xs M1 m1 j1 t1 => ⟨(h xs t1).1, k _ M1 m1 j1 (h xs t1).2⟩
theorem gi_pick {i : Nat} {m h : Int} (s : slot ρ i = some (.ref j)) (he : GI j ρ (IsI m h) e) (h0 : 0 < m) (h1 : h < 1073741824) : GI j ρ (IsI 0 (h - 1)) (eFn 2 sp_pick (aCons (eVar i) (aCons e aNil))) := fun M P jk k => by
  refine t_fn (t_ac (t_var s (t_ac (he M _ jk fun d M1 m1 j1 t1 => t_an ?_))))
  obtain ⟨v, rfl, q1, q2⟩ := t1
  refine c_pick j1 (by omega) fun x o x0 x1 j2 => k _ _ (m1.trans (.put rfl)) j2 ⟨x, rfl, x0, by omega⟩
/-- [..][e] -/
theorem gi_menu {h : Int} (ha : GIs j ρ (GA n T) as) (hi : GI j ρ (IsI 0 h) e) (hn : h < n) (hz : n ≤ sizeLine) : GI j ρ T (eBin ixD (eLst as) e) := fun M P jk k => by
  refine t_bin (t_lst (ha M _ jk fun xs M1 m1 j1 t1 => ⟨by rw [t1.1]; exact hz, fun p np => ?_⟩))
  have jp := j1.ne np
  refine hi _ _ (j1.keep (.fresh (S := fun _ => False) np) (fun z => z)) fun d M2 m2 j2 t2 => ?_
  obtain ⟨i, rfl, q1, q2⟩ := t2
  obtain ⟨d, h1, h2, _⟩ := atI_mem (ds := xs) q1 (by rw [t1.1]; omega)
  refine v_ix_ref (m2 _ _ (fun z => jp z.symm) mup_same) h1 ?_
  exact k d M2 (m1.trans ((MKeep.fresh np).trans m2)) j2 (t1.2 d h2)
/-- the same, the list's length asked for -/
theorem GI.run (h : GI j ρ T e) {M : Mh} {P : PQ} (jk : JarOk M j) (k : ∀ d M', MKeep (· = j) M M' → JarOk M' j → T d → P d M') : e ρ M P := h M P jk k
/-- a text of at most n -/
def IsS (n : Nat) (d : D) : Prop := ∃ z, d = .str z ∧ z.length ≤ n
theorem line_big {n : Nat} (h : n ≤ 100000) : n ≤ sizeLine := by rw [sizeLine_eq]; omega
theorem str_app_len (y z : Str) : (y ++ z).length = y.length + z.length := by
  rw [← st_lit y, ← st_lit z, st_app, st_len, st_len, st_len, List.length_append]
theorem str_cut_len (z : Str) (lo hi : Option Int) : (cutS z lo hi).length ≤ z.length := by
  rw [← st_lit z, st_cut, st_len, st_len, List.length_take, List.length_drop]
  omega
theorem gi_sadd {m : Nat} (ha : GI j ρ (IsS n) a) (hb : GI j ρ (IsS m) b) (hz : n + m ≤ 100000) : GI j ρ (IsS (n + m)) (eBin addD a b) :=
  gi_bin ha hb fun x y M P ⟨i, e1, q1⟩ ⟨i', e2, q2⟩ k => by
    subst e1 e2
    exact v_add_str (line_big (by omega)) (k _ ⟨_, rfl, by rw [str_app_len]; omega⟩)
theorem gi_len (ha : GI j ρ (IsS n) a) (hz : n ≤ 100000) : GI j ρ (IsI 0 n) (eCall lenD (aCons a aNil)) := fun M P jk k =>
  t_call (t_ac (ha M _ jk fun d M1 m1 j1 t1 => t_an (by
    obtain ⟨z, rfl, q⟩ := t1
    exact v_len_str (line_big (by omega)) (k _ _ m1 j1 ⟨_, rfl, by omega, by omega⟩))))
theorem gi_slo {l h : Int} (ha : GI j ρ (IsS n) a) (hb : GI j ρ (IsI l h) b) (hz : n ≤ 100000) : GI j ρ (IsS n) (eSl a (some b) none) := fun M P jk k =>
  t_sl (ha M _ jk fun d M1 m1 j1 t1 => t_o1 (hb M1 _ j1 fun d2 M2 m2 j2 t2 => by
    obtain ⟨z, rfl, q⟩ := t1
    obtain ⟨i, rfl, _⟩ := t2
    exact t_o0 (v_sl_str (line_big (by omega)) (k _ _ (m1.trans m2) j2 ⟨_, rfl, by have := str_cut_len z (some i) none; omega⟩))))
theorem gi_shi {l h : Int} (ha : GI j ρ (IsS n) a) (hb : GI j ρ (IsI l h) b) (hz : n ≤ 100000) : GI j ρ (IsS n) (eSl a none (some b)) := fun M P jk k =>
  t_sl (ha M _ jk fun d M1 m1 j1 t1 => t_o0 (t_o1 (hb M1 _ j1 fun d2 M2 m2 j2 t2 => by
    obtain ⟨z, rfl, q⟩ := t1
    obtain ⟨i, rfl, _⟩ := t2
    exact v_sl_str (line_big (by omega)) (k _ _ (m1.trans m2) j2 ⟨_, rfl, by have := str_cut_len z none (some i); omega⟩))))
/-- found.extend([..]) -/
theorem ext_run {i : Nat} {p : Addr} {xs : List D} {M : Mh} {Q : PQ} (s : slot ρ i = some (.ref p)) (hp : M p = some (.lst xs)) (jk : JarOk M j) (pj : p ≠ j) (ha : GIs j ρ (GA n T) as) (hz : xs.length + n ≤ 100000)
    (k : ∀ ys M', ys.length = n → (∀ y ∈ ys, T y) → M' p = some (.lst (xs ++ ys)) → MKeep (fun a => a = j ∨ a = p) M M' → JarOk M' j → Q .non M') : eMt "list" extendD (eVar i) (aCons (eLst as) aNil) ρ M Q := by
  refine t_mt (t_var s ⟨v_ty_ref hp, t_ac (t_lst (ha M _ jk fun ys M1 m1 j1 t1 => ⟨line_big (by rw [t1.1]; omega), fun q nq => t_an ?_⟩))⟩)
  have hp1 := m1 _ _ pj hp
  have pq := ne_free hp1 nq
  refine v_extend (by rw [mup_ne pq]; exact hp1) mup_same (line_big (by rw [t1.1]; omega)) ?_
  refine k ys _ t1.1 t1.2 mup_same ((m1.mono fun _ z => .inl z).trans ((MKeep.fresh nq).trans (.put (.inr rfl)))) ?_
  obtain ⟨a, b, c, e, r⟩ := j1
  exact ⟨a, b, c, by rw [mup_ne pj.symm, mup_ne (ne_free e nq)]; exact e, r⟩
/-- found.append(e) -/
theorem app_run {i : Nat} {p : Addr} {xs : List D} {M : Mh} {Q : PQ} (s : slot ρ i = some (.ref p)) (hp : M p = some (.lst xs)) (jk : JarOk M j) (pj : p ≠ j) (he : GI j ρ T e) (hz : xs.length < 100000)
    (k : ∀ y M', T y → M' p = some (.lst (xs ++ [y])) → MKeep (fun a => a = j ∨ a = p) M M' → JarOk M' j → Q .non M') : eMt "list" appendD (eVar i) (aCons e aNil) ρ M Q := by
  refine t_mt (t_var s ⟨v_ty_ref hp, t_ac (he M _ jk fun y M1 m1 j1 t1 => t_an ?_)⟩)
  have hp1 := m1 _ _ pj hp
  refine v_append hp1 (by rw [sizeLine_eq]; omega) ?_
  refine k y _ t1 mup_same ((m1.mono fun _ z => .inl z).trans (.put (.inr rfl))) ?_
  obtain ⟨a, b, c, e, r⟩ := j1
  exact ⟨a, b, c, by rw [mup_ne pj.symm]; exact e, r⟩
end
end DL
/-! DLh: what is held of the heap, in one row: jars, and things by their places; steps that carry it along. -/
namespace DL
open PySem L2

structure Held (M : Mh) (Js : List Addr) (L : List (Addr × MO)) : Prop where
  jar : ∀ j ∈ Js, JarOk M j
  nd : (Js ++ L.map (·.1)).Nodup
  at' : ∀ e ∈ L, M e.1 = some e.2
section
variable {M M' : Mh} {Js : List Addr} {L L' : List (Addr × MO)} {p j : Addr} {o o' : MO} {Q : PQ}
theorem Held.get (H : Held M Js L) (m : (p, o) ∈ L) : M p = some o := H.at' _ m
theorem Held.free (H : Held M Js L) (n : M p = none) : p ∉ Js ++ L.map (·.1) := fun h => by
  rcases List.mem_append.mp h with h | h
  · obtain ⟨a, b, c, e, _⟩ := H.jar p h
    rw [n] at e; cases e
  · obtain ⟨e, he, rfl⟩ := List.mem_map.mp h
    rw [H.at' e he] at n; cases n
theorem Held.nil (M : Mh) : Held M [] [] := ⟨by simp, by simp, by simp⟩
theorem Held.perm (H : Held M Js L) (h : L.Perm L') : Held M Js L' :=
  ⟨H.jar, ((h.map (·.1)).append_left Js).nodup_iff.mp H.nd, fun e he => H.at' e (h.mem_iff.mpr he)⟩
theorem Held.sub (H : Held M Js L) (h : L'.Sublist L) : Held M Js L' :=
  ⟨H.jar, H.nd.sublist ((h.map (·.1)).append_left Js), fun e he => H.at' e (h.subset he)⟩
theorem Held.tail {e : Addr × MO} (H : Held M Js (e :: L)) : Held M Js L := H.sub (List.sublist_cons_self _ _)
theorem Held.tail2 {e f : Addr × MO} (H : Held M Js (e :: f :: L)) : Held M Js (e :: L) := H.sub (List.sublist_cons_self _ _ |>.cons₂ _)
theorem Held.swap {e f : Addr × MO} (H : Held M Js (e :: f :: L)) : Held M Js (f :: e :: L) := H.perm (List.Perm.swap _ _ _)
theorem Held.third {e f g : Addr × MO} (H : Held M Js (e :: f :: g :: L)) : Held M Js (g :: e :: f :: L) :=
  H.perm (((List.Perm.swap _ _ _).cons e).trans (List.Perm.swap _ _ _))
theorem Held.fourth {e f g h : Addr × MO} (H : Held M Js (e :: f :: g :: h :: L)) : Held M Js (h :: e :: f :: g :: L) :=
  H.perm ((((List.Perm.swap _ _ _).cons f).cons e).trans (((List.Perm.swap _ _ _).cons e).trans (List.Perm.swap _ _ _)))
theorem Held.rot {A : List (Addr × MO)} (H : Held M Js (A ++ L)) : Held M Js (L ++ A) := H.perm List.perm_append_comm
theorem Held.new (H : Held M Js L) (n : M p = none) : Held (mup M p o) Js ((p, o) :: L) := by
  have f := H.free n
  have ne : ∀ q, q ∈ Js ++ L.map (·.1) → q ≠ p := fun q h e => f (e ▸ h)
  refine ⟨fun j hj => ?_, ?_, fun e he => ?_⟩
  · obtain ⟨a, b, c, e, r⟩ := H.jar j hj
    exact ⟨a, b, c, by rw [mup_ne (ne j (List.mem_append_left _ hj))]; exact e, r⟩
  · rw [List.map_cons]
    exact (List.perm_middle (l₁ := Js)).nodup_iff.mpr (List.nodup_cons.mpr ⟨f, H.nd⟩)
  · rcases List.mem_cons.mp he with rfl | he
    · exact mup_same
    · rw [mup_ne (ne _ (List.mem_append_right _ (List.mem_map.mpr ⟨e, he, rfl⟩)))]
      exact H.at' e he
theorem Held.put (H : Held M Js ((p, o) :: L)) : Held (mup M p o') Js ((p, o') :: L) := by
  have nd := (List.perm_middle (l₁ := Js)).nodup_iff.mp H.nd
  have ⟨f, nd⟩ := List.nodup_cons.mp nd
  have ne : ∀ q, q ∈ Js ++ L.map (·.1) → q ≠ p := fun q h e => f (e ▸ h)
  refine ⟨fun j hj => ?_, H.nd, fun e he => ?_⟩
  · obtain ⟨a, b, c, e, r⟩ := H.jar j hj
    exact ⟨a, b, c, by rw [mup_ne (ne j (List.mem_append_left _ hj))]; exact e, r⟩
  · rcases List.mem_cons.mp he with rfl | he
    · exact mup_same
    · rw [mup_ne (ne _ (List.mem_append_right _ (List.mem_map.mpr ⟨e, he, rfl⟩)))]
      exact H.at' e (List.mem_cons_of_mem _ he)
/-- what stands at the i-th place is written -/
theorem Held.putI (H : Held M Js L) {i : Nat} (e : L[i]? = some (p, o)) : Held (mup M p o') Js (L.set i (p, o')) := by
  obtain ⟨hi, e⟩ := List.getElem?_eq_some_iff.mp e
  have h1 : L.Perm ((p, o) :: (L.take i ++ L.drop (i + 1))) := by
    have : L = L.take i ++ (p, o) :: L.drop (i + 1) := by rw [← e, List.getElem_cons_drop, List.take_append_drop]
    exact (List.Perm.of_eq this).trans List.perm_middle
  have h2 : ((p, o') :: (L.take i ++ L.drop (i + 1))).Perm (L.set i (p, o')) := by
    rw [List.set_eq_take_append_cons_drop, if_pos hi]
    exact List.perm_middle.symm
  exact ((H.perm h1).put (o' := o')).perm h2
/-- the jar at j alone changes -/
theorem Held.keep (H : Held M Js L) (hj : j ∈ Js) (m : MKeep (· = j) M M') (k : JarOk M' j) : Held M' Js L := by
  refine ⟨fun i hi => ?_, H.nd, fun e he => ?_⟩
  · by_cases h : i = j
    · rw [h]; exact k
    · exact (H.jar i hi).keep m h
  · refine m _ _ (fun h => ?_) (H.at' e he)
    have := (List.nodup_append.mp H.nd).2.2 j hj e.1 (List.mem_map.mpr ⟨e, he, rfl⟩)
    exact this h.symm
theorem Held.ext (H : Held M Js L) (m : MExt M M') : Held M' Js L := ⟨fun i hi => (H.jar i hi).keep m (fun z => z), H.nd, fun e he => m _ _ (fun z => z) (H.at' e he)⟩
/-- something new -/
theorem Held.more (H : Held M Js L) (H' : Held M' Js L) (n : M p = none) (e : M' p = some o) : Held M' Js ((p, o) :: L) := by
  refine ⟨H'.jar, ?_, fun x hx => ?_⟩
  · rw [List.map_cons]
    exact (List.perm_middle (l₁ := Js)).nodup_iff.mpr (List.nodup_cons.mpr ⟨H.free n, H.nd⟩)
  · rcases List.mem_cons.mp hx with rfl | hx
    · exact e
    · exact H'.at' x hx
theorem Held.jar' (H : Held M Js L) (hj : j ∈ Js) : JarOk M j := H.jar j hj
theorem Held.ne (H : Held M Js L) (hj : j ∈ Js) (m : (p, o) ∈ L) : p ≠ j := fun h => (List.nodup_append.mp H.nd).2.2 j hj p (List.mem_map.mpr ⟨_, m, rfl⟩) h.symm

theorem Held.addJar (H : Held M Js L) (m : MExt M M') (n : M p = none) (k : JarOk M' p) : Held M' (p :: Js) L :=
  ⟨fun i hi => by
    rcases List.mem_cons.mp hi with rfl | hi
    · exact k
    · exact (H.ext m).jar i hi, List.nodup_cons.mpr ⟨H.free n, H.nd⟩, fun e he => (H.ext m).at' e he⟩

/-! ### steps -/
theorem h_jar {ns : List Int} {i : Int} (H : Held M Js L) (hi : 0 ≤ i) (k : ∀ p M', Held M' (p :: Js) L → Q (.ref p) M') : [D.rol (ns.map D.int), D.int i].length = 2 ∧ sp_jar [.rol (ns.map D.int), .int i] M Q :=
  ⟨rfl, ns, i, rfl, hi, fun p M' m n jk => k p M' (H.addJar m n jk)⟩
/-- what a new list is asked -/
def NewL (xs : List D) (M : Mh) (Q : PQ) : Prop := xs.length ≤ sizeLine ∧ ∀ p, M p = none → Q (.ref p) (mup M p (.lst xs))
theorem t_lstN {wa : DA} {ρ : Ev} (h : wa ρ M fun xs M1 => NewL xs M1 Q) : eLst wa ρ M Q := h
theorem t_gN' {i : Nat} {d : D} {R : Ev → Mh → Prop} {ρ ρ' : Ev} (e : ρ.set i (some d) = ρ') (h : R ρ' M) : gN i d ρ M R := by
  subst e; exact h
theorem v_int_bl {b : Bool} (h : Q (.int (if b then 1 else 0)) M) : intD [.bl b] M Q := h
/-- what a new tuple is asked -/
def NewT (xs : List D) (M : Mh) (Q : PQ) : Prop := xs.length ≤ sizeLine ∧ Q (.tup xs) M
theorem t_tupN {wa : DA} {ρ : Ev} (h : wa ρ M fun xs M1 => NewT xs M1 Q) : eTup wa ρ M Q := h
theorem v_newT {xs : List D} (l : xs.length ≤ 100000) (h : Q (.tup xs) M) : NewT xs M Q := ⟨line_big l, h⟩
theorem h_new {xs : List D} (H : Held M Js L) (l : xs.length ≤ 100000) (k : ∀ p M', Held M' Js ((p, .lst xs) :: L) → Q (.ref p) M') : NewL xs M Q := ⟨line_big l, fun p n => k p _ (H.new n)⟩
theorem h_dct {ρ : Ev} (H : Held M Js L) (k : ∀ p M', Held M' Js ((p, .dk []) :: L) → Q (.ref p) M') : eDct ρ M Q := .inl fun p n => k p _ (H.new n)
theorem h_dctT {ρ : Ev} (H : Held M Js L) (k : ∀ p M', Held M' Js ((p, .dt []) :: L) → Q (.ref p) M') : eDct ρ M Q := .inr fun p n => k p _ (H.new n)
theorem h_pick {many : Int} (H : Held M Js L) (hj : j ∈ Js) (hm : 0 < many ∧ many < 1073741824) (k : ∀ (k : Int) M', 0 ≤ k → k < many → Held M' Js L → Q (.int k) M') :
    [D.ref j, D.int many].length = 2 ∧ sp_pick [.ref j, .int many] M Q := c_pick (H.jar j hj) hm fun k' o k0 k1 j1 => k k' _ k0 k1 (H.keep hj (.put rfl) j1)
theorem h_app {xs : List D} {y : D} (H : Held M Js ((p, .lst xs) :: L)) (l : xs.length < 100000) (k : ∀ M', Held M' Js ((p, .lst (xs ++ [y])) :: L) → Q .non M') : appendD (.ref p) [y] M Q :=
  v_append (H.get List.mem_cons_self) (by rw [sizeLine_eq]; omega) (k _ H.put)
theorem h_appI {xs : List D} {y : D} (i : Nat) (H : Held M Js L) (e : L[i]? = some (p, .lst xs)) (l : xs.length < 100000) (k : ∀ M', Held M' Js (L.set i (p, .lst (xs ++ [y]))) → Q .non M') : appendD (.ref p) [y] M Q :=
  v_append (H.get (List.mem_of_getElem? e)) (by rw [sizeLine_eq]; omega) (k _ (H.putI e))
theorem h_extI {xs ys : List D} {q : Addr} (i : Nat) (H : Held M Js L) (e : L[i]? = some (p, .lst xs)) (m : (q, .lst ys) ∈ L) (l : xs.length + ys.length ≤ 100000) (k : ∀ M', Held M' Js (L.set i (p, .lst (xs ++ ys))) → Q .non M') : extendD (.ref p) [.ref q] M Q :=
  v_extend (H.get (List.mem_of_getElem? e)) (H.get m) (line_big l) (k _ (H.putI e))
theorem h_setI {xs : List D} {d : D} {n : Int} {m : Nat} {S : Mh → Prop} (i : Nat) (H : Held M Js L) (e : L[i]? = some (p, .lst xs)) (e2 : ixN xs.length n = some m) (k : ∀ M', Held M' Js (L.set i (p, .lst (xs.set m d))) → S M') : setD (.ref p) (.int n) d M S :=
  v_set (H.get (List.mem_of_getElem? e)) e2 (k _ (H.putI e))
theorem h_dputI {kvs : MO} {y d : D} {S : Mh → Prop} (i : Nat) (H : Held M Js L) (e : L[i]? = some (p, kvs)) (e1 : dictD (.ref p) M = some kvs) (l : dSize kvs < 100000) (e2 : dPut kvs y d = some o') (k : ∀ M', Held M' Js (L.set i (p, o')) → S M') : setD (.ref p) y d M S :=
  v_set_dict e1 (by rw [sizeLine_eq]; omega) e2 (k _ (H.putI e))
theorem h_popI {xs : List D} {d : D} (i : Nat) (H : Held M Js L) (e : L[i]? = some (p, .lst xs)) (e2 : xs[xs.length - 1]? = some d) (k : ∀ M', Held M' Js (L.set i (p, .lst xs.dropLast)) → Q d M') : popD (.ref p) [] M Q := by
  show (match M p with | some (.lst ds) => _ | _ => False)
  rw [H.get (List.mem_of_getElem? e)]
  have h : atI xs (-1) = some d ∨ True := .inr trivial
  have := k _ (H.putI e)
  first | exact ⟨_, e2, this⟩ | (simp only [e2]; exact this) | (dsimp only; rw [e2]; exact this)
theorem h_sl {xs : List D} {lo hi : Option Int} (H : Held M Js L) (m : (p, .lst xs) ∈ L) (k : ∀ q M', Held M' Js ((q, .lst (cutD xs lo hi)) :: L) → Q (.ref q) M') : slD (.ref p) lo hi M Q := v_sl_ref (H.get m) fun q n => k q _ (H.new n)
theorem h_add {xs ys : List D} {q : Addr} (H : Held M Js L) (m : (p, .lst xs) ∈ L) (m2 : (q, .lst ys) ∈ L) (l : xs.length + ys.length ≤ 100000) (k : ∀ u M', Held M' Js ((u, .lst (xs ++ ys)) :: L) → Q (.ref u) M') : addD (.ref p) (.ref q) M Q :=
  ⟨xs, ys, H.get m, H.get m2, line_big l, fun u n => k u _ (H.new n)⟩
theorem h_listT {xs : List D} (H : Held M Js L) (k : ∀ q M', Held M' Js ((q, .lst xs) :: L) → Q (.ref q) M') : listD [.tup xs] M Q := v_list_tup fun q n => k q _ (H.new n)
theorem h_listL {xs : List D} (H : Held M Js L) (m : (p, .lst xs) ∈ L) (k : ∀ q M', Held M' Js ((q, .lst xs) :: L) → Q (.ref q) M') : listD [.ref p] M Q := v_list_ref (H.get m) fun q n => k q _ (H.new n)
theorem h_sorted {xs : List D} (H : Held M Js L) (m : (p, .lst xs) ∈ L) (sk : SortK xs) (k : ∀ ys q M', ys.Perm xs → ys.Pairwise (fun a b => ¬ (eD b < eD a)) → Held M' Js ((q, .lst ys) :: L) → Q (.ref q) M') : sortedD [.ref p] M Q :=
  v_sorted (H.get m) sk fun ys q h1 h2 n => k ys q _ h1 h2 (H.new n)
theorem h_keys (H : Held M Js L) (e : dictD (.ref p) M = some o) (k : ∀ q M', Held M' Js ((q, .lst (dKeys o)) :: L) → Q (.ref q) M') : keysLD (.ref p) M Q := v_keys e fun q n => k q _ (H.new n)
theorem h_vals {kvs : List (Key × D)} (H : Held M Js L) (e : M p = some (.dk kvs)) (k : ∀ q M', Held M' Js ((q, .lst (kvs.map (·.2))) :: L) → Q (.ref q) M') : valsLD (.ref p) M Q := by
  show (match M p with | some (.dk kvs) => ∀ q, M q = none → Q (.ref q) (mup M q (.lst (kvs.map (·.2)))) | _ => False)
  rw [e]
  exact fun q n => k q _ (H.new n)
theorem v_repr {x : D} {M : Mh} {Q : PQ} {k w : Nat} (h : Lay k w x) (ht : tupB x = true) (hk : k ≤ 64) (hw : w ≤ 1048576) (q : Q (.str (pd x).shown) M) : reprD [x] M Q := ⟨x, rfl, ht, h.ok hk, h.sh, h.fits hk hw, q⟩
theorem h_gi {ρ : Ev} {T : D → Prop} {e : DT} (H : Held M Js L) (hj : j ∈ Js) (g : GI j ρ T e) (k : ∀ d M', T d → Held M' Js L → Q d M') : e ρ M Q := g M Q (H.jar j hj) fun d M' m jk t => k d M' t (H.keep hj m jk)

/-- xs[k], of a list of things -/
theorem h_ixm {α : Type} {zs : List α} {f : α → D} {i : Int} (H : Held M Js L) (m : (p, .lst (zs.map f)) ∈ L) (h0 : 0 ≤ i) (h1 : i < zs.length) (k : ∀ z, z ∈ zs → zs[i.toNat]? = some z → Q (f z) M) : ixD (.ref p) (.int i) M Q := by
  have hn : i.toNat < zs.length := by omega
  have e := List.getElem?_eq_getElem hn
  exact v_ix_ref (H.get m) (atI_get? h0 (by rw [List.getElem?_map, e]; rfl)) (k _ (List.getElem_mem hn) e)
theorem h_dput {kvs : List (Key × D)} {y d : D} {c : Key} {S : Mh → Prop} (i : Nat) (H : Held M Js L) (e : L[i]? = some (p, .dk kvs)) (ec : keyD y = some c) (l : kvs.length < 100000) (k : ∀ M', Held M' Js (L.set i (p, .dk (putD kvs c d))) → S M') : setD (.ref p) y d M S :=
  h_dputI i H e (dict_dk (H.get (List.mem_of_getElem? e))) l (by show (keyD y).map _ = _; rw [ec]; rfl) k
theorem h_in {kvs : List (Key × D)} {y : D} {c : Key} {R : Bool → Prop} (H : Held M Js L) (m : (p, .dk kvs) ∈ L) (ec : keyD y = some c) (h : R (valD kvs c).isSome) : inD y (.ref p) M R :=
  v_in_dict (dict_dk (H.get m)) (by show (keyD y).map _ = _; rw [ec]; rfl) h
theorem h_nin {kvs : List (Key × D)} {y : D} {c : Key} {R : Bool → Prop} (H : Held M Js L) (m : (p, .dk kvs) ∈ L) (ec : keyD y = some c) (h : R (!(valD kvs c).isSome)) : ninD y (.ref p) M R :=
  v_nin_dict (dict_dk (H.get m)) (by show (keyD y).map _ = _; rw [ec]; rfl) h
theorem h_ixd {kvs : List (Key × D)} {y d : D} {c : Key} (H : Held M Js L) (m : (p, .dk kvs) ∈ L) (ec : keyD y = some c) (ev : valD kvs c = some d) (h : Q d M) : ixD (.ref p) y M Q :=
  v_ix_dict (dict_dk (H.get m)) (by show (keyD y).map _ = _; rw [ec, ← ev]; rfl) h
/-- {k: v} -/
def NewD (p : Addr) (x y : D) (M : Mh) (Q : PQ) : Prop := M p = some (.dk []) ∧ match keyD x with
  | some k => Q (.ref p) (mup M p (.dk [(k, y)]))
  | none => False
theorem t_d1H {ρ : Ev} {a e : DT} (H : Held M Js L) (h : ∀ p M', Held M' Js ((p, .dk []) :: L) → a ρ M' fun x M1 => e ρ M1 fun y M2 => NewD p x y M2 Q) : eD1 a e ρ M Q := t_d1 fun p np => h p _ (H.new np)
theorem h_newD {x y : D} {c : Key} (H : Held M Js ((p, .dk []) :: L)) (ec : keyD x = some c) (k : ∀ M', Held M' Js ((p, .dk [(c, y)]) :: L) → Q (.ref p) M') : NewD p x y M Q := by
  refine ⟨H.get List.mem_cons_self, ?_⟩
  rw [ec]
  exact k _ H.put

theorem h_lr {n : Int} (H : Held M Js L) (h0 : 0 ≤ n) (h1 : n ≤ 100000) (k : ∀ p M', Held M' Js ((p, .lst (rngI 0 n.toNat)) :: L) → Q (.ref p) M') : lrD (.int n) M Q :=
  ⟨by omega, fun p np => k p _ (H.new np)⟩

/-! ### comprehensions -/
section
variable {t : Tg} {tt : DB} {te : DT} {chk : Mh → Prop} {ρ : Ev} {items : List D}
/-- with things that come along: E of them -/
theorem h_lcE (I : Nat → List D → List (Addr × MO) → Prop) (H : Held M Js L) (hz : items.length < 100000) (h0 : I 0 [] [])
    (hc : ∀ M', Held M' Js L → chk M')
    (step : ∀ (R : PQ) (i : Nat) (d : D) (acc : List D) (E : List (Addr × MO)) (p : Addr) (M : Mh), items[i]? = some d → I i acc E → Held M Js ((p, .lst acc) :: (E ++ L)) →
      (∀ y E' M', I (i + 1) (acc ++ [y]) E' → Held M' Js ((p, .lst acc) :: (E' ++ L)) → R y M') → ∃ ρ1, tgD t d ρ = some ρ1 ∧ te ρ1 M R)
    (fin : ∀ p acc E M, acc.length = items.length → I items.length acc E → Held M Js ((p, .lst acc) :: (E ++ L)) → Q (.ref p) M) :
    ∀ p, M p = none → lcLoop p chk t bYes te ρ Q items (mup M p (.lst [])) := fun p np => by
  have hL : ∀ {M' acc E}, Held M' Js ((p, .lst acc) :: (E ++ L)) → Held M' Js L := fun h => h.tail.sub (List.sublist_append_right _ _)
  refine lc_each (fun i acc M' => ∃ E, I i acc E ∧ Held M' Js ((p, .lst acc) :: (E ++ L))) (by rw [sizeLine_eq]; omega) mup_same ⟨[], h0, H.new np⟩ (fun R i d acc M' hd hl hI hp hR => ?_) (fun acc M' hl hI hp => ?_)
  · obtain ⟨E, hI, H1⟩ := hI
    exact ⟨hc _ (hL H1), step R i d acc E p M' hd hI H1 fun y E' M2 h2 H2 => hR y M2 (H2.get List.mem_cons_self) ⟨E', h2, H2.put⟩⟩
  · obtain ⟨E, hI, H1⟩ := hI
    exact ⟨hc _ (hL H1), fin p acc E M' hl hI H1⟩
theorem h_lc (I : Nat → List D → Prop) (H : Held M Js L) (hz : items.length < 100000) (h0 : I 0 [])
    (hc : ∀ M', Held M' Js L → chk M')
    (step : ∀ (R : PQ) (i : Nat) (d : D) (acc : List D) (p : Addr) (M : Mh), items[i]? = some d → I i acc → Held M Js ((p, .lst acc) :: L) →
      (∀ y M', I (i + 1) (acc ++ [y]) → Held M' Js ((p, .lst acc) :: L) → R y M') → ∃ ρ1, tgD t d ρ = some ρ1 ∧ te ρ1 M R)
    (fin : ∀ p acc M, acc.length = items.length → I items.length acc → Held M Js ((p, .lst acc) :: L) → Q (.ref p) M) :
    ∀ p, M p = none → lcLoop p chk t bYes te ρ Q items (mup M p (.lst [])) :=
  h_lcE (fun i acc E => E = [] ∧ I i acc) H hz ⟨rfl, h0⟩ hc (fun R i d acc E p M' hd hI H1 k => by
    obtain ⟨rfl, hI⟩ := hI
    exact step R i d acc p M' hd hI H1 fun y M2 h2 H2 => k y [] M2 ⟨rfl, h2⟩ H2) fun p acc E M' hl hI H1 => by
    obtain ⟨rfl, hI⟩ := hI
    exact fin p acc M' hl hI H1
/-- with a test -/
theorem h_lcT (I : Nat → List D → Prop) (H : Held M Js L) (hz : items.length < 100000) (h0 : I 0 [])
    (hc : ∀ M', Held M' Js L → chk M')
    (step : ∀ (R : PQ) (S : Mh → Prop) (i : Nat) (d : D) (acc : List D) (p : Addr) (M : Mh), items[i]? = some d → I i acc → Held M Js ((p, .lst acc) :: L) →
      (∀ y M', I (i + 1) (acc ++ [y]) → Held M' Js ((p, .lst acc) :: L) → R y M') → (∀ M', I (i + 1) acc → Held M' Js ((p, .lst acc) :: L) → S M') →
      ∃ ρ1, tgD t d ρ = some ρ1 ∧ tt ρ1 M fun k M1 => if k = true then te ρ1 M1 R else S M1)
    (fin : ∀ p acc M, acc.length ≤ items.length → I items.length acc → Held M Js ((p, .lst acc) :: L) → Q (.ref p) M) :
    ∀ p, M p = none → lcLoop p chk t tt te ρ Q items (mup M p (.lst [])) := fun p np => by
  refine lc_eachT (fun i acc M' => I i acc ∧ Held M' Js ((p, .lst acc) :: L)) (by rw [sizeLine_eq]; omega) mup_same ⟨h0, H.new np⟩ (fun R S i d acc M' hd hl hI hp hR hS => ?_) (fun acc M' hl hI hp => ?_)
  · obtain ⟨hI, H1⟩ := hI
    exact ⟨hc _ H1.tail, step R S i d acc p M' hd hI H1 (fun y M2 h2 H2 => hR y M2 (H2.get List.mem_cons_self) ⟨h2, H2.put⟩) fun M2 h2 H2 => hS M2 (H2.get List.mem_cons_self) ⟨h2, H2⟩⟩
  · obtain ⟨hI, H1⟩ := hI
    exact ⟨hc _ H1.tail, fin p acc M' hl hI H1⟩
end
end
end DL
/-! LWb: bodies of helpers that many laws have, as gen.py prints them. -/
namespace LW
open PySem DL
/-- slots: 0 thing -/
def b_is_number : DS :=
  (sSeq (sRet (eAnd (eIsi "int" (eVar 0)) (eNot (eIsi "bool" (eVar 0)))))
  sNil)
/-- slots: 0 thing 1 letters 2 sign -/
def b_is_name : DS :=
  (sSeq (sIf (bOr (bNot (bTru (eIsi "str" (eVar 0)))) (bOr (bCmp ltD (eCall lenD (aCons (eVar 0) aNil)) (eC (.int 1))) (bCmp gtD (eCall lenD (aCons (eVar 0) aNil)) (eC (.int 8)))))
   (sSeq (sRet (eC (.bl false)))
   sNil)
   sNil)
  (sSeq (sAsg (eC (.str "abcdefghijklmnopqrstuvwxyz")) (gN 1))
  (sSeq (sIf (bCmp ninD (eBin ixD (eVar 0) (eC (.int 0))) (eVar 1))
   (sSeq (sRet (eC (.bl false)))
   sNil)
   sNil)
  (sSeq (sRet (eCmp eqD (eCall lenD (aCons (eLC (iSeq (eVar 0)) (.nm 2) (bCmp ninD (eVar 2) (eBin addD (eVar 1) (eC (.str "0123456789")))) (eVar 2) [2]) aNil)) (eC (.int 0))))
  sNil))))
/-- slots: 0 thing 1 words -/
def b_is_label (c_is_name : List D → Mh → PQ → Prop) : DS :=
  (sSeq (sAsg (eLst (aCons (eC (.str "talk")) (aCons (eC (.str "roles")) (aCons (eC (.str "to")) (aCons (eC (.str "on")) (aCons (eC (.str "round")) (aCons (eC (.str "again")) (aCons (eC (.str "stop")) (aCons (eC (.str "machine")) (aCons (eC (.str "say")) (aCons (eC (.str "hear")) (aCons (eC (.str "end")) aNil)))))))))))) (gN 1))
  (sSeq (sRet (eAnd (eFn 1 c_is_name (aCons (eVar 0) aNil)) (eCmp ninD (eVar 0) (eVar 1))))
  sNil))
/-- slots: 0 thing 1 many 2 part -/
def b_is_move (c_is_number : List D → Mh → PQ → Prop) (c_is_label : List D → Mh → PQ → Prop) : DS :=
  (sSeq (sIf (bOr (bNot (bTru (eIsi "tuple" (eVar 0)))) (bOr (bCmp neD (eCall lenD (aCons (eVar 0) aNil)) (eC (.int 4))) (bNot (bTru (eFn 1 c_is_label (aCons (eBin ixD (eVar 0) (eC (.int 0))) aNil))))))
   (sSeq (sRet (eC (.bl false)))
   sNil)
   sNil)
  (sSeq (sIf (bCmp gtD (eCall lenD (aCons (eLC (iSeq (eSl (eVar 0) (some (eC (.int 1))) none)) (.nm 2) (bNot (bTru (eFn 1 c_is_number (aCons (eVar 2) aNil)))) (eVar 2) [2]) aNil)) (eC (.int 0)))
   (sSeq (sRet (eC (.bl false)))
   sNil)
   sNil)
  (sSeq (sRet (eAnd (eCmp leD (eC (.int 0)) (eBin ixD (eVar 0) (eC (.int 1)))) (eAnd (eCmp leD (eBin ixD (eVar 0) (eC (.int 1))) (eBin ixD (eVar 0) (eC (.int 2)))) (eAnd (eCmp leD (eBin ixD (eVar 0) (eC (.int 2))) (eC (.int 999999))) (eAnd (eCmp leD (eC (.int 0)) (eBin ixD (eVar 0) (eC (.int 3)))) (eCmp ltD (eBin ixD (eVar 0) (eC (.int 3))) (eVar 1)))))))
  sNil)))
/-- slots: 0 thing 1 many 2 move 3 at -/
def b_is_moves (c_is_move : List D → Mh → PQ → Prop) : DS :=
  (sSeq (sIf (bOr (bNot (bTru (eIsi "tuple" (eVar 0)))) (bCmp eqD (eCall lenD (aCons (eVar 0) aNil)) (eC (.int 0))))
   (sSeq (sRet (eC (.bl false)))
   sNil)
   sNil)
  (sSeq (sIf (bCmp gtD (eCall lenD (aCons (eLC (iSeq (eVar 0)) (.nm 2) (bNot (bTru (eFn 2 c_is_move (aCons (eVar 2) (aCons (eVar 1) aNil))))) (eVar 2) [2]) aNil)) (eC (.int 0)))
   (sSeq (sRet (eC (.bl false)))
   sNil)
   sNil)
  (sSeq (sFor (iRg2 (aCons (eC (.int 1)) (aCons (eCall lenD (aCons (eVar 0) aNil)) aNil))) (gN 3)
   (sSeq (sIf (bCmp ltD (eBin ixD (eBin ixD (eVar 0) (eVar 3)) (eC (.int 0))) (eBin ixD (eBin ixD (eVar 0) (eBin subD (eVar 3) (eC (.int 1)))) (eC (.int 0))))
    (sSeq (sRet (eC (.bl false)))
    sNil)
    sNil)
   (sSeq (sIf (bAnd (bCmp eqD (eBin ixD (eBin ixD (eVar 0) (eVar 3)) (eC (.int 0))) (eBin ixD (eBin ixD (eVar 0) (eBin subD (eVar 3) (eC (.int 1)))) (eC (.int 0)))) (bCmp leD (eBin ixD (eBin ixD (eVar 0) (eVar 3)) (eC (.int 1))) (eBin ixD (eBin ixD (eVar 0) (eBin subD (eVar 3) (eC (.int 1)))) (eC (.int 2)))))
    (sSeq (sRet (eC (.bl false)))
    sNil)
    sNil)
   sNil)))
  (sSeq (sRet (eC (.bl true)))
  sNil))))
/-- slots: 0 jar 1 many 2 way 3 small -/
def b_number (c_pick : List D → Mh → PQ → Prop) : DS :=
  (sSeq (sAsg (eFn 2 c_pick (aCons (eVar 0) (aCons (eC (.int 12)) aNil))) (gN 2))
  (sSeq (sIf (bCmp eqD (eVar 2) (eC (.int 0)))
   (sSeq (sRet (eBin subD (eVar 1) (eC (.int 1))))
   sNil)
   sNil)
  (sSeq (sIf (bCmp eqD (eVar 2) (eC (.int 1)))
   (sSeq (sRet (eFn 2 c_pick (aCons (eVar 0) (aCons (eVar 1) aNil))))
   sNil)
   sNil)
  (sSeq (sAsg (eBin ixD (eLst (aCons (eC (.int 1)) (aCons (eC (.int 1)) (aCons (eC (.int 2)) (aCons (eC (.int 3)) (aCons (eC (.int 5)) (aCons (eC (.int 9)) (aCons (eC (.int 2)) (aCons (eC (.int 1)) (aCons (eC (.int 4)) (aCons (eC (.int 12)) aNil))))))))))) (eBin subD (eVar 2) (eC (.int 2)))) (gN 3))
  (sSeq (sRet (eFn 2 c_pick (aCons (eVar 0) (aCons (eCall minD (aCons (eVar 1) (aCons (eVar 3) aNil))) aNil))))
  sNil)))))
/-- slots: 0 word -/
def b_kept_label (c_is_label : List D → Mh → PQ → Prop) : DS :=
  (sSeq (sIf (bTru (eFn 1 c_is_label (aCons (eVar 0) aNil)))
   (sSeq (sRet (eVar 0))
   sNil)
   sNil)
  (sSeq (sRet (eBin addD (eVar 0) (eC (.str "0"))))
  sNil))
/-- slots: 0 jar 1 small 2 word 3 turn -/
def b_free_label (c_kept_label : List D → Mh → PQ → Prop) (c_pick : List D → Mh → PQ → Prop) : DS :=
  (sSeq (sAsg (eC (.str "abcdefghijklmnopqrstuvwxyz0123456789")) (gN 1))
  (sSeq (sAsg (eBin ixD (eVar 1) (eFn 2 c_pick (aCons (eVar 0) (aCons (eC (.int 26)) aNil)))) (gN 2))
  (sSeq (sFor (iRg1 (aCons (eBin ixD (eLst (aCons (eC (.int 0)) (aCons (eC (.int 1)) (aCons (eC (.int 1)) (aCons (eC (.int 2)) (aCons (eC (.int 3)) (aCons (eC (.int 7)) (aCons (eFn 2 c_pick (aCons (eVar 0) (aCons (eC (.int 8)) aNil))) aNil)))))))) (eFn 2 c_pick (aCons (eVar 0) (aCons (eC (.int 7)) aNil)))) aNil)) (gN 3)
   (sSeq (sAsg (eBin addD (eVar 2) (eBin ixD (eVar 1) (eFn 2 c_pick (aCons (eVar 0) (aCons (eC (.int 36)) aNil))))) (gN 2))
   sNil))
  (sSeq (sRet (eFn 1 c_kept_label (aCons (eVar 2) aNil)))
  sNil))))
/-- slots: 0 jar 1 small 2 found 3 turn 4 word -/
def b_labels (c_pick : List D → Mh → PQ → Prop) (c_kept_label : List D → Mh → PQ → Prop) (c_free_label : List D → Mh → PQ → Prop) : DS :=
  (sSeq (sAsg (eC (.str "abcdefghijklmnopqrstuvwxyz0123456789")) (gN 1))
  (sSeq (sAsg (eLst aNil) (gN 2))
  (sSeq (sFor (iRg1 (aCons (eBin addD (eC (.int 1)) (eFn 2 c_pick (aCons (eVar 0) (aCons (eC (.int 4)) aNil)))) aNil)) (gN 3)
   (sSeq (sAsg (eFn 1 c_free_label (aCons (eVar 0) aNil)) (gN 4))
   (sSeq (sIf (bAnd (bCmp gtD (eCall lenD (aCons (eVar 2) aNil)) (eC (.int 0))) (bAnd (bCmp ltD (eCall lenD (aCons (eBin ixD (eVar 2) (eC (.int 0))) aNil)) (eC (.int 8))) (bCmp eqD (eFn 2 c_pick (aCons (eVar 0) (aCons (eC (.int 3)) aNil))) (eC (.int 0)))))
    (sSeq (sAsg (eFn 1 c_kept_label (aCons (eBin addD (eBin ixD (eVar 2) (eC (.int 0))) (eBin ixD (eVar 1) (eFn 2 c_pick (aCons (eVar 0) (aCons (eC (.int 36)) aNil))))) aNil)) (gN 4))
    sNil)
    sNil)
   (sSeq (sIf (bCmp ninD (eVar 4) (eVar 2))
    (sSeq (sExp (eMt "list" appendD (eVar 2) (aCons (eVar 4) aNil)))
    sNil)
    sNil)
   sNil))))
  (sSeq (sRet (eCall sortedD (aCons (eVar 2) aNil)))
  sNil))))
/-- slots: 0 jar 1 label 2 many 3 count 4 found 5 at 6 turn 7 high -/
def b_strips (c_number : List D → Mh → PQ → Prop) : DS :=
  (sSeq (sAsg (eLst aNil) (gN 4))
  (sSeq (sAsg (eFn 2 c_number (aCons (eVar 0) (aCons (eC (.int 1000000)) aNil))) (gN 5))
  (sSeq (sFor (iRg1 (aCons (eVar 3) aNil)) (gN 6)
   (sSeq (sIf (bCmp gtD (eVar 5) (eC (.int 999999)))
    (sSeq sBrk
    sNil)
    sNil)
   (sSeq (sAsg (eBin addD (eVar 5) (eFn 2 c_number (aCons (eVar 0) (aCons (eBin subD (eC (.int 1000000)) (eVar 5)) aNil)))) (gN 7))
   (sSeq (sExp (eMt "list" appendD (eVar 4) (aCons (eTup (aCons (eVar 1) (aCons (eVar 5) (aCons (eVar 7) (aCons (eFn 2 c_number (aCons (eVar 0) (aCons (eVar 2) aNil))) aNil))))) aNil)))
   (sSeq (sAsg (eBin addD (eBin addD (eVar 7) (eC (.int 1))) (eFn 2 c_number (aCons (eVar 0) (aCons (eC (.int 1000000)) aNil)))) (gN 5))
   sNil)))))
  (sSeq (sRet (eVar 4))
  sNil))))
end LW
/-! LWm: what a number, a name, a label, a move, a row of moves is, of any data. -/
namespace LW
open PySem DL L2
abbrev LET : Str := "abcdefghijklmnopqrstuvwxyz"
abbrev FIG : Str := "0123456789"
abbrev RES : List D := [.str "talk", .str "roles", .str "to", .str "on", .str "round", .str "again", .str "stop", .str "machine", .str "say", .str "hear", .str "end"]
def letB (c : Nat) : Bool := decide (c ∈ LET.cps.toList)
def figB (c : Nat) : Bool := decide (c ∈ FIG.cps.toList)
def sgnB (c : Nat) : Bool := letB c || figB c
def nameL : List Nat → Bool
  | [] => false
  | c :: r => decide ((c :: r).length ≤ 8) && letB c && (c :: r).all sgnB
theorem nameL_cons (c : Nat) (r : List Nat) : nameL (c :: r) = (decide ((c :: r).length ≤ 8) && letB c && (c :: r).all sgnB) := rfl
theorem atI_zero {α : Type} (c : α) (r : List α) : atI (c :: r) 0 = some c := by
  obtain ⟨d, h1, h2, h3⟩ := atI_mem (ds := c :: r) (k := 0) (by decide) (by rw [List.length_cons]; omega)
  rw [h1, ← h3]; rfl
def numB : D → Bool
  | .int _ => true
  | _ => false
def nameB : D → Bool
  | .str z => nameL z.cps.toList
  | _ => false
def labB (d : D) : Bool := nameB d && !memD d RES
def intB (p : Int → Bool) : D → Bool
  | .int i => p i
  | _ => false
def spanB (a b : D) : Bool := match a, b with
  | .int i, .int j => decide (0 ≤ i) && decide (i ≤ j) && decide (j ≤ 999999)
  | _, _ => false
def moveB (many : Int) : D → Bool
  | .tup [a, b, c, d] => labB a && spanB b c && intB (fun i => decide (0 ≤ i) && decide (i < many)) d
  | _ => false
/-- what two moves in a row must be -/
def okPair (a b : D) : Bool := match a, b with
  | .tup (.str x :: _ :: .int h :: _), .tup (.str y :: .int l :: _) => !decide (y.cps.toList < x.cps.toList) && !((y == x) && decide (l ≤ h))
  | _, _ => false
def rowB : List D → Bool
  | a :: b :: r => okPair a b && rowB (b :: r)
  | _ => true
def movesB (many : Int) : D → Bool
  | .tup ds => !ds.isEmpty && ds.all (moveB many) && rowB ds
  | _ => false
theorem numB_true {d : D} (h : numB d = true) : ∃ i, d = .int i := by cases d <;> first | (cases h; done) | exact ⟨_, rfl⟩
theorem nameB_true {d : D} (h : nameB d = true) : ∃ z, d = .str z := by cases d <;> first | (cases h; done) | exact ⟨_, rfl⟩
theorem labB_true {d : D} (h : labB d = true) : ∃ z, d = .str z := by
  unfold labB at h
  rw [Bool.and_eq_true] at h
  exact nameB_true h.1
theorem moveB_true {many : Int} {d : D} (h : moveB many d = true) : ∃ x l h' g, d = .tup [.str x, .int l, .int h', .int g] := by
  unfold moveB at h
  split at h
  · rename_i a b c e
    simp only [Bool.and_eq_true] at h
    obtain ⟨⟨h1, h2⟩, h3⟩ := h
    obtain ⟨z, rfl⟩ := labB_true h1
    cases b <;> cases c <;> first | (cases h2; done) | skip
    cases e <;> first | (cases h3; done) | skip
    exact ⟨_, _, _, _, rfl⟩
  · cases h
/-- small data: no references, texts and tuples of at most n -/
def good (n : Nat) : D → Prop
  | .non => True
  | .bl _ => True
  | .int _ => True
  | .str z => z.length ≤ n
  | .tup ds => ds.length ≤ n ∧ goods n ds
  | _ => False
where goods (n : Nat) : List D → Prop
  | [] => True
  | d :: r => good n d ∧ goods n r
theorem goods_iff {n : Nat} : ∀ {ds : List D}, good.goods n ds ↔ ∀ d ∈ ds, good n d
  | [] => by simp [good.goods]
  | d :: r => by simp [good.goods, goods_iff (ds := r)]
theorem good_tup {n : Nat} {ds : List D} : good n (.tup ds) ↔ ds.length ≤ n ∧ ∀ d ∈ ds, good n d := by
  rw [good, goods_iff]
theorem rowB_iff : ∀ {ds : List D}, rowB ds = true ↔ ∀ (i : Nat) (a b : D), ds[i]? = some a → ds[i + 1]? = some b → okPair a b = true
  | [] => by simp [rowB]
  | [a] => by simp [rowB]
  | a :: b :: r => by
    rw [rowB, Bool.and_eq_true, rowB_iff (ds := b :: r)]
    constructor
    · rintro ⟨h1, h2⟩ i x y e1 e2
      cases i with
      | zero =>
        cases e1
        cases e2
        exact h1
      | succ i => exact h2 i x y e1 e2
    · intro h
      exact ⟨h 0 a b rfl rfl, fun i x y e1 e2 => h (i + 1) x y e1 e2⟩
end LW
/-! LWp: the laws' own tests of numbers, names, labels, moves. -/
namespace LW
open PySem DL L2
-- what the heap holds at a place
local macro_rules | `(tactic| walk_at "h") => `(tactic| first
  | assumption
  | exact mup_same
  | (refine (mup_ne ?_).trans ?_ <;> first | assumption | (apply Ne.symm; assumption) | walk_at "h"))
-- small facts of numbers
local macro_rules | `(tactic| walk_at "n") => `(tactic| first
  | assumption
  | omega
  | decide
  | (exact CMul.r (by decide))
  | (exact CMul.l (by decide))
  | (refine ⟨?_, ?_⟩ <;> first | assumption | omega | decide))
-- lengths
local macro_rules | `(tactic| walk_at "l") => `(tactic| first
  | assumption
  | (rw [sizeLine_eq]; first | omega | decide | (simp; done) | (simp; omega) | decide +kernel))
-- one step
local macro_rules | `(tactic| walk_at "e1") => `(tactic| first
  | with_reducible refine t_nil ?_
  | ((with_reducible refine' t_var ?s ?_); (case s => first | assumption | exact rfl))
  | with_reducible refine t_c ?_
  | with_reducible refine t_bin ?_
  | with_reducible refine t_if ?_
  | with_reducible refine t_asg ?_
  | with_reducible refine t_gN ?_
  | with_reducible refine t_ret ?_
  | with_reducible refine t_exp ?_
  | with_reducible refine t_bcmp ?_
  | with_reducible refine t_band ?_
  | with_reducible refine t_bor ?_
  | with_reducible refine t_bnot ?_
  | with_reducible refine t_btru ?_
  | with_reducible refine t_byes ?_
  | with_reducible refine t_an ?_
  | with_reducible refine t_ac ?_
  | with_reducible refine t_fn ?_
  | with_reducible refine t_call ?_
  | with_reducible refine t_cmp ?_
  | with_reducible refine t_and ?_
  | with_reducible refine t_or ?_
  | with_reducible refine t_not ?_
  | with_reducible refine t_ife ?_
  | with_reducible refine t_tup ?_
  | with_reducible refine t_lst ?_
  | with_reducible refine t_isi ?_
  | with_reducible refine t_sl ?_
  | with_reducible refine t_o0 ?_
  | with_reducible refine t_o1 ?_
  | with_reducible refine t_un ?_
  | with_reducible refine t_mt ?_
  | with_reducible refine t_gS ?_
  | with_reducible refine t_gsC ?_
  | with_reducible refine t_gsN ?_
  | ((with_reducible refine t_gT ?s ?_); (case s => first | assumption | exact rfl))
  | with_reducible refine t_retN ?_
  | with_reducible refine t_brk ?_
  | with_reducible refine t_cnt ?_
  | ((with_reducible refine' t_aug ?s ?_); (case s => first | assumption | exact rfl))
  | with_reducible refine t_for ?_
  | with_reducible refine t_seqi ?_
  | with_reducible refine t_rg1 ?_
  | with_reducible refine t_rg2 ?_
  | with_reducible refine t_lc ?_
  | with_reducible refine v_tru_bl ?_
  | with_reducible refine v_tru_int ?_
  | with_reducible refine v_tru_non ?_
  | with_reducible refine v_tru_tup ?_
  | with_reducible refine v_add_int ?_
  | ((with_reducible refine v_add_str ?l ?_); (case l => walk_at "l"))
  | ((with_reducible refine v_add_tup ?l ?_); (case l => walk_at "l"))
  | with_reducible refine v_iadd_int ?_
  | with_reducible refine v_sub ?_
  | ((with_reducible refine v_mul ?c ?_); (case c => walk_at "n"))
  | ((with_reducible refine v_div ?c ?_); (case c => walk_at "n"))
  | ((with_reducible refine v_mod ?c ?_); (case c => walk_at "n"))
  | ((with_reducible refine v_pow ?c ?_); (case c => exact ⟨by decide, by decide, by decide⟩))
  | with_reducible refine v_neg ?_
  | with_reducible exact trivial
  | with_reducible refine v_eq_int ?_
  | with_reducible refine v_eq_str ?_
  | with_reducible refine v_eq_bl ?_
  | with_reducible refine v_ne_int ?_
  | with_reducible refine v_ne_str ?_
  | with_reducible refine v_ne_bl ?_
  | with_reducible refine v_lt ?_
  | with_reducible refine v_lt_str ?_
  | with_reducible refine t_ks ?_
  | with_reducible refine t_rv ?_
  | with_reducible refine v_seq_ktp ?_
  | ((with_reducible refine' v_extend ?e ?f ?l ?_); (case e => walk_at "h"); (case f => walk_at "h"); (case l => walk_at "l"))
  | with_reducible refine v_le ?_
  | with_reducible refine v_gt ?_
  | with_reducible refine v_ge ?_
  | with_reducible refine v_isi_non ?_
  | with_reducible refine v_isi_bl ?_
  | with_reducible refine v_isi_int ?_
  | with_reducible refine v_isi_str ?_
  | with_reducible refine v_isi_tup ?_
  | with_reducible refine v_in_str ?_
  | with_reducible refine v_nin_str ?_
  | with_reducible refine v_len_tup ?_
  | with_reducible refine v_len_rol ?_
  | ((with_reducible refine v_len_str ?l ?_); (case l => walk_at "l"))
  | ((with_reducible refine' v_len_ref ?e ?_); (case e => walk_at "h"))
  | with_reducible refine v_int_int ?_
  | with_reducible refine v_max ?_
  | with_reducible refine v_min ?_
  | with_reducible refine v_tuple_tup ?_
  | ((with_reducible refine' v_tuple_ref ?e ?_); (case e => walk_at "h"))
  | ((with_reducible refine' v_ix_ref ?e ?f ?_); (case e => walk_at "h"); (case f => first | assumption | exact rfl))
  | ((with_reducible refine' v_ix_tup ?f ?_); (case f => first | assumption | exact rfl))
  | ((with_reducible refine' v_set ?e ?f ?_); (case e => walk_at "h"); (case f => first | assumption | exact rfl))
  | ((with_reducible refine v_sl_str ?l ?_); (case l => walk_at "l"))
  | with_reducible refine v_sl_tup ?_
  | with_reducible refine v_seq_tup ?_
  | with_reducible refine v_seq_str ?_
  | with_reducible refine v_seq_rol ?_
  | ((with_reducible refine' v_seq_ref ?e ?_); (case e => walk_at "h"))
  | ((with_reducible refine' ⟨v_ty_ref ?e, ?_⟩); (case e => walk_at "h"))
  | ((with_reducible refine' v_append ?e ?l ?_); (case e => walk_at "h"); (case l => walk_at "l")))
local macro_rules | `(tactic| walk_at "d1") => `(tactic| first | with_reducible refine t_seq ?_ | walk_at "e1")
local macro_rules | `(tactic| walk_at "d") => `(tactic| repeat walk_at "d1")
-- one statement
local macro_rules | `(tactic| walk_at "e") => `(tactic| ((repeat walk_at "e1"); try (with_reducible show sSeq _ _ _ _ _)))
local macro_rules | `(tactic| walk_at "s") => `(tactic| ((with_reducible refine t_seq ?_); walk_at "e"))
/-- a test of one thing: the answer, and the heap as it was -/
abbrev ask (n : Nat) (f : D → Bool) : DSp := fun ds M P => ∃ d, ds = [d] ∧ good n d ∧ P (.bl (f d)) M
/-- .. the heap grown -/
abbrev askX (n : Nat) (f : D → Bool) : DSp := fun ds M P => ∃ d, ds = [d] ∧ good n d ∧ ∀ M', MExt M M' → P (.bl (f d)) M'
def sp_is_number : DSp := ask 1000 numB
theorem ok_is_number (ds : List D) (M : Mh) (P : PQ) (h : sp_is_number ds M P) : b_is_number { nx := fun _ M' => P .non M', rt := P } (startD 1 ds) M := by
  obtain ⟨d, rfl, g, k⟩ := h
  unfold b_is_number
  cases d <;> first | exact False.elim g | skip
  all_goals (walk_at "d"; first | exact k | skip)
  all_goals (refine t_ite (fun e => ?_) (fun e => ?_) <;> first | (cases e; done) | skip)
  all_goals (try walk_at "d")
  all_goals first | exact k | skip
theorem in_let (c : Nat) : strIn ⟨#[c]⟩ LET = letB c := strIn_one
theorem in_fig (c : Nat) : strIn ⟨#[c]⟩ FIG = figB c := strIn_one
theorem in_both (c : Nat) : strIn ⟨#[c]⟩ (LET ++ FIG) = sgnB c := by
  rw [strIn_one]
  have e : (LET ++ FIG).cps.toList = LET.cps.toList ++ FIG.cps.toList := by decide +kernel
  rw [e]
  unfold sgnB letB figB
  simp only [List.mem_append, Bool.decide_or]
def sp_is_name : DSp := askX 1000 nameB
theorem ok_is_name (ds : List D) (M : Mh) (P : PQ) (h : sp_is_name ds M P) : b_is_name { nx := fun _ M' => P .non M', rt := P } (startD 3 ds) M := by
  obtain ⟨d, rfl, g, k⟩ := h
  unfold b_is_name
  cases d <;> first | exact False.elim g | skip
  all_goals (walk_at "d"; refine t_ite (fun e => ?_) (fun e => ?_) <;> first | (cases e; done) | skip)
  all_goals (walk_at "d")
  all_goals first | (refine t_if1 rfl ?_; walk_at "d"; exact k _ .refl) | skip
  rename_i z
  have gz : z.length ≤ 1000 := g
  have hl : z.length = z.cps.toList.length := by simp [Str.length]
  have k : ∀ M', MExt M M' → P (.bl (nameL z.cps.toList)) M' := k
  walk_at "e"
  refine t_ite (fun e1 => ?_) (fun e1 => ?_)
  · have e1 : (z.length : Int) < 1 := of_decide_eq_true e1
    refine t_if1 rfl ?_
    walk_at "d"
    cases q : z.cps.toList with
    | nil => rw [q] at k; exact k _ .refl
    | cons c r => rw [q, List.length_cons] at hl; omega
  have e1 : ¬ (z.length : Int) < 1 := of_decide_eq_false e1
  walk_at "e"
  refine t_ite (fun e2 => ?_) (fun e2 => ?_)
  · have e2 : 8 < (z.length : Int) := of_decide_eq_true e2
    walk_at "d"
    cases q : z.cps.toList with
    | nil => rw [q] at hl; simp at hl; omega
    | cons c r =>
      have : nameL z.cps.toList = false := by
        rw [q]
        rw [nameL_cons]
        rw [q] at hl
        rw [decide_eq_false (by omega)]; rfl
      rw [this] at k; exact k _ .refl
  have e2 : ¬ 8 < (z.length : Int) := of_decide_eq_false e2
  walk_at "e"
  walk_at "d"
  obtain ⟨c, r, q⟩ : ∃ c r, z.cps.toList = c :: r := by
    cases q : z.cps.toList with
    | nil => rw [q] at hl; simp at hl; omega
    | cons c r => exact ⟨c, r, rfl⟩
  have k : ∀ M', MExt M M' → P (.bl (letB c && (c :: r).all sgnB)) M' := by
    have : nameL z.cps.toList = (letB c && (c :: r).all sgnB) := by
      rw [q]
      rw [nameL_cons]
      rw [q] at hl
      rw [decide_eq_true (by omega), Bool.true_and]
    rw [this] at k; exact k
  refine v_ix_str (c := c) (by walk_at "l") (by rw [q]; exact atI_zero c r) ?_
  walk_at "e"
  rw [in_let]
  refine t_ite (fun e3 => ?_) (fun e3 => ?_)
  · have e3 : letB c = false := by simpa using e3
    rw [e3] at k
    walk_at "d"
    exact k _ .refl
  have e3 : letB c = true := by simpa using e3
  rw [e3] at k
  walk_at "d"
  intro p np
  refine lc_eachT (fun i acc M' => MKeep (· = p) M M' ∧ (acc = [] ↔ ((c :: r).take i).all sgnB = true)) (by rw [List.length_map, ← hl, sizeLine_eq]; omega) mup_same ⟨.put rfl, by simp⟩ (fun R S i d acc M' hd ha hI hp hR hS => ?_) (fun acc M' ha hI hp => ?_)
  · obtain ⟨x1, hi⟩ := hI
    refine ⟨trivial, ?_⟩
    rw [q, List.getElem?_map] at hd
    obtain ⟨x, hx, rfl⟩ := Option.map_eq_some_iff.mp hd
    have ht : ((c :: r).take (i + 1)).all sgnB = (((c :: r).take i).all sgnB && sgnB x) := by
      rw [List.take_add_one, hx, List.all_append]; simp
    refine ⟨_, rfl, ?_⟩
    walk_at "d"
    rw [in_both]
    refine t_ite (fun e4 => ?_) (fun e4 => ?_)
    · walk_at "d"
      refine hR _ _ hp ⟨x1.trans (.put rfl), ?_⟩
      rw [ht]
      simp at e4
      simp [e4]
    · refine hS _ hp ⟨x1, ?_⟩
      rw [ht]
      simp at e4
      rw [e4, Bool.and_true]
      exact hi
  · obtain ⟨x1, hi⟩ := hI
    refine ⟨trivial, ?_⟩
    have hn : (List.map (fun c => D.str ⟨#[c]⟩) z.cps.toList).length = (c :: r).length := by rw [q, List.length_map]
    rw [hn, List.take_length] at hi
    walk_at "d"
    have x2 : MExt M M' := fun a o _ h => x1 a o (ne_free h np) h
    have e5 : ((acc.length : Int) == 0) = (true && (c :: r).all sgnB) := by
      rw [Bool.true_and, Bool.eq_iff_iff, ← hi]
      cases acc <;> simp
      omega
    rw [e5]
    exact k _ x2

theorem res_flat (z : Str) : inOk (.str z) RES := .inl ⟨rfl, by decide⟩
def sp_is_label : DSp := askX 1000 labB
theorem ok_is_label (ds : List D) (M : Mh) (P : PQ) (h : sp_is_label ds M P) : b_is_label sp_is_name { nx := fun _ M' => P .non M', rt := P } (startD 2 ds) M := by
  obtain ⟨d, rfl, g, k⟩ := h
  unfold b_is_label
  walk_at "d"
  refine ⟨by walk_at "l", fun p np => ?_⟩
  walk_at "d"
  refine ⟨rfl, d, rfl, g, fun M' x1 => ?_⟩
  walk_at "e"
  unfold labB at k
  have x2 : MExt M M' := (MKeep.fresh np).trans x1
  refine t_ite (fun e => ?_) (fun e => ?_)
  · obtain ⟨z, rfl⟩ := nameB_true e
    rw [e] at k
    walk_at "e"
    exact v_nin_ref (x1 _ _ (fun z => z) mup_same) (res_flat z) (k _ x2)
  · rw [e] at k ⊢
    exact k _ x2
theorem four {ds : List D} (h : ds.length = 4) : ∃ a b c d, ds = [a, b, c, d] := by
  match ds, h with
  | [a, b, c, d], _ => exact ⟨_, _, _, _, rfl⟩
theorem moveB_not {many : Int} {ds : List D} (h : ds.length ≠ 4) : moveB many (.tup ds) = false := by
  unfold moveB
  split
  · rename_i e
    cases e
    exact absurd rfl h
  · rfl
def sp_is_move : DSp := fun ds M P => ∃ many d, ds = [d, .int many] ∧ good 1000 d ∧ ∀ M', MExt M M' → P (.bl (moveB many d)) M'
theorem ok_is_move (ds : List D) (M : Mh) (P : PQ) (h : sp_is_move ds M P) : b_is_move sp_is_number sp_is_label { nx := fun _ M' => P .non M', rt := P } (startD 3 ds) M := by
  obtain ⟨many, d, rfl, g, k⟩ := h
  unfold b_is_move
  cases d <;> first | exact False.elim g | skip
  all_goals (walk_at "d"; refine t_ite (fun e => ?_) (fun e => ?_) <;> first | (cases e; done) | skip)
  all_goals first | (refine t_if1 rfl ?_; walk_at "d"; exact k _ .refl) | skip
  rename_i ds
  walk_at "e"
  refine t_ite (fun e => ?_) (fun e => ?_)
  · refine t_if1 rfl ?_
    walk_at "d"
    rw [moveB_not (by
      intro z
      rw [z] at e
      cases e)] at k
    exact k _ .refl
  have e : ds.length = 4 := by
    simp at e
    omega
  obtain ⟨a, b, c, d, rfl⟩ := four e
  obtain ⟨_, gs⟩ := good_tup.mp g
  have ga := gs a (by simp)
  have gb := gs b (by simp)
  have gc := gs c (by simp)
  have gd := gs d (by simp)
  have k : ∀ M', MExt M M' → P (.bl (labB a && spanB b c && intB (fun i => decide (0 ≤ i) && decide (i < many)) d)) M' := k
  walk_at "e"
  refine ⟨rfl, a, rfl, ga, fun M1 x1 => ?_⟩
  walk_at "e"
  refine t_ite (fun e1 => ?_) (fun e1 => ?_)
  · walk_at "d"
    have e1 : labB a = false := by simpa using e1
    rw [e1] at k
    exact k _ x1
  have e1 : labB a = true := by simpa using e1
  rw [e1] at k
  walk_at "d"
  intro p np
  refine lc_eachT (fun i acc M' => MKeep (· = p) M1 M' ∧ (acc = [] ↔ ([b, c, d].take i).all numB = true)) (by show 3 < sizeLine; rw [sizeLine_eq]; decide) mup_same ⟨.put rfl, by simp⟩ (fun R S i y acc M' hd ha hI hp hR hS => ?_) (fun acc M' ha hI hp => ?_)
  · obtain ⟨x2, hi⟩ := hI
    refine ⟨trivial, _, rfl, ?_⟩
    have hd : [b, c, d][i]? = some y := hd
    have ht : ([b, c, d].take (i + 1)).all numB = (([b, c, d].take i).all numB && numB y) := by
      rw [List.take_add_one, hd, List.all_append]; simp
    have gy : good 1000 y := gs y (by
      have := List.mem_of_getElem? hd
      exact List.mem_cons_of_mem _ this)
    walk_at "d"
    refine ⟨rfl, y, rfl, gy, ?_⟩
    walk_at "e"
    refine t_ite (fun e4 => ?_) (fun e4 => ?_)
    · walk_at "d"
      refine hR _ _ hp ⟨x2.trans (.put rfl), ?_⟩
      rw [ht]
      simp at e4
      simp [e4]
    · refine hS _ hp ⟨x2, ?_⟩
      rw [ht]
      simp at e4
      rw [e4, Bool.and_true]
      exact hi
  obtain ⟨x2, hi⟩ := hI
  refine ⟨trivial, ?_⟩
  have x3 : MExt M M' := fun a o n h => x2 a o (ne_free (x1 a o n h) np) (x1 a o n h)
  have hi : acc = [] ↔ (numB b && (numB c && numB d)) = true := by
    have : (List.take (cutD [a, b, c, d] (some 1) none).length [b, c, d]).all numB = (numB b && (numB c && numB d)) := by
      show ([b, c, d].take 3).all numB = _
      simp
    rw [← this]; exact hi
  walk_at "e"
  refine t_ite (fun e2 => ?_) (fun e2 => ?_)
  · walk_at "d"
    have hn : (numB b && (numB c && numB d)) = false := by
      rw [← Bool.not_eq_true, ← hi]
      intro z
      subst z
      cases e2
    have : (spanB b c && intB (fun i => decide (0 ≤ i) && decide (i < many)) d) = false := by
      cases b <;> first | rfl | skip
      cases c <;> first | rfl | skip
      cases d <;> first | (rw [show intB _ _ = false from rfl]; exact Bool.and_false _) | cases hn
    rw [Bool.and_assoc, this] at k
    exact k _ x3
  have e3 : acc = [] := by
    cases acc with
    | nil => rfl
    | cons y r =>
      have := of_decide_eq_false e2
      rw [List.length_cons] at this
      omega
  have hn := hi.mp e3
  simp only [Bool.and_eq_true] at hn
  obtain ⟨n1, n2, n3⟩ := hn
  obtain ⟨x, rfl⟩ := numB_true n1
  obtain ⟨y, rfl⟩ := numB_true n2
  obtain ⟨i, rfl⟩ := numB_true n3
  have k := k _ x3
  have k : P (.bl (true && (decide (0 ≤ x) && decide (x ≤ y) && decide (y ≤ 999999)) && (decide (0 ≤ i) && decide (i < many)))) M' := k
  rw [Bool.true_and] at k
  walk_at "d"
  refine t_ite (fun e4 => ?_) (fun e4 => by rw [e4] at k ⊢; exact k)
  rw [e4, Bool.true_and] at k
  walk_at "e"
  refine t_ite (fun e5 => ?_) (fun e5 => by rw [e5] at k ⊢; exact k)
  rw [e5, Bool.true_and] at k
  walk_at "e"
  refine t_ite (fun e6 => ?_) (fun e6 => by rw [e6] at k ⊢; exact k)
  rw [e6, Bool.true_and] at k
  walk_at "e"
  refine t_ite (fun e7 => ?_) (fun e7 => by rw [e7] at k ⊢; exact k)
  rw [e7, Bool.true_and] at k
  walk_at "e"
  exact k

theorem rng_get {lo : Int} {n i : Nat} {d : D} (h : (rngI lo n)[i]? = some d) : d = .int (lo + (i : Int)) ∧ i < n := by
  unfold rngI at h
  rw [List.getElem?_map] at h
  obtain ⟨k, hk, rfl⟩ := Option.map_eq_some_iff.mp h
  have h1 : i < n := by
    have := (List.getElem?_eq_some_iff.mp hk).1
    simpa using this
  rw [List.getElem?_range h1] at hk
  cases hk
  exact ⟨rfl, h1⟩
theorem rng_len {lo : Int} {n : Nat} : (rngI lo n).length = n := by simp [rngI]
def sp_is_moves : DSp := fun ds M P => ∃ many d, ds = [d, .int many] ∧ good 1000 d ∧ ∀ M', MExt M M' → P (.bl (movesB many d)) M'
theorem ok_is_moves (ds : List D) (M : Mh) (P : PQ) (h : sp_is_moves ds M P) : b_is_moves sp_is_move { nx := fun _ M' => P .non M', rt := P } (startD 4 ds) M := by
  obtain ⟨many, d, rfl, g, k⟩ := h
  unfold b_is_moves
  cases d <;> first | exact False.elim g | skip
  all_goals (walk_at "d"; refine t_ite (fun e => ?_) (fun e => ?_) <;> first | (cases e; done) | skip)
  all_goals first | (refine t_if1 rfl ?_; walk_at "d"; exact k _ .refl) | skip
  rename_i ds
  obtain ⟨hl, gs⟩ := good_tup.mp g
  have k : ∀ M', MExt M M' → P (.bl (!ds.isEmpty && ds.all (moveB many) && rowB ds)) M' := k
  walk_at "e"
  refine t_ite (fun e => ?_) (fun e => ?_)
  · walk_at "d"
    have : ds = [] := by
      cases ds with
      | nil => rfl
      | cons a r => simp at e; omega
    subst this
    exact k _ .refl
  have e0 : (!ds.isEmpty) = true := by
    cases ds with
    | nil => simp at e
    | cons a r => rfl
  rw [e0] at k
  walk_at "d"
  intro p np
  refine lc_eachT (fun i acc M' => MKeep (· = p) M M' ∧ (acc = [] ↔ (ds.take i).all (moveB many) = true)) (by rw [sizeLine_eq]; omega) mup_same ⟨.put rfl, by simp⟩ (fun R S i y acc M' hd ha hI hp hR hS => ?_) (fun acc M' ha hI hp => ?_)
  · obtain ⟨x2, hi⟩ := hI
    refine ⟨trivial, _, rfl, ?_⟩
    have ht : (ds.take (i + 1)).all (moveB many) = ((ds.take i).all (moveB many) && moveB many y) := by
      rw [List.take_add_one, hd, List.all_append]; simp
    walk_at "d"
    refine ⟨rfl, many, y, rfl, gs y (List.mem_of_getElem? hd), fun M2 x3 => ?_⟩
    walk_at "e"
    have hp2 := x3 _ _ (fun z => z) hp
    have x4 : MKeep (· = p) M M2 := x2.trans (x3.mono fun _ z => z.elim)
    refine t_ite (fun e4 => ?_) (fun e4 => ?_)
    · walk_at "d"
      refine hR _ _ hp2 ⟨x4.trans (.put rfl), ?_⟩
      rw [ht]
      simp at e4
      simp [e4]
    · refine hS _ hp2 ⟨x4, ?_⟩
      rw [ht]
      simp at e4
      rw [e4, Bool.and_true]
      exact hi
  obtain ⟨x2, hi⟩ := hI
  refine ⟨trivial, ?_⟩
  rw [List.take_length] at hi
  have x3 : MExt M M' := fun a o n h => x2 a o (ne_free h np) h
  walk_at "e"
  refine t_ite (fun e2 => ?_) (fun e2 => ?_)
  · walk_at "d"
    have hn : ds.all (moveB many) = false := by
      rw [← Bool.not_eq_true, ← hi]
      intro z
      subst z
      cases e2
    rw [hn] at k
    exact k _ x3
  have e3 : acc = [] := by
    cases acc with
    | nil => rfl
    | cons y r =>
      have := of_decide_eq_false e2
      rw [List.length_cons] at this
      omega
  have hm := hi.mp e3
  have k := k _ x3
  rw [hm, Bool.true_and, Bool.true_and] at k
  have hm : ∀ x ∈ ds, moveB many x = true := List.all_eq_true.mp hm
  walk_at "e"
  walk_at "s"
  refine ⟨by omega, ?_⟩
  refine for_each (fun i ρ M2 => M2 = M' ∧ slot ρ 0 = some (.tup ds) ∧ ρ.length = 4 ∧ ∀ (j : Nat) (a b : D), j < i → ds[j]? = some a → ds[j + 1]? = some b → okPair a b = true) ⟨rfl, rfl, rfl, fun j _ _ h => absurd h (Nat.not_lt_zero _)⟩ (fun N i d ρ M2 hd hI hN => ?_) (fun ρ M2 hI => ?_)
  · obtain ⟨rfl, s1, s2, hi⟩ := hI
    refine ⟨trivial, ?_⟩
    obtain ⟨rfl, hlt⟩ := rng_get hd
    have hlt : i + 1 < ds.length := by omega
    match ρ, s2 with
    | [_, w1, w2, _], _ =>
    cases s1
    have ga : ds[i]? = some ds[i] := List.getElem?_eq_getElem (by omega)
    have gb : ds[i + 1]? = some ds[i + 1] := List.getElem?_eq_getElem hlt
    obtain ⟨x, l, h, gg, ea⟩ := moveB_true (hm _ (List.getElem_mem (by omega : i < ds.length)))
    obtain ⟨y, l2, h2, gg2, eb⟩ := moveB_true (hm _ (List.getElem_mem hlt))
    rw [ea] at ga
    rw [eb] at gb
    have a1 : atI ds ((1 + (i : Int)) - 1) = some (.tup [.str x, .int l, .int h, .int gg]) := atI_get? (by omega) (by rw [show ((1 + (i : Int)) - 1).toNat = i by omega]; exact ga)
    have b1 : atI ds (1 + (i : Int)) = some (.tup [.str y, .int l2, .int h2, .int gg2]) := atI_get? (by omega) (by rw [show (1 + (i : Int)).toNat = i + 1 by omega]; exact gb)
    have fin : (!decide (y.cps.toList < x.cps.toList) && !((y == x) && decide (l2 ≤ h))) = true → N [some (.tup ds), w1, w2, some (.int (1 + (i : Int)))] M2 := fun ok => hN _ _ ⟨rfl, rfl, rfl, fun j a b hj e1 e2 => by
      by_cases hji : j < i
      · exact hi j a b hji e1 e2
      · have : j = i := by omega
        subst this
        rw [ga] at e1
        rw [gb] at e2
        cases e1
        cases e2
        exact ok⟩
    have bad : (!decide (y.cps.toList < x.cps.toList) && !((y == x) && decide (l2 ≤ h))) = false → P (.bl false) M2 := fun no => by
      have : rowB ds = false := by
        rw [← Bool.not_eq_true, rowB_iff]
        intro z
        have z : (!decide (y.cps.toList < x.cps.toList) && !((y == x) && decide (l2 ≤ h))) = true := z i _ _ ga gb
        rw [z] at no
        cases no
      rw [this] at k
      exact k
    walk_at "e"
    walk_at "s"
    refine t_ite (fun e1 => ?_) (fun e1 => ?_)
    · walk_at "d"
      refine bad ?_
      rw [e1]; rfl
    rw [e1, Bool.not_false, Bool.true_and] at fin bad
    walk_at "d"
    refine t_ite (fun e2 => ?_) (fun e2 => ?_)
    · rw [e2, Bool.true_and] at fin bad
      walk_at "d"
      refine t_ite (fun e3 => ?_) (fun e3 => ?_)
      · walk_at "d"
        refine bad ?_
        rw [e3]; rfl
      · walk_at "e"
        refine fin ?_
        rw [e3]; rfl
    · refine t_if0 rfl ?_
      walk_at "e"
      refine fin ?_
      rw [e2]; rfl
  obtain ⟨rfl, s1, s2, hi⟩ := hI
  refine ⟨trivial, ?_⟩
  walk_at "d"
  have : rowB ds = true := rowB_iff.mpr fun i a b e1 e2 => hi i a b (by
    rw [rng_len]
    have := (List.getElem?_eq_some_iff.mp e2).1
    omega) e1 e2
  rw [this] at k
  exact k
end LW
/-! LWq: numbers, labels and strips that the laws draw, and what they are for sure. -/
namespace LW
open PySem DL L2
-- what the heap holds at a place
local macro_rules | `(tactic| walk_at "h") => `(tactic| first
  | assumption
  | exact mup_same
  | (refine (mup_ne ?_).trans ?_ <;> first | assumption | (apply Ne.symm; assumption) | walk_at "h"))
-- small facts of numbers
local macro_rules | `(tactic| walk_at "n") => `(tactic| first
  | assumption
  | omega
  | decide
  | (exact CMul.r (by decide))
  | (exact CMul.l (by decide))
  | (refine ⟨?_, ?_⟩ <;> first | assumption | omega | decide))
-- lengths
local macro_rules | `(tactic| walk_at "l") => `(tactic| first
  | assumption
  | (rw [sizeLine_eq]; first | omega | decide | (simp; done) | (simp; omega) | decide +kernel))
-- one step
local macro_rules | `(tactic| walk_at "e1") => `(tactic| first
  | with_reducible refine t_nil ?_
  | ((with_reducible refine' t_var ?s ?_); (case s => first | assumption | exact rfl))
  | with_reducible refine t_c ?_
  | with_reducible refine t_bin ?_
  | with_reducible refine t_if ?_
  | with_reducible refine t_asg ?_
  | with_reducible refine t_gN ?_
  | with_reducible refine t_ret ?_
  | with_reducible refine t_exp ?_
  | with_reducible refine t_bcmp ?_
  | with_reducible refine t_band ?_
  | with_reducible refine t_bor ?_
  | with_reducible refine t_bnot ?_
  | with_reducible refine t_btru ?_
  | with_reducible refine t_byes ?_
  | with_reducible refine t_an ?_
  | with_reducible refine t_ac ?_
  | with_reducible refine t_fn ?_
  | with_reducible refine t_call ?_
  | with_reducible refine t_cmp ?_
  | with_reducible refine t_and ?_
  | with_reducible refine t_or ?_
  | with_reducible refine t_not ?_
  | with_reducible refine t_ife ?_
  | with_reducible refine t_tup ?_
  | with_reducible refine t_lst ?_
  | with_reducible refine t_isi ?_
  | with_reducible refine t_sl ?_
  | with_reducible refine t_o0 ?_
  | with_reducible refine t_o1 ?_
  | with_reducible refine t_un ?_
  | with_reducible refine t_mt ?_
  | with_reducible refine t_gS ?_
  | with_reducible refine t_gsC ?_
  | with_reducible refine t_gsN ?_
  | ((with_reducible refine t_gT ?s ?_); (case s => first | assumption | exact rfl))
  | with_reducible refine t_retN ?_
  | with_reducible refine t_brk ?_
  | with_reducible refine t_cnt ?_
  | ((with_reducible refine' t_aug ?s ?_); (case s => first | assumption | exact rfl))
  | with_reducible refine t_for ?_
  | with_reducible refine t_seqi ?_
  | with_reducible refine t_rg1 ?_
  | with_reducible refine t_rg2 ?_
  | with_reducible refine t_lc ?_
  | with_reducible refine v_tru_bl ?_
  | with_reducible refine v_tru_int ?_
  | with_reducible refine v_tru_non ?_
  | with_reducible refine v_tru_tup ?_
  | with_reducible refine v_add_int ?_
  | ((with_reducible refine v_add_str ?l ?_); (case l => walk_at "l"))
  | ((with_reducible refine v_add_tup ?l ?_); (case l => walk_at "l"))
  | with_reducible refine v_iadd_int ?_
  | with_reducible refine v_sub ?_
  | ((with_reducible refine v_mul ?c ?_); (case c => walk_at "n"))
  | ((with_reducible refine v_div ?c ?_); (case c => walk_at "n"))
  | ((with_reducible refine v_mod ?c ?_); (case c => walk_at "n"))
  | ((with_reducible refine v_pow ?c ?_); (case c => exact ⟨by decide, by decide, by decide⟩))
  | with_reducible refine v_neg ?_
  | with_reducible exact trivial
  | with_reducible refine v_eq_int ?_
  | with_reducible refine v_eq_str ?_
  | with_reducible refine v_eq_bl ?_
  | with_reducible refine v_ne_int ?_
  | with_reducible refine v_ne_str ?_
  | with_reducible refine v_ne_bl ?_
  | with_reducible refine v_lt ?_
  | with_reducible refine v_lt_str ?_
  | with_reducible refine t_ks ?_
  | with_reducible refine t_rv ?_
  | with_reducible refine v_seq_ktp ?_
  | ((with_reducible refine' v_extend ?e ?f ?l ?_); (case e => walk_at "h"); (case f => walk_at "h"); (case l => walk_at "l"))
  | with_reducible refine v_le ?_
  | with_reducible refine v_gt ?_
  | with_reducible refine v_ge ?_
  | with_reducible refine v_isi_non ?_
  | with_reducible refine v_isi_bl ?_
  | with_reducible refine v_isi_int ?_
  | with_reducible refine v_isi_str ?_
  | with_reducible refine v_isi_tup ?_
  | with_reducible refine v_in_str ?_
  | with_reducible refine v_nin_str ?_
  | with_reducible refine v_len_tup ?_
  | with_reducible refine v_len_rol ?_
  | ((with_reducible refine v_len_str ?l ?_); (case l => walk_at "l"))
  | ((with_reducible refine' v_len_ref ?e ?_); (case e => walk_at "h"))
  | with_reducible refine v_int_int ?_
  | with_reducible refine v_max ?_
  | with_reducible refine v_min ?_
  | with_reducible refine v_tuple_tup ?_
  | ((with_reducible refine' v_tuple_ref ?e ?_); (case e => walk_at "h"))
  | ((with_reducible refine' v_ix_ref ?e ?f ?_); (case e => walk_at "h"); (case f => first | assumption | exact rfl))
  | ((with_reducible refine' v_ix_tup ?f ?_); (case f => first | assumption | exact rfl))
  | ((with_reducible refine' v_set ?e ?f ?_); (case e => walk_at "h"); (case f => first | assumption | exact rfl))
  | ((with_reducible refine v_sl_str ?l ?_); (case l => walk_at "l"))
  | with_reducible refine v_sl_tup ?_
  | with_reducible refine v_seq_tup ?_
  | with_reducible refine v_seq_str ?_
  | with_reducible refine v_seq_rol ?_
  | ((with_reducible refine' v_seq_ref ?e ?_); (case e => walk_at "h"))
  | ((with_reducible refine' ⟨v_ty_ref ?e, ?_⟩); (case e => walk_at "h"))
  | ((with_reducible refine' v_append ?e ?l ?_); (case e => walk_at "h"); (case l => walk_at "l")))
local macro_rules | `(tactic| walk_at "d1") => `(tactic| first | with_reducible refine t_seq ?_ | walk_at "e1")
local macro_rules | `(tactic| walk_at "d") => `(tactic| repeat walk_at "d1")
-- one statement
local macro_rules | `(tactic| walk_at "e") => `(tactic| ((repeat walk_at "e1"); try (with_reducible show sSeq _ _ _ _ _)))
local macro_rules | `(tactic| walk_at "s") => `(tactic| ((with_reducible refine t_seq ?_); walk_at "e"))
-- a drawn thing's small facts
local macro_rules | `(tactic| walk_at "gi") => `(tactic| first
  | exact gi_c trivial
  | exact gi_c ⟨_, rfl, by decide, by decide⟩
  | exact gi_c (show _ ≤ _ by decide)
  | exact gi_c (show _ ≤ _ by decide +kernel)
  | exact gi_v rfl trivial)
local macro_rules | `(tactic| walk_at "ga") => `(tactic| ((repeat (first | exact ga_nil | refine ga_cons2 ?_ ?_)); all_goals (try walk_at "gi")))
abbrev draws (j : Addr) (T : D → Prop) (M : Mh) (P : PQ) : Prop := ∀ d M', MKeep (· = j) M M' → JarOk M' j → T d → P d M'
theorem size_1000 {n : Nat} (h : n ≤ 100000) : n ≤ sizeLine := by rw [sizeLine_eq]; omega
theorem keep_two {M M' : Mh} {j p : Addr} (np : M p = none) (m : MKeep (fun a => a = j ∨ a = p) M M') : MKeep (· = j) M M' := fun a o na h => by
  have hap : a ≠ p := ne_free h np
  exact m a o (fun z => by rcases z with z | z; exact na z; exact hap z) h
theorem jar_put {M : Mh} {j p : Addr} {o : MO} (h : JarOk M j) (n : j ≠ p) : JarOk (mup M p o) j := by
  obtain ⟨a, b, c, q, r⟩ := h
  exact ⟨a, b, c, by rw [mup_ne n]; exact q, r⟩
theorem jar_fresh {M : Mh} {j p : Addr} {o : MO} (h : JarOk M j) (n : M p = none) : JarOk (mup M p o) j := jar_put h (h.ne n)
def sp_number : DSp := fun ds M P => ∃ j many, ds = [.ref j, .int many] ∧ JarOk M j ∧ 0 < many ∧ many < 1073741824 ∧ draws j (IsI 0 (many - 1)) M P
theorem ok_number (ds : List D) (M : Mh) (P : PQ) (h : sp_number ds M P) : b_number sp_pick { nx := fun _ M' => P .non M', rt := P } (startD 4 ds) M := by
  obtain ⟨j, many, rfl, hj, h0, h1, k⟩ := h
  unfold b_number
  walk_at "s"
  refine c_pick hj (by decide) fun way o1 w0 w1 j1 => ?_
  walk_at "e"
  walk_at "s"
  refine t_ite (fun e => ?_) (fun e => ?_)
  · walk_at "d"
    exact k _ _ (.put rfl) j1 ⟨_, rfl, by omega, by omega⟩
  walk_at "e"
  walk_at "s"
  refine t_ite (fun e2 => ?_) (fun e2 => ?_)
  · walk_at "d"
    refine c_pick j1 ⟨h0, h1⟩ fun x o2 x0 x1 j2 => ?_
    exact k _ _ (keepj.trans keepj) j2 ⟨_, rfl, by omega, by omega⟩
  have e : way ≠ 0 := by simpa using e
  have e2 : way ≠ 1 := by simpa using e2
  walk_at "e"
  refine t_seq (t_asg ?_)
  refine (gi_menu (n := 10) (T := IsI 1 12) (h := 9) ?_ ?_ (by decide) (size_1000 (by decide))).run j1 fun d M2 m2 j2 t2 => ?_
  · walk_at "ga"
  · exact (gi_sub (l1 := 2) (h1 := 11) (l2 := 2) (h2 := 2) (gi_v rfl ⟨_, rfl, by omega, by omega⟩) (gi_c ⟨_, rfl, by decide, by decide⟩)).mono fun d ⟨i, e, q1, q2⟩ => ⟨i, e, by omega, by omega⟩
  obtain ⟨s, rfl, s0, s1⟩ := t2
  walk_at "d"
  refine c_pick j2 (by split <;> omega) fun x o3 x0 x1 j3 => ?_
  exact k _ _ (keepj.trans (m2.trans keepj)) j3 ⟨_, rfl, by omega, by split at x1 <;> omega⟩

/-! ### labels -/
theorem lit_app (y z : Str) : (y ++ z).cps.toList = y.cps.toList ++ z.cps.toList := by
  have h := st_app (lit y) (lit z)
  rw [st_lit, st_lit] at h
  rw [h, st_cps]; rfl
theorem len_lit (z : Str) : z.length = z.cps.toList.length := by simp [Str.length]
def nm (z : Str) : Prop := nameL z.cps.toList = true
def lab (z : Str) : Prop := labB (.str z) = true
theorem lab_nm {z : Str} (h : lab z) : nm z := by
  unfold lab labB at h
  rw [Bool.and_eq_true] at h
  exact h.1
theorem nm_len {z : Str} (h : nm z) : 0 < z.length ∧ z.length ≤ 8 := by
  unfold nm at h
  rw [len_lit]
  cases q : z.cps.toList with
  | nil => rw [q] at h; cases h
  | cons c r =>
    rw [q, nameL_cons, Bool.and_eq_true, Bool.and_eq_true] at h
    exact ⟨Nat.succ_pos _, of_decide_eq_true h.1.1⟩
theorem nameL_snoc {l : List Nat} {c : Nat} (h : nameL l = true) (h8 : l.length < 8) (hc : sgnB c = true) : nameL (l ++ [c]) = true := by
  cases l with
  | nil => cases h
  | cons x r =>
    rw [nameL_cons, Bool.and_eq_true, Bool.and_eq_true] at h
    rw [List.cons_append, nameL_cons, Bool.and_eq_true, Bool.and_eq_true]
    refine ⟨⟨decide_eq_true (by simp at h8 ⊢; omega), h.1.2⟩, ?_⟩
    rw [← List.cons_append, List.all_append, h.2]
    simp [hc]
theorem nm_snoc {w : Str} {c : Nat} (h : nm w) (h8 : w.length < 8) (hc : sgnB c = true) : nm (w ++ (⟨#[c]⟩ : Str)) := by
  unfold nm
  rw [lit_app]
  exact nameL_snoc h (by rw [← len_lit]; exact h8) hc
theorem kept_lab {w : Str} (h : nm w) (n : labB (.str w) = false) : lab (w ++ (("0" : String) : Str)) := by
  unfold labB at n
  have h1 : nameB (.str w) = true := h
  rw [h1, Bool.true_and] at n
  have n : memD (.str w) RES = true := by simpa using n
  unfold memD at n
  simp only [RES, List.any_cons, List.any_nil, deq_str, Bool.or_eq_true, beq_iff_eq, Bool.or_false] at n
  unfold lab
  rcases n with n | n | n | n | n | n | n | n | n | n | n <;> (rw [← n]; decide +kernel)
abbrev L36 : Str := "abcdefghijklmnopqrstuvwxyz0123456789"
theorem L36_len : L36.cps.toList.length = 36 := by decide +kernel
theorem L36_size : L36.length = 36 := by decide +kernel
theorem L36_sgn {x : Nat} (h : x ∈ L36.cps.toList) : sgnB x = true := by
  have a : L36.cps.toList.all sgnB = true := by decide +kernel
  exact List.all_eq_true.mp a x h
theorem L36_let {k : Nat} {x : Nat} (h : L36.cps.toList[k]? = some x) (hk : k < 26) : letB x = true := by
  have a : (L36.cps.toList.take 26).all letB = true := by decide +kernel
  refine List.all_eq_true.mp a x (List.mem_of_getElem? (i := k) ?_)
  rw [List.getElem?_take, if_pos hk]; exact h
def sp_kept_label : DSp := fun ds M P => ∃ w, ds = [.str w] ∧ nm w ∧ ∀ (z : Str) M', lab z → MExt M M' → P (.str z) M'
theorem ok_kept_label (ds : List D) (M : Mh) (P : PQ) (h : sp_kept_label ds M P) : b_kept_label sp_is_label { nx := fun _ M' => P .non M', rt := P } (startD 1 ds) M := by
  obtain ⟨w, rfl, hw, k⟩ := h
  have hl := nm_len hw
  unfold b_kept_label
  walk_at "s"
  refine ⟨rfl, .str w, rfl, show w.length ≤ 1000 by omega, fun M1 x1 => ?_⟩
  walk_at "e"
  refine t_ite (fun e => ?_) (fun e => ?_)
  · walk_at "d"
    exact k _ _ e x1
  · walk_at "e"
    have l0 : (("0" : String) : Str).length = 1 := by decide +kernel
    refine t_seq (t_ret (t_bin (t_var rfl (t_c (v_add_str (size_1000 (by omega)) ?_)))))
    exact k _ _ (kept_lab hw e) x1
def sp_free_label : DSp := fun ds M P => ∃ j, ds = [.ref j] ∧ JarOk M j ∧ ∀ (z : Str) M', lab z → MKeep (· = j) M M' → JarOk M' j → P (.str z) M'
theorem ok_free_label (ds : List D) (M : Mh) (P : PQ) (h : sp_free_label ds M P) : b_free_label sp_kept_label sp_pick { nx := fun _ M' => P .non M', rt := P } (startD 4 ds) M := by
  obtain ⟨j, rfl, hj, k⟩ := h
  have sm := L36_len
  have sm2 := L36_size
  have sm3 : (("abcdefghijklmnopqrstuvwxyz0123456789" : String) : Str).length = 36 := L36_size
  unfold b_free_label
  walk_at "s"
  walk_at "s"
  refine c_pick hj (by decide) fun c o1 c0 c1 j1 => ?_
  obtain ⟨x, h1, h2, h3⟩ := atI_mem (ds := L36.cps.toList) c0 (by rw [sm]; omega)
  refine v_ix_str (size_1000 (by omega)) h1 ?_
  have n1 : nm (⟨#[x]⟩ : Str) := by
    have := L36_let h3 (by omega)
    show nameL [x] = true
    rw [nameL_cons, this]
    simp [sgnB, this]
  walk_at "e"
  refine t_seq (t_for (t_rg1 (t_ac ?_)))
  refine (gi_menu (n := 7) (T := IsI 0 7) (h := 6) ?_ ?_ (by decide) (size_1000 (by decide))).run j1 fun d M2 m2 j2 t2 => ?_
  · walk_at "ga"
    exact gi_pick (m := 8) (h := 8) rfl (gi_c ⟨_, rfl, by decide, by decide⟩) (by decide) (by decide)
  · exact gi_pick (m := 7) (h := 7) rfl (gi_c ⟨_, rfl, by decide, by decide⟩) (by decide) (by decide)
  obtain ⟨s, rfl, s0, s1⟩ := t2
  refine t_an ⟨by omega, ?_⟩
  refine for_each (fun i ρ M' => MKeep (· = j) M M' ∧ JarOk M' j ∧ ∃ (w : Str) (w3 : Option D), ρ = [some (.ref j), some (.str L36), some (.str w), w3] ∧ w.length = 1 + i ∧ nm w) ⟨keepj.trans m2, j2, _, _, rfl, rfl, n1⟩ (fun N i d ρ M' hd hI hN => ?_) (fun ρ M' hI => ?_)
  · obtain ⟨m3, j3, w, w3, rfl, hw, hn⟩ := hI
    obtain ⟨rfl, hlt⟩ := rng_get hd
    refine ⟨trivial, ?_⟩
    walk_at "d"
    refine c_pick j3 (by decide) fun c o4 c0 c1 j4 => ?_
    obtain ⟨y, h1, h2, _⟩ := atI_mem (ds := L36.cps.toList) c0 (by rw [sm]; omega)
    refine v_ix_str (size_1000 (by omega)) h1 ?_
    have ly : (⟨#[y]⟩ : Str).length = 1 := rfl
    refine v_add_str (size_1000 (by omega)) ?_
    walk_at "d"
    exact hN _ _ ⟨m3.trans keepj, j4, _, _, rfl, by rw [str_app_len, hw, ly]; omega, nm_snoc hn (by omega) (L36_sgn h2)⟩
  · obtain ⟨m3, j3, w, w3, rfl, hw, hn⟩ := hI
    refine ⟨trivial, ?_⟩
    walk_at "d"
    refine ⟨rfl, w, rfl, hn, fun z M4 hz x4 => ?_⟩
    exact k z _ hz (m3.trans (x4.mono fun _ q => q.elim)) (j3.keep x4 (fun q => q))
def ltS (a b : Str) : Prop := a.cps.toList < b.cps.toList
theorem ltS_irr {a : Str} : ¬ ltS a a := List.lt_irrefl _
theorem ltS_trans {a b c : Str} (h : ltS a b) (k : ltS b c) : ltS a c := List.lt_trans h k
theorem ltS_asymm {a b : Str} (h : ltS a b) : ¬ ltS b a := List.lt_asymm h
theorem str_eq {a b : Str} (h : a.cps.toList = b.cps.toList) : a = b := str_ext h
theorem ltS_tri {a b : Str} (h : ¬ ltS b a) (n : a ≠ b) : ltS a b := by
  apply Classical.byContradiction
  intro q
  exact n (str_eq (List.le_antisymm (List.not_lt.mp h) (List.not_lt.mp q)))
theorem eS_ltS {a b : Str} : eD (.str a) < eD (.str b) ↔ ltS a b := by
  have := eS_lt a.cps.toList b.cps.toList [] []
  rw [List.append_nil, List.append_nil] at this
  show eS a < eS b ↔ _
  unfold eS
  rw [this]
  unfold ltS
  by_cases e : a.cps.toList = b.cps.toList
  · rw [if_pos e, e]
    exact ⟨fun h => absurd h (List.lt_irrefl _), fun h => absurd h (List.lt_irrefl _)⟩
  · rw [if_neg e]
theorem memD_strs {w : Str} {zs : List Str} : memD (.str w) (zs.map D.str) = true ↔ w ∈ zs := by
  unfold memD
  rw [List.any_map, List.any_eq_true]
  constructor
  · rintro ⟨x, hx, e⟩
    have e : deq (.str x) (.str w) = true := e
    rw [deq_str, beq_iff_eq] at e
    rw [← e]; exact hx
  · intro h
    exact ⟨w, h, by show deq (.str w) (.str w) = true; rw [deq_str, beq_iff_eq]⟩
/-- a list that is new, and what it holds: ascending labels -/
def sp_labels : DSp := fun ds M P => ∃ j, ds = [.ref j] ∧ JarOk M j ∧ ∀ (p : Addr) (zs : List Str) M', 0 < zs.length → zs.length ≤ 4 → (∀ z ∈ zs, lab z) → zs.Pairwise ltS → M' p = some (.lst (zs.map D.str)) → p ≠ j → MKeep (· = j) M M' → JarOk M' j → P (.ref p) M'
theorem ok_labels (ds : List D) (M : Mh) (P : PQ) (h : sp_labels ds M P) : b_labels sp_pick sp_kept_label sp_free_label { nx := fun _ M' => P .non M', rt := P } (startD 5 ds) M := by
  obtain ⟨j, rfl, hj, k⟩ := h
  have sm := L36_len
  have sm2 := L36_size
  have sm3 : (("abcdefghijklmnopqrstuvwxyz0123456789" : String) : Str).length = 36 := L36_size
  unfold b_labels
  walk_at "s"
  walk_at "s"
  refine ⟨by walk_at "l", fun p np => ?_⟩
  have jp := hj.ne np
  have hj1 := hj.keep (.fresh (S := fun _ => False) (o := .lst []) np) (fun z => z)
  walk_at "e"
  walk_at "s"
  refine c_pick hj1 (by decide) fun c o1 c0 c1 j1 => ?_
  walk_at "e"
  refine ⟨by omega, ?_⟩
  have fl : ∀ zs : List Str, (zs.map D.str).all flatD = true := fun zs => by
    induction zs with
    | nil => rfl
    | cons z r ih => rw [List.map_cons, List.all_cons, ih]; rfl
  refine for_each (fun i ρ M' => MKeep (fun a => a = j ∨ a = p) M M' ∧ JarOk M' j ∧ ∃ (zs : List Str) (w3 w4 : Option D), ρ = [some (.ref j), some (.str L36), some (.ref p), w3, w4] ∧ M' p = some (.lst (zs.map D.str)) ∧ zs.length ≤ i ∧ (0 < i → 0 < zs.length) ∧ (∀ z ∈ zs, lab z) ∧ zs.Nodup)
    ⟨(MKeep.fresh np).trans (.put (.inl rfl)), j1, [], _, _, rfl, by rw [mup_ne jp.symm]; exact mup_same, Nat.le_refl _, fun h => absurd h (by decide), by simp, by simp⟩ (fun N i d ρ M' hd hI hN => ?_) (fun ρ M' hI => ?_)
  · obtain ⟨m3, j3, zs, w3, w4, rfl, hp, h1, h2, h3, h4⟩ := hI
    obtain ⟨rfl, hlt⟩ := rng_get hd
    refine ⟨trivial, ?_⟩
    walk_at "e"
    walk_at "s"
    refine ⟨rfl, j, rfl, j3, fun z M4 hz x4 j4 => ?_⟩
    have hp4 := x4 _ _ (fun q => jp q.symm) hp
    have m4 : MKeep (fun a => a = j ∨ a = p) M M4 := m3.trans (x4.mono fun _ q => .inl q)
    walk_at "e"
    -- the word, kept or made longer
    refine t_cut (fun ρ' M' => MKeep (fun a => a = j ∨ a = p) M M' ∧ JarOk M' j ∧ ∃ (w : Str), ρ' = [some (.ref j), some (.str L36), some (.ref p), some (.int (0 + (i : Int))), some (.str w)] ∧ M' p = some (.lst (zs.map D.str)) ∧ lab w) (fun N2 hN2 => ?_) ?_
    · have same : N2 [some (.ref j), some (.str L36), some (.ref p), some (.int (0 + (i : Int))), some (.str z)] M4 := hN2 _ _ ⟨m4, j4, z, rfl, hp4, hz⟩
      walk_at "e"
      refine t_ite (fun e => ?_) (fun e => ?_)
      · cases zs with
        | nil => cases e
        | cons y r =>
          have hy := h3 y List.mem_cons_self
          have hy8 := nm_len (lab_nm hy)
          have g0 : atI ((y :: r).map D.str) 0 = some (.str y) := atI_zero _ _
          walk_at "e"
          refine t_ite (fun e2 => ?_) (fun e2 => ?_)
          · have e2 : (y.length : Int) < 8 := of_decide_eq_true e2
            walk_at "e"
            refine c_pick j4 (by decide) fun c o5 c0 c1 j5 => ?_
            have hp5 : (mup M4 j o5) p = some (.lst ((y :: r).map D.str)) := by rw [mup_ne jp.symm]; exact hp4
            walk_at "e"
            refine t_ite (fun e3 => ?_) (fun e3 => ?_)
            · walk_at "e"
              walk_at "s"
              refine c_pick j5 (by decide) fun c o6 c0 c1 j6 => ?_
              obtain ⟨u, q1, q2, _⟩ := atI_mem (ds := L36.cps.toList) c0 (by rw [sm]; omega)
              refine v_ix_str (size_1000 (by omega)) q1 ?_
              have lu : (⟨#[u]⟩ : Str).length = 1 := rfl
              refine v_add_str (size_1000 (by omega)) ?_
              walk_at "d"
              have l5 := str_app_len y ⟨#[u]⟩
              refine ⟨rfl, _, rfl, nm_snoc (lab_nm hy) (by omega) (L36_sgn q2), fun z7 M7 hz7 x7 => ?_⟩
              walk_at "d"
              have hp6 : (mup (mup M4 j o5) j o6) p = some (.lst ((y :: r).map D.str)) := by rw [mup_ne jp.symm]; exact hp5
              exact hN2 _ _ ⟨m4.trans ((MKeep.put (.inl rfl)).trans ((MKeep.put (.inl rfl)).trans (x7.mono fun _ q => q.elim))), j6.keep x7 (fun q => q), z7, rfl, x7 _ _ (fun q => q) hp6, hz7⟩
            · walk_at "e"
              exact hN2 _ _ ⟨m4.trans (.put (.inl rfl)), j5, z, rfl, hp5, hz⟩
          · refine t_if0 rfl ?_
            walk_at "e"
            exact same
      · refine t_if0 rfl ?_
        walk_at "e"
        exact same
    rintro ρ' M8 ⟨m8, j8, w, rfl, hp8, hw⟩
    walk_at "d"
    refine v_nin_ref hp8 (.inl ⟨rfl, fl zs⟩) ?_
    refine t_ite (fun e => ?_) (fun e => ?_)
    · have nw : w ∉ zs := fun h => by
        rw [memD_strs.mpr h] at e
        cases e
      walk_at "e"
      refine t_seq (t_exp (t_mt (t_var rfl ⟨v_ty_ref hp8, t_ac (t_var rfl (t_an (v_append hp8 (by rw [List.length_map, sizeLine_eq]; omega) ?_)))⟩)))
      walk_at "e"
      refine hN _ _ ⟨m8.trans (.put (.inr rfl)), jar_put j8 jp, zs ++ [w], _, _, rfl, by rw [mup_same, List.map_append]; rfl, by rw [List.length_append]; simp; omega, fun _ => by rw [List.length_append]; simp, fun y hy => ?_, ?_⟩
      · rcases List.mem_append.mp hy with hy | hy
        · exact h3 y hy
        · rw [List.mem_singleton.mp hy]; exact hw
      · rw [List.nodup_append]
        exact ⟨h4, by simp, fun a ha b hb => by rw [List.mem_singleton.mp hb]; exact fun e => nw (e ▸ ha)⟩
    · walk_at "e"
      refine hN _ _ ⟨m8, j8, zs, _, _, rfl, hp8, by omega, fun _ => ?_, h3, h4⟩
      cases zs with
      | nil => simp [memD] at e
      | cons y r => simp
  · obtain ⟨m3, j3, zs, w3, w4, rfl, hp, h1, h2, h3, h4⟩ := hI
    refine ⟨trivial, ?_⟩
    rw [rng_len] at h1 h2
    walk_at "e"
    refine t_seq (t_ret (t_call (t_ac (t_var rfl (t_an (v_sorted hp (.inr (.inl fun d hd => ?_)) fun ys q hys hpw nq => ?_))))))
    · obtain ⟨z, _, rfl⟩ := List.mem_map.mp hd
      exact ⟨z, rfl⟩
    obtain ⟨zs', p1, rfl⟩ := perm_map_inv hys zs rfl
    have jq := j3.ne nq
    have l1 := p1.length_eq
    refine k q zs' _ (by omega) (by omega) (fun z hz => h3 z (p1.mem_iff.mp hz)) ?_ mup_same jq.symm (fun a o na h => ?_) (j3.keep (.fresh (S := fun _ => False) nq) fun z => z)
    · have a1 : zs'.Pairwise fun a b => ¬ ltS b a := (List.pairwise_map.mp hpw).imp fun h q => h (eS_ltS.mpr q)
      have a2 : zs'.Nodup := p1.nodup_iff.mpr h4
      exact (a1.and a2).imp fun ⟨x, y⟩ => ltS_tri x y
    have hap : a ≠ p := ne_free h np
    have := m3 a o (fun z => by rcases z with z | z; exact na z; exact hap z) h
    rw [mup_ne (ne_free this nq)]; exact this

/-! ### moves -/
structure Mo where
  z : Str
  l : Int
  h : Int
  g : Int
def Mo.d (m : Mo) : D := .tup [.str m.z, .int m.l, .int m.h, .int m.g]
def Mo.lt (a b : Mo) : Prop := ltS a.z b.z ∨ (a.z = b.z ∧ a.h < b.l)
structure Mo.ok (many : Int) (m : Mo) : Prop where
  lab : lab m.z
  l0 : 0 ≤ m.l
  lh : m.l ≤ m.h
  h1 : m.h ≤ 999999
  g0 : 0 ≤ m.g
  g1 : m.g < many
structure Row (many : Int) (ms : List Mo) : Prop where
  ok : ∀ m ∈ ms, m.ok many
  asc : ms.Pairwise Mo.lt
def sp_strips : DSp := fun ds M P => ∃ j z many count, ds = [.ref j, .str z, .int many, .int count] ∧ lab z ∧ JarOk M j ∧ 0 < many ∧ many < 1073741824 ∧ 1 ≤ count ∧ count ≤ 9 ∧
  ∀ (p : Addr) (ms : List Mo) M', 0 < ms.length → ms.length ≤ 9 → (∀ m ∈ ms, m.z = z) → Row many ms → M' p = some (.lst (ms.map Mo.d)) → p ≠ j → M p = none → MKeep (· = j) M M' → JarOk M' j → P (.ref p) M'
theorem ok_strips (ds : List D) (M : Mh) (P : PQ) (h : sp_strips ds M P) : b_strips sp_number { nx := fun _ M' => P .non M', rt := P } (startD 8 ds) M := by
  obtain ⟨j, z, many, count, rfl, hz, hj, h0, h1, c0, c1, k⟩ := h
  unfold b_strips
  walk_at "s"
  refine ⟨by walk_at "l", fun p np => ?_⟩
  have jp := hj.ne np
  have hj1 := hj.keep (.fresh (S := fun _ => False) (o := .lst []) np) (fun z => z)
  walk_at "e"
  walk_at "s"
  refine ⟨rfl, j, 1000000, rfl, hj1, by decide, by decide, fun d M1 m1 j1 t1 => ?_⟩
  obtain ⟨a, rfl, a0, a1⟩ := t1
  walk_at "e"
  refine t_cut (fun ρ M' => MKeep (fun b => b = j ∨ b = p) M M' ∧ JarOk M' j ∧ ∃ (xs : List Mo) (w5 w6 w7 : Option D), ρ = [some (.ref j), some (.str z), some (.int many), some (.int count), some (.ref p), w5, w6, w7] ∧ M' p = some (.lst (xs.map Mo.d)) ∧ 0 < xs.length ∧ xs.length ≤ 9 ∧ (∀ m ∈ xs, m.z = z) ∧ Row many xs) (fun N0 hN0 => ?_) ?_
  · walk_at "e"
    refine ⟨by omega, ?_⟩
    refine for_each (fun i ρ M' => MKeep (fun b => b = j ∨ b = p) M M' ∧ JarOk M' j ∧ ∃ (xs : List Mo) (a : Int) (w6 w7 : Option D), ρ = [some (.ref j), some (.str z), some (.int many), some (.int count), some (.ref p), some (.int a), w6, w7] ∧ M' p = some (.lst (xs.map Mo.d)) ∧ xs.length = i ∧ 0 ≤ a ∧ (i = 0 → a ≤ 999999) ∧ (∀ m ∈ xs, m.z = z ∧ m.h < a) ∧ Row many xs)
      ⟨(MKeep.fresh np).trans (m1.mono fun _ q => .inl q), j1, [], a, _, _, rfl, m1 _ _ (fun q => jp q.symm) mup_same, rfl, a0, fun _ => by omega, by simp, ⟨by simp, by simp⟩⟩ (fun N i d ρ M' hd hI hN => ?_) (fun ρ M' hI => ?_)
    · obtain ⟨m3, j3, xs, a, w6, w7, rfl, hp, hl, a0, a1, hx, hr⟩ := hI
      obtain ⟨rfl, hlt⟩ := rng_get hd
      refine ⟨trivial, ?_⟩
      walk_at "e"
      walk_at "s"
      refine t_ite (fun e => ?_) (fun e => ?_)
      · have e : 999999 < a := of_decide_eq_true e
        walk_at "d"
        refine hN0 _ _ ⟨m3, j3, xs, _, _, _, rfl, hp, ?_, by omega, fun m hm => (hx m hm).1, hr⟩
        rcases Nat.eq_zero_or_pos i with z | z
        · have := a1 z; omega
        · omega
      have e : ¬ 999999 < a := of_decide_eq_false e
      walk_at "e"
      walk_at "s"
      refine ⟨rfl, j, 1000000 - a, rfl, j3, by omega, by omega, fun d M4 m4 j4 t4 => ?_⟩
      obtain ⟨b, rfl, b0, b1⟩ := t4
      walk_at "e"
      have hp4 := m4 _ _ (fun q => jp q.symm) hp
      refine t_seq (t_exp (t_mt (t_var rfl ⟨v_ty_ref hp4, t_ac (t_tup (t_ac (t_var rfl (t_ac (t_var rfl (t_ac (t_var rfl (t_ac (t_fn (t_ac (t_var rfl (t_ac (t_var rfl (t_an ⟨rfl, j, many, rfl, j4, h0, h1, fun d M5 m5 j5 t5 => ?_⟩))))))))))))))⟩)))
      obtain ⟨g, rfl, g0, g1⟩ := t5
      have hp5 := m5 _ _ (fun q => jp q.symm) hp4
      refine t_an ⟨size_1000 (show 4 ≤ 100000 by decide), t_an (v_append hp5 (by rw [List.length_map, sizeLine_eq]; omega) ?_)⟩
      have j6 : JarOk (mup M5 p (.lst (xs.map Mo.d ++ [.tup [.str z, .int a, .int (a + b), .int g]]))) j := jar_put j5 jp
      walk_at "e"
      walk_at "s"
      refine ⟨rfl, j, 1000000, rfl, j6, by decide, by decide, fun d M7 m7 j7 t7 => ?_⟩
      obtain ⟨c, rfl, q0, q1⟩ := t7
      walk_at "d"
      refine hN _ _ ⟨m3.trans ((m4.mono fun _ q => .inl q).trans ((m5.mono fun _ q => .inl q).trans ((MKeep.put (.inr rfl)).trans (m7.mono fun _ q => .inl q)))), j7, xs ++ [⟨z, a, a + b, g⟩], _, _, _, rfl, (m7 _ _ (fun q => jp q.symm) mup_same).trans (by rw [List.map_append]; rfl), by rw [List.length_append, hl]; rfl, by omega, fun h => absurd h (by omega), fun x hx' => ?_, ⟨fun x hx' => ?_, ?_⟩⟩
      · rcases List.mem_append.mp hx' with h | h
        · exact ⟨(hx x h).1, by have := (hx x h).2; omega⟩
        · rw [List.mem_singleton.mp h]; exact ⟨rfl, by show a + b < _; omega⟩
      · rcases List.mem_append.mp hx' with h | h
        · exact hr.ok x h
        · rw [List.mem_singleton.mp h]; exact ⟨hz, a0, by show a ≤ a + b; omega, by show a + b ≤ _; omega, g0, by show g < many; omega⟩
      · rw [List.pairwise_append]
        exact ⟨hr.asc, by simp, fun x hx' y hy => by rw [List.mem_singleton.mp hy]; exact .inr ⟨(hx x hx').1, (hx x hx').2⟩⟩
    · obtain ⟨m3, j3, xs, a, w6, w7, rfl, hp, hl, a0, a1, hx, hr⟩ := hI
      refine ⟨trivial, ?_⟩
      rw [rng_len] at hl
      exact hN0 _ _ ⟨m3, j3, xs, _, _, _, rfl, hp, by omega, by omega, fun m hm => (hx m hm).1, hr⟩
  rintro ρ M' ⟨m3, j3, xs, w5, w6, w7, rfl, hp, l0, l1, hx, hr⟩
  walk_at "d"
  exact k p xs M' l0 l1 hx hr hp jp.symm np (keep_two np m3) j3
end LW
/-! K02m: moves by points, in plain mathematics. -/
namespace K02
open PySem DL L2 LW

def ins (z : Str) (v : Int) (m : Mo) : Bool := (m.z == z) && (decide (m.l ≤ v) && decide (v ≤ m.h))
theorem ins_iff {z : Str} {v : Int} {m : Mo} : ins z v m = true ↔ m.z = z ∧ m.l ≤ v ∧ v ≤ m.h := by
  unfold ins
  rw [Bool.and_eq_true, Bool.and_eq_true, beq_iff_eq, decide_eq_true_eq, decide_eq_true_eq]
def nexts (ms : List Mo) (z : Str) (v : Int) : List Int := (ms.filter (ins z v)).map Mo.g
theorem nexts_app (ms ns : List Mo) (z : Str) (v : Int) : nexts (ms ++ ns) z v = nexts ms z v ++ nexts ns z v := by
  unfold nexts
  rw [List.filter_append, List.map_append]
theorem nexts_one (m : Mo) (z : Str) (v : Int) : nexts [m] z v = if ins z v m = true then [m.g] else [] := by
  unfold nexts
  by_cases h : ins z v m = true
  · rw [if_pos h, List.filter_cons_of_pos h]; rfl
  · rw [if_neg h, List.filter_cons_of_neg h]; rfl
def has (ms : List Mo) (z : Str) (v : Int) : Prop := ∃ m ∈ ms, ins z v m = true
theorem nexts_has {ms : List Mo} {z : Str} {v : Int} : nexts ms z v ≠ [] ↔ has ms z v := by
  unfold nexts has
  rw [Ne, List.map_eq_nil_iff, List.filter_eq_nil_iff]
  simp
theorem filter_has {ms : List Mo} {z : Str} {v : Int} : ms.filter (ins z v) ≠ [] ↔ has ms z v := by
  unfold has
  rw [Ne, List.filter_eq_nil_iff]
  simp
theorem has_app {ms ns : List Mo} {z : Str} {v : Int} : has (ms ++ ns) z v ↔ has ms z v ∨ has ns z v := by
  unfold has
  simp only [List.mem_append, or_and_right, exists_or]
theorem has_one {m : Mo} {z : Str} {v : Int} : has [m] z v ↔ ins z v m = true := by
  unfold has
  simp
theorem has_nil {z : Str} {v : Int} : ¬ has [] z v := by
  unfold has
  simp
/-- at most one next -/
theorem lt_not_both {a b : Mo} {z : Str} {v : Int} (h : a.lt b) (ha : ins z v a = true) : ¬ ins z v b = true := by
  rw [ins_iff] at ha ⊢
  rintro ⟨rfl, h1, h2⟩
  rcases h with h | ⟨h, h3⟩
  · rw [ha.1] at h; exact ltS_irr h
  · omega
theorem Mo.lt_trans {a b c : Mo} (hb : b.l ≤ b.h) (h : a.lt b) (k : b.lt c) : a.lt c := by
  rcases h with h | ⟨h, h2⟩
  · rcases k with k | ⟨k, k2⟩
    · exact .inl (ltS_trans h k)
    · exact .inl (k ▸ h)
  · rcases k with k | ⟨k, k2⟩
    · exact .inl (h ▸ k)
    · exact .inr ⟨h.trans k, by omega⟩

/-! ### merged -/
def joins (a m : Mo) : Prop := a.z = m.z ∧ a.h + 1 = m.l ∧ a.g = m.g
structure Mrg (many : Int) (ms r : List Mo) : Prop where
  row : Row many r
  apart : ∀ (i : Nat) (a b : Mo), r[i]? = some a → r[i + 1]? = some b → ¬ joins a b
  nx : ∀ z v, nexts r z v = nexts ms z v
  cov : ∀ x ∈ r, ∃ y ∈ ms, x.z = y.z ∧ x.h = y.h
  len : r.length ≤ ms.length
  emp : ms ≠ [] → r ≠ []
theorem Mrg.nil {many : Int} : Mrg many [] [] := ⟨⟨by simp, by simp⟩, by simp, fun _ _ => rfl, by simp, Nat.le_refl _, fun h => h⟩
theorem Mrg.below {many : Int} {ms r : List Mo} {m : Mo} (H : Mrg many ms r) (hlt : ∀ y ∈ ms, y.lt m) : ∀ x ∈ r, x.lt m := fun x hx => by
  obtain ⟨y, hy, e1, e2⟩ := H.cov x hx
  have := hlt y hy
  unfold Mo.lt at this ⊢
  rw [e1, e2]; exact this
theorem Mrg.put {many : Int} {ms r : List Mo} {m : Mo} (H : Mrg many ms r) (hm : m.ok many) (hlt : ∀ y ∈ ms, y.lt m) (hj : ∀ a, r.getLast? = some a → ¬ joins a m) : Mrg many (ms ++ [m]) (r ++ [m]) where
  row := ⟨fun x hx => by
      rcases List.mem_append.mp hx with h | h
      · exact H.row.ok x h
      · rw [List.mem_singleton.mp h]; exact hm, by
      rw [List.pairwise_append]
      exact ⟨H.row.asc, by simp, fun x hx y hy => by rw [List.mem_singleton.mp hy]; exact H.below hlt x hx⟩⟩
  apart := fun i a b e1 e2 => by
    have hi := (List.getElem?_eq_some_iff.mp e2).1
    rw [List.length_append, List.length_singleton] at hi
    by_cases h : i + 1 < r.length
    · rw [List.getElem?_append_left h] at e2
      rw [List.getElem?_append_left (by omega)] at e1
      exact H.apart i a b e1 e2
    · have h2 : i + 1 = r.length := by omega
      rw [List.getElem?_append_right (by omega), h2, Nat.sub_self] at e2
      rw [List.getElem?_append_left (by omega)] at e1
      cases e2
      refine hj a ?_
      rw [List.getLast?_eq_getElem?, ← e1]
      congr 1
      omega
  nx := fun z v => by rw [nexts_app, nexts_app, H.nx]
  cov := fun x hx => by
    rcases List.mem_append.mp hx with h | h
    · obtain ⟨y, hy, e⟩ := H.cov x h
      exact ⟨y, List.mem_append_left _ hy, e⟩
    · rw [List.mem_singleton.mp h]; exact ⟨m, by simp, rfl, rfl⟩
  len := by rw [List.length_append, List.length_append]; exact Nat.add_le_add_right H.len _
  emp := fun _ => by simp
theorem Mrg.join {many : Int} {ms r : List Mo} {a m : Mo} (H : Mrg many ms (r ++ [a])) (hm : m.ok many) (hj : joins a m) : Mrg many (ms ++ [m]) (r ++ [⟨m.z, a.l, m.h, m.g⟩]) := by
  obtain ⟨j1, j2, j3⟩ := hj
  have oa : a.ok many := H.row.ok a (by simp)
  have hmlh := hm.lh
  have halh := oa.lh
  have asc := List.pairwise_append.mp H.row.asc
  refine ⟨⟨fun x hx => ?_, ?_⟩, fun i x y e1 e2 => ?_, fun z v => ?_, fun x hx => ?_, ?_, fun _ => by simp⟩
  · rcases List.mem_append.mp hx with h | h
    · exact H.row.ok x (List.mem_append_left _ h)
    · rw [List.mem_singleton.mp h]; exact ⟨hm.lab, oa.l0, by show a.l ≤ m.h; omega, hm.h1, hm.g0, hm.g1⟩
  · rw [List.pairwise_append]
    refine ⟨asc.1, by simp, fun x hx y hy => ?_⟩
    rw [List.mem_singleton.mp hy]
    have := asc.2.2 x hx a (by simp)
    unfold Mo.lt at this ⊢
    rw [j1] at this; exact this
  · have hi := (List.getElem?_eq_some_iff.mp e2).1
    rw [List.length_append, List.length_singleton] at hi
    by_cases h : i + 1 < r.length
    · rw [List.getElem?_append_left h] at e2
      rw [List.getElem?_append_left (by omega)] at e1
      exact H.apart i x y (by rw [List.getElem?_append_left (by omega)]; exact e1) (by rw [List.getElem?_append_left h]; exact e2)
    · have h2 : i + 1 = r.length := by omega
      rw [List.getElem?_append_right (by omega), h2, Nat.sub_self] at e2
      rw [List.getElem?_append_left (by omega)] at e1
      cases e2
      have := H.apart i x a (by rw [List.getElem?_append_left (by omega)]; exact e1) (by rw [List.getElem?_append_right (by omega), h2, Nat.sub_self]; rfl)
      unfold joins at this ⊢
      rw [j1, j3] at this; exact this
  · rw [nexts_app, nexts_app, ← H.nx, nexts_app, List.append_assoc]
    congr 1
    rw [nexts_one, nexts_one, nexts_one]
    simp only [ins_iff]
    by_cases e : m.z = z
    · rw [j1, j3]
      simp only [e, true_and]
      by_cases h1 : a.l ≤ v ∧ v ≤ a.h
      · rw [if_pos (show a.l ≤ v ∧ v ≤ m.h by omega), if_pos h1, if_neg (show ¬ (m.l ≤ v ∧ v ≤ m.h) by omega)]; rfl
      · rw [if_neg h1]
        by_cases h2 : m.l ≤ v ∧ v ≤ m.h
        · rw [if_pos (show a.l ≤ v ∧ v ≤ m.h by omega), if_pos h2]; rfl
        · rw [if_neg (show ¬ (a.l ≤ v ∧ v ≤ m.h) by omega), if_neg h2]; rfl
    · rw [j1]
      simp [e]
  · rcases List.mem_append.mp hx with h | h
    · obtain ⟨y, hy, e⟩ := H.cov x (List.mem_append_left _ h)
      exact ⟨y, List.mem_append_left _ hy, e⟩
    · rw [List.mem_singleton.mp h]; exact ⟨m, by simp, rfl, rfl⟩
  · have := H.len
    rw [List.length_append] at this ⊢
    rw [List.length_append]
    simp at this ⊢
    omega
theorem has_of_nx {ms r : List Mo} {z : Str} {v : Int} (h : nexts r z v = nexts ms z v) : has r z v ↔ has ms z v := by
  rw [← nexts_has, ← nexts_has, h]

/-! ### cut away -/
structure Cut (lo hi : Int) (S ps : List (Int × Int)) (at' : Int) : Prop where
  a0 : lo ≤ at'
  w : at' = lo ∨ ∃ s ∈ S, at' = s.2 + 1
  i : ∀ p ∈ ps, lo ≤ p.1 ∧ p.1 ≤ p.2 ∧ p.2 ≤ hi ∧ p.2 < at'
  asc : ps.Pairwise fun p q => p.2 < q.1
  cov : ∀ v, lo ≤ v → v ≤ hi → v < at' → ((∃ p ∈ ps, p.1 ≤ v ∧ v ≤ p.2) ↔ ¬ ∃ s ∈ S, s.1 ≤ v ∧ v ≤ s.2)
  out : ∀ s ∈ S, ∀ v, at' ≤ v → v ≤ hi → ¬ (s.1 ≤ v ∧ v ≤ s.2)
  len : ps.length ≤ S.length
theorem ex_snoc {α : Type} {S : List α} {s : α} {P : α → Prop} : (∃ x ∈ S ++ [s], P x) ↔ (∃ x ∈ S, P x) ∨ P s := by
  simp only [List.mem_append, List.mem_singleton, or_and_right, exists_or, exists_eq_left]
theorem Cut.nil {lo hi : Int} : Cut lo hi [] [] lo := ⟨Int.le_refl _, .inl rfl, by simp, by simp, fun v a b c => by omega, by simp, Nat.le_refl _⟩
section
variable {lo hi low high at' : Int} {S ps : List (Int × Int)}
theorem Cut.before (H : Cut lo hi S ps at') (hs : ∀ s ∈ S, s.2 < low) {v : Int} (h0 : lo ≤ v) (h1 : v < at') : ¬ (low ≤ v ∧ v ≤ high) := by
  rintro ⟨h2, h3⟩
  rcases H.w with h | ⟨s, h, e⟩
  · omega
  · have := hs s h
    omega
theorem Cut.skip (H : Cut lo hi S ps at') (hs : ∀ s ∈ S, s.2 < low) (h : high < at' ∨ hi < low) : Cut lo hi (S ++ [(low, high)]) ps at' where
  a0 := H.a0
  w := by
    rcases H.w with h | ⟨s, h, e⟩
    · exact .inl h
    · exact .inr ⟨s, List.mem_append_left _ h, e⟩
  i := H.i
  asc := H.asc
  cov := fun v h0 h1 h2 => by
    rw [ex_snoc, H.cov v h0 h1 h2]
    have := H.before (high := high) hs h0 h2
    simp only [this, or_false]
  out := fun s h' v h1 h2 => by
    rcases List.mem_append.mp h' with q | q
    · exact H.out s q v h1 h2
    · rw [List.mem_singleton.mp q]
      show ¬ (low ≤ v ∧ v ≤ high)
      omega
  len := by rw [List.length_append]; have := H.len; omega
theorem Cut.near (H : Cut lo hi S ps at') (hs : ∀ s ∈ S, s.2 < low) (h1 : ¬ high < at') (h2 : ¬ hi < low) (h3 : ¬ at' < low) : Cut lo hi (S ++ [(low, high)]) ps (high + 1) where
  a0 := by have := H.a0; omega
  w := .inr ⟨(low, high), by simp, rfl⟩
  i := fun p hp => by
    have := H.i p hp
    omega
  asc := H.asc
  cov := fun v q0 q1 q2 => by
    rw [ex_snoc]
    by_cases c : v < at'
    · rw [H.cov v q0 q1 c]
      have := H.before (high := high) hs q0 c
      simp only [this, or_false]
    · constructor
      · rintro ⟨p, hp, h⟩
        have := H.i p hp
        omega
      · intro h
        exact absurd (.inr ⟨by show low ≤ v; omega, by show v ≤ high; omega⟩) h
  out := fun s h' v h1 h2 => by
    rcases List.mem_append.mp h' with q | q
    · exact H.out s q v (by omega) h2
    · rw [List.mem_singleton.mp q]
      show ¬ (low ≤ v ∧ v ≤ high)
      omega
  len := by rw [List.length_append]; have := H.len; omega
theorem Cut.gap (H : Cut lo hi S ps at') (hs : ∀ s ∈ S, s.2 < low) (hl : low ≤ high) (h1 : ¬ high < at') (h2 : ¬ hi < low) (h3 : at' < low) : Cut lo hi (S ++ [(low, high)]) (ps ++ [(at', low - 1)]) (high + 1) where
  a0 := by have := H.a0; omega
  w := .inr ⟨(low, high), by simp, rfl⟩
  i := fun p hp => by
    have a0 := H.a0
    rcases List.mem_append.mp hp with q | q
    · have := H.i p q
      omega
    · rw [List.mem_singleton.mp q]
      show lo ≤ at' ∧ at' ≤ low - 1 ∧ low - 1 ≤ hi ∧ low - 1 < high + 1
      omega
  asc := by
    rw [List.pairwise_append]
    refine ⟨H.asc, by simp, fun p hp q hq => ?_⟩
    rw [List.mem_singleton.mp hq]
    exact (H.i p hp).2.2.2
  cov := fun v q0 q1 q2 => by
    rw [ex_snoc, ex_snoc]
    show ((∃ p ∈ ps, p.1 ≤ v ∧ v ≤ p.2) ∨ at' ≤ v ∧ v ≤ low - 1) ↔ ¬ ((∃ s ∈ S, s.1 ≤ v ∧ v ≤ s.2) ∨ low ≤ v ∧ v ≤ high)
    by_cases c : v < at'
    · rw [H.cov v q0 q1 c]
      have := H.before (high := high) hs q0 c
      have h4 : ¬ (at' ≤ v ∧ v ≤ low - 1) := by omega
      simp only [this, h4, or_false]
    · have h4 : ¬ ∃ p ∈ ps, p.1 ≤ v ∧ v ≤ p.2 := by
        rintro ⟨p, hp, h⟩
        have := H.i p hp
        omega
      have h5 : ¬ ∃ s ∈ S, s.1 ≤ v ∧ v ≤ s.2 := by
        rintro ⟨s, hs, h⟩
        exact H.out s hs v (by omega) q1 h
      simp only [h4, h5, false_or]
      omega
  out := fun s h' v h1 h2 => by
    rcases List.mem_append.mp h' with q | q
    · exact H.out s q v (by omega) h2
    · rw [List.mem_singleton.mp q]
      show ¬ (low ≤ v ∧ v ≤ high)
      omega
  len := by rw [List.length_append, List.length_append]; have := H.len; simp; omega
end
structure CutR (lo hi : Int) (S ps : List (Int × Int)) : Prop where
  i : ∀ p ∈ ps, lo ≤ p.1 ∧ p.1 ≤ p.2 ∧ p.2 ≤ hi
  asc : ps.Pairwise fun p q => p.2 < q.1
  cov : ∀ v, lo ≤ v → v ≤ hi → ((∃ p ∈ ps, p.1 ≤ v ∧ v ≤ p.2) ↔ ¬ ∃ s ∈ S, s.1 ≤ v ∧ v ≤ s.2)
  len : ps.length ≤ S.length + 1
theorem Cut.last {lo hi at' : Int} {S ps : List (Int × Int)} (H : Cut lo hi S ps at') (h : at' ≤ hi) : CutR lo hi S (ps ++ [(at', hi)]) where
  i := fun p hp => by
    have a0 := H.a0
    rcases List.mem_append.mp hp with q | q
    · have := H.i p q
      omega
    · rw [List.mem_singleton.mp q]
      show lo ≤ at' ∧ at' ≤ hi ∧ hi ≤ hi
      omega
  asc := by
    rw [List.pairwise_append]
    refine ⟨H.asc, by simp, fun p hp q hq => ?_⟩
    rw [List.mem_singleton.mp hq]
    exact (H.i p hp).2.2.2
  cov := fun v q0 q1 => by
    rw [ex_snoc]
    show ((∃ p ∈ ps, p.1 ≤ v ∧ v ≤ p.2) ∨ at' ≤ v ∧ v ≤ hi) ↔ _
    by_cases c : v < at'
    · rw [← H.cov v q0 q1 c]
      have h4 : ¬ (at' ≤ v ∧ v ≤ hi) := by omega
      simp only [h4, or_false]
    · refine ⟨fun _ => ?_, fun _ => .inr ⟨by omega, q1⟩⟩
      rintro ⟨s, hs, h⟩
      exact H.out s hs v (by omega) q1 h
  len := by rw [List.length_append]; have := H.len; simp; omega
theorem Cut.end' {lo hi at' : Int} {S ps : List (Int × Int)} (H : Cut lo hi S ps at') (h : ¬ at' ≤ hi) : CutR lo hi S ps where
  i := fun p hp => by have := H.i p hp; omega
  asc := H.asc
  cov := fun v q0 q1 => H.cov v q0 q1 (by omega)
  len := by have := H.len; omega

/-! ### missing -/
def spans (z : Str) (ms : List Mo) : List (Int × Int) := (ms.filter fun m => m.z == z).map fun m => (m.l, m.h)
theorem spans_has {z : Str} {ms : List Mo} {v : Int} : (∃ s ∈ spans z ms, s.1 ≤ v ∧ v ≤ s.2) ↔ has ms z v := by
  unfold spans has
  constructor
  · rintro ⟨s, hs, h⟩
    obtain ⟨m, hm, rfl⟩ := List.mem_map.mp hs
    obtain ⟨h1, h2⟩ := List.mem_filter.mp hm
    exact ⟨m, h1, ins_iff.mpr ⟨by simpa using h2, h⟩⟩
  · rintro ⟨m, hm, h⟩
    obtain ⟨e, h⟩ := ins_iff.mp h
    exact ⟨(m.l, m.h), List.mem_map.mpr ⟨m, List.mem_filter.mpr ⟨hm, by simpa using e⟩, rfl⟩, h⟩
theorem spans_asc {z : Str} {many : Int} {ms : List Mo} (r : Row many ms) : (spans z ms).Pairwise (fun p q => p.2 < q.1) ∧ ∀ s ∈ spans z ms, s.1 ≤ s.2 := by
  unfold spans
  refine ⟨?_, fun s hs => ?_⟩
  · rw [List.pairwise_map]
    have h := r.asc.sublist (List.filter_sublist (p := fun m : Mo => m.z == z) (l := ms))
    refine h.imp_of_mem fun {a b} ha hb h => ?_
    have e1 : a.z = z := by simpa using (List.mem_filter.mp ha).2
    have e2 : b.z = z := by simpa using (List.mem_filter.mp hb).2
    rcases h with h | h
    · rw [e1, e2] at h; exact absurd h ltS_irr
    · exact h.2
  · obtain ⟨m, hm, rfl⟩ := List.mem_map.mp hs
    exact (r.ok m (List.mem_filter.mp hm).1).lh
theorem spans_len {z : Str} {ms : List Mo} : (spans z ms).length ≤ ms.length := by
  unfold spans
  rw [List.length_map]; exact List.length_filter_le _ _
structure Mis (ms right fs : List Mo) : Prop where
  row : Row 1 fs
  cov : ∀ x ∈ fs, ∃ y ∈ ms, x.z = y.z ∧ x.h ≤ y.h
  pts : ∀ z v, has fs z v ↔ has ms z v ∧ ¬ has right z v
theorem Mis.nil {right : List Mo} : Mis [] right [] := ⟨⟨by simp, by simp⟩, by simp, fun z v => by simp [has_nil]⟩
theorem Mis.put {many : Int} {ms right fs : List Mo} {m : Mo} {ps : List (Int × Int)} (H : Mis ms right fs) (hm : m.ok many) (hlt : ∀ y ∈ ms, y.lt m) (c : CutR m.l m.h (spans m.z right) ps) :
    Mis (ms ++ [m]) right (fs ++ ps.map fun p => ⟨m.z, p.1, p.2, 0⟩) where
  row := ⟨fun x hx => by
      rcases List.mem_append.mp hx with h | h
      · exact H.row.ok x h
      · obtain ⟨p, hp, rfl⟩ := List.mem_map.mp h
        have := c.i p hp
        have a1 := hm.l0
        have a2 := hm.h1
        exact ⟨hm.lab, by show 0 ≤ p.1; omega, this.2.1, by show p.2 ≤ _; omega, by show (0 : Int) ≤ 0; decide, by show (0 : Int) < 1; decide⟩, by
      rw [List.pairwise_append, List.pairwise_map]
      refine ⟨H.row.asc, c.asc.imp fun h => .inr ⟨rfl, h⟩, fun x hx y hy => ?_⟩
      obtain ⟨p, hp, rfl⟩ := List.mem_map.mp hy
      obtain ⟨y, hy, e1, e2⟩ := H.cov x hx
      rcases hlt y hy with h | ⟨h, h2⟩
      · exact .inl (by rw [e1]; exact h)
      · refine .inr ⟨by rw [e1]; exact h, ?_⟩
        have := c.i p hp
        show x.h < p.1
        omega⟩
  cov := fun x hx => by
    rcases List.mem_append.mp hx with h | h
    · obtain ⟨y, hy, e⟩ := H.cov x h
      exact ⟨y, List.mem_append_left _ hy, e⟩
    · obtain ⟨p, hp, rfl⟩ := List.mem_map.mp h
      exact ⟨m, by simp, rfl, (c.i p hp).2.2⟩
  pts := fun z v => by
    rw [has_app, has_app, has_one, H.pts]
    have : has (ps.map fun p => (⟨m.z, p.1, p.2, 0⟩ : Mo)) z v ↔ ins z v m = true ∧ ¬ has right z v := by
      constructor
      · rintro ⟨x, hx, h⟩
        obtain ⟨p, hp, rfl⟩ := List.mem_map.mp hx
        obtain ⟨rfl, h1, h2⟩ := ins_iff.mp h
        have h1 : p.1 ≤ v := h1
        have h2 : v ≤ p.2 := h2
        have := c.i p hp
        refine ⟨ins_iff.mpr ⟨rfl, by omega, by omega⟩, ?_⟩
        have := (c.cov v (by omega) (by omega)).mp ⟨p, hp, h1, h2⟩
        rwa [spans_has] at this
      · rintro ⟨h, h2⟩
        obtain ⟨rfl, h3, h4⟩ := ins_iff.mp h
        rw [← spans_has] at h2
        obtain ⟨p, hp, h⟩ := (c.cov v h3 h4).mpr h2
        exact ⟨⟨m.z, p.1, p.2, 0⟩, List.mem_map.mpr ⟨p, hp, rfl⟩, ins_iff.mpr ⟨rfl, h⟩⟩
    rw [this]
    constructor
    · rintro (⟨a, b⟩ | ⟨a, b⟩)
      · exact ⟨.inl a, b⟩
      · exact ⟨.inr a, b⟩
    · rintro ⟨a | a, b⟩
      · exact .inl ⟨a, b⟩
      · exact .inr ⟨a, b⟩

/-! ### moves made from others -/
structure Near (many : Int) (ms fs : List Mo) : Prop where
  row : Row many fs
  cov : ∀ x ∈ fs, ∃ y ∈ ms, x.z = y.z ∧ x.h ≤ y.h
theorem Near.nil {many : Int} : Near many [] [] := ⟨⟨by simp, by simp⟩, by simp⟩
/-- the floor that the last one found gives -/
def floorOf (fs : List Mo) (z : Str) : Int := match fs.getLast? with
  | some l => if l.z = z then l.h + 1 else 0
  | none => 0
theorem Near.floor {many : Int} {ms fs : List Mo} {m : Mo} (H : Near many ms fs) (hm : m.ok many) (hlt : ∀ y ∈ ms, y.lt m) : 0 ≤ floorOf fs m.z ∧ floorOf fs m.z ≤ m.l := by
  unfold floorOf
  have a1 := hm.l0
  cases q : fs.getLast? with
  | none => exact ⟨Int.le_refl _, a1⟩
  | some l =>
    show 0 ≤ (if l.z = m.z then l.h + 1 else 0) ∧ (if l.z = m.z then l.h + 1 else 0) ≤ m.l
    have hl : l ∈ fs := List.mem_of_getLast? q
    split
    · rename_i e
      obtain ⟨y, hy, e1, e2⟩ := H.cov l hl
      have o := H.row.ok l hl
      have := o.l0
      have := o.lh
      rcases hlt y hy with h | ⟨_, h⟩
      · rw [← e1, e] at h; exact absurd h ltS_irr
      · omega
    · exact ⟨Int.le_refl _, a1⟩
theorem Near.put {many : Int} {ms fs ns : List Mo} {m : Mo} (H : Near many ms fs) (hlt : ∀ y ∈ ms, y.lt m) (hr : Row many ns) (hn : ∀ x ∈ ns, x.z = m.z ∧ x.h ≤ m.h ∧ floorOf fs m.z ≤ x.l) : Near many (ms ++ [m]) (fs ++ ns) where
  row := ⟨fun x hx => by
      rcases List.mem_append.mp hx with h | h
      · exact H.row.ok x h
      · exact hr.ok x h, by
      rw [List.pairwise_append]
      refine ⟨H.row.asc, hr.asc, fun f hf x hx => ?_⟩
      obtain ⟨e, h1, h2⟩ := hn x hx
      obtain ⟨y, hy, e1, e2⟩ := H.cov f hf
      rcases hlt y hy with h | ⟨h, h3⟩
      · exact .inl (by rw [e1, e]; exact h)
      have e3 : f.z = m.z := e1.trans h
      refine .inr ⟨e3.trans e.symm, ?_⟩
      -- the last one has the label, too
      cases q : fs.getLast? with
      | none => rw [List.getLast?_eq_none_iff] at q; subst q; cases hf
      | some l =>
        obtain ⟨r, rfl⟩ := List.getLast?_eq_some_iff.mp q
        have asc := (List.pairwise_append.mp H.row.asc).2.2
        have hl : l ∈ r ++ [l] := by simp
        have fl : f = l ∨ f.lt l := by
          rcases List.mem_append.mp hf with h | h
          · exact .inr (asc f h l (by simp))
          · exact .inl (List.mem_singleton.mp h)
        obtain ⟨y', hy', e1', e2'⟩ := H.cov l hl
        have e4 : l.z = m.z := by
          rcases fl with rfl | fl | ⟨fl, _⟩
          · exact e3
          · rcases hlt y' hy' with h | ⟨h, _⟩
            · rw [← e1'] at h
              exact absurd (ltS_trans fl h) (by rw [e3]; exact ltS_irr)
            · rw [e3, e1', h] at fl
              exact absurd fl ltS_irr
          · exact fl.symm.trans e3
        have h2 : floorOf (r ++ [l]) m.z ≤ x.l := h2
        unfold floorOf at h2
        rw [q] at h2
        have h2 : (if l.z = m.z then l.h + 1 else 0) ≤ x.l := h2
        rw [if_pos e4] at h2
        rcases fl with rfl | fl | ⟨_, fl⟩
        · omega
        · rw [e3, e4] at fl; exact absurd fl ltS_irr
        · have := (H.row.ok l hl).lh
          omega⟩
  cov := fun x hx => by
    rcases List.mem_append.mp hx with h | h
    · obtain ⟨y, hy, e⟩ := H.cov x h
      exact ⟨y, List.mem_append_left _ hy, e⟩
    · exact ⟨m, by simp, (hn x h).1, (hn x h).2.1⟩
/-! ### what is told -/
structure OffR (Q : Str → Int → Prop) (r : List Mo) : Prop where
  row : Row 1 r
  apart : ∀ (i : Nat) (a b : Mo), r[i]? = some a → r[i + 1]? = some b → ¬ joins a b
  pts : ∀ z v, has r z v ↔ Q z v
  len : r.length ≤ 7000
theorem Mrg.off {Q : Str → Int → Prop} {fs r : List Mo} (H : Mrg 1 fs r) (h : ∀ z v, has fs z v ↔ Q z v) (l : fs.length ≤ 7000) : OffR Q r :=
  ⟨H.row, H.apart, fun z v => (has_of_nx (H.nx z v)).trans (h z v), Nat.le_trans H.len l⟩
theorem Row.zero {fs : List Mo} (h : Row 1 fs) : ∀ m ∈ fs, m.g = 0 := fun m hm => by
  have a := (h.ok m hm).g0
  have b := (h.ok m hm).g1
  omega
def Mo.off (m : Mo) : Mo := { m with g := 0 }
theorem off_row {many : Int} {ms : List Mo} (h : Row many ms) : Row 1 (ms.map Mo.off) :=
  ⟨fun x hx => by
    obtain ⟨m, hm, rfl⟩ := List.mem_map.mp hx
    have o := h.ok m hm
    exact ⟨o.lab, o.l0, o.lh, o.h1, by show (0 : Int) ≤ 0; decide, by show (0 : Int) < 1; decide⟩, by
    rw [List.pairwise_map]
    exact h.asc⟩
theorem off_has {ms : List Mo} {z : Str} {v : Int} : has (ms.map Mo.off) z v ↔ has ms z v := by
  unfold has
  constructor
  · rintro ⟨x, hx, h⟩
    obtain ⟨m, hm, rfl⟩ := List.mem_map.mp hx
    exact ⟨m, hm, h⟩
  · rintro ⟨m, hm, h⟩
    exact ⟨Mo.off m, List.mem_map.mpr ⟨m, hm, rfl⟩, h⟩
theorem OffR.step {Q : Str → Int → Prop} {r : List Mo} (H : OffR Q r) {i : Nat} {a b : Mo} (e1 : r[i]? = some a) (e2 : r[i + 1]? = some b) : ¬ ltS b.z a.z ∧ (b.z = a.z → a.h + 1 < b.l) := by
  have h1 := (List.getElem?_eq_some_iff.mp e1).1
  have h2 := (List.getElem?_eq_some_iff.mp e2).1
  have lt : a.lt b := by
    have := List.pairwise_iff_getElem.mp H.row.asc i (i + 1) h1 h2 (Nat.lt_succ_self i)
    rw [(List.getElem?_eq_some_iff.mp e1).2, (List.getElem?_eq_some_iff.mp e2).2] at this
    exact this
  have nj := H.apart i a b e1 e2
  have ga := Row.zero H.row a (List.mem_of_getElem? e1)
  have gb := Row.zero H.row b (List.mem_of_getElem? e2)
  rcases lt with lt | ⟨e, lt⟩
  · exact ⟨ltS_asymm lt, fun e => by rw [e] at lt; exact absurd lt ltS_irr⟩
  · refine ⟨by rw [e]; exact ltS_irr, fun _ => ?_⟩
    have : ¬ a.h + 1 = b.l := fun q => nj ⟨e, q, by rw [ga, gb]⟩
    omega
theorem take_lt {many : Int} {ms : List Mo} (h : Row many ms) {i : Nat} {m : Mo} (e : ms[i]? = some m) : ∀ y ∈ ms.take i, y.lt m := fun y hy => by
  obtain ⟨k, hk, rfl⟩ := List.mem_iff_getElem.mp hy
  rw [List.length_take] at hk
  rw [List.getElem_take]
  have h1 := (List.getElem?_eq_some_iff.mp e).1
  have := List.pairwise_iff_getElem.mp h.asc k i (by omega) h1 (by omega)
  rw [(List.getElem?_eq_some_iff.mp e).2] at this
  exact this
theorem take_snoc {α : Type} {ms : List α} {i : Nat} {m : α} (e : ms[i]? = some m) : ms.take (i + 1) = ms.take i ++ [m] := by
  rw [List.take_add_one, e]; rfl
end K02
/-! TMm: machines walked through, merged, trimmed: plain mathematics. -/
namespace TM
open PySem DL L2 LW

theorem nd_inj {α : Type} {l : List α} (h : l.Nodup) {i j : Nat} {b : α} (hi : l[i]? = some b) (hj : l[j]? = some b) : i = j := by
  obtain ⟨i1, i2⟩ := List.getElem?_eq_some_iff.mp hi
  obtain ⟨j1, j2⟩ := List.getElem?_eq_some_iff.mp hj
  have p := List.pairwise_iff_getElem.mp h
  rcases Nat.lt_trichotomy i j with q | q | q
  · exact absurd (i2.trans j2.symm) (p i j i1 j1 q)
  · exact q
  · exact absurd (j2.trans i2.symm) (p j i j1 i1 q)
/-! ### rows merged -/
def jn (a m : Mo) : Bool := (a.z == m.z) && (decide (a.h + 1 = m.l) && decide (a.g = m.g))
theorem jn_iff {a m : Mo} : jn a m = true ↔ K02.joins a m := by
  unfold jn K02.joins
  rw [Bool.and_eq_true, Bool.and_eq_true, beq_iff_eq, decide_eq_true_eq, decide_eq_true_eq]
def ms1 (r : List Mo) (m : Mo) : List Mo := match r.getLast? with
  | some a => if jn a m = true then r.dropLast ++ [⟨m.z, a.l, m.h, m.g⟩] else r ++ [m]
  | none => r ++ [m]
theorem ms1_nil (m : Mo) : ms1 [] m = [m] := rfl
theorem ms1_snoc (r : List Mo) (a m : Mo) : ms1 (r ++ [a]) m = if jn a m = true then r ++ [⟨m.z, a.l, m.h, m.g⟩] else r ++ [a] ++ [m] := by
  unfold ms1
  rw [List.getLast?_append, List.dropLast_concat]
  rfl
def mrgL (ms : List Mo) : List Mo := ms.foldl ms1 []
theorem mrg_snoc (ms : List Mo) (m : Mo) : mrgL (ms ++ [m]) = ms1 (mrgL ms) m := by
  unfold mrgL
  rw [List.foldl_append]; rfl
theorem snoc_ind {α : Type} {p : List α → Prop} (h0 : p []) (h1 : ∀ l a, p l → p (l ++ [a])) (l : List α) : p l := by
  have : p l.reverse.reverse := by
    induction l.reverse with
    | nil => exact h0
    | cons a r ih => rw [List.reverse_cons]; exact h1 _ _ ih
  rwa [List.reverse_reverse] at this
theorem snoc_cases {α : Type} (l : List α) : l = [] ∨ ∃ r a, l = r ++ [a] := snoc_ind (p := fun l => l = [] ∨ ∃ r a, l = r ++ [a]) (.inl rfl) (fun l a _ => .inr ⟨l, a, rfl⟩) l
theorem row_init {n : Int} {ms : List Mo} {m : Mo} (h : Row n (ms ++ [m])) : Row n ms ∧ m.ok n ∧ ∀ y ∈ ms, y.lt m := by
  have := List.pairwise_append.mp h.asc
  exact ⟨⟨fun x hx => h.ok x (List.mem_append_left _ hx), this.1⟩, h.ok m (by simp), fun y hy => this.2.2 y hy m (by simp)⟩
theorem mrg_ok {n : Int} (ms : List Mo) : Row n ms → K02.Mrg n ms (mrgL ms) := by
  refine snoc_ind (p := fun ms => Row n ms → K02.Mrg n ms (mrgL ms)) (fun _ => K02.Mrg.nil) (fun l m ih h => ?_) ms
  obtain ⟨h1, h2, h3⟩ := row_init h
  have H := ih h1
  rw [mrg_snoc]
  rcases snoc_cases (mrgL l) with e | ⟨r, a, e⟩
  · rw [e, ms1_nil]
    rw [e] at H
    exact H.put h2 h3 fun a ha => nomatch ha
  · rw [e, ms1_snoc]
    rw [e] at H
    split
    · rename_i j
      exact H.join h2 (jn_iff.mp j)
    · rename_i j
      refine H.put h2 h3 fun b hb => ?_
      rw [List.getLast?_append] at hb
      cases hb
      exact fun z => j (jn_iff.mpr z)
def apart (r : List Mo) : Prop := ∀ (i : Nat) (a b : Mo), r[i]? = some a → r[i + 1]? = some b → ¬ K02.joins a b
theorem apart_init {l : List Mo} {m : Mo} (h : apart (l ++ [m])) : apart l := fun i a b e1 e2 => by
  have h2 := (List.getElem?_eq_some_iff.mp e2).1
  have h1 := (List.getElem?_eq_some_iff.mp e1).1
  exact h i a b (by rw [List.getElem?_append_left h1]; exact e1) (by rw [List.getElem?_append_left h2]; exact e2)
theorem mrg_same (ms : List Mo) : apart ms → mrgL ms = ms := by
  refine snoc_ind (p := fun ms => apart ms → mrgL ms = ms) (fun _ => rfl) (fun l m ih h => ?_) ms
  rw [mrg_snoc, ih (apart_init h)]
  rcases snoc_cases l with rfl | ⟨r, a, rfl⟩
  · rfl
  · rw [ms1_snoc, if_neg]
    intro j
    refine h r.length a m ?_ ?_ (jn_iff.mp j)
    · rw [List.append_assoc, List.getElem?_append_right (Nat.le_refl _), Nat.sub_self]; rfl
    · rw [List.getElem?_append_right (by simp)]; simp

/-! ### the goals found -/
def addG (fs : List Int) (g : Int) : List Int := if g ∈ fs then fs else fs ++ [g]
def addGs (fs gs : List Int) : List Int := gs.foldl addG fs
theorem addGs_nil (fs : List Int) : addGs fs [] = fs := rfl
theorem addGs_snoc (fs gs : List Int) (g : Int) : addGs fs (gs ++ [g]) = addG (addGs fs gs) g := by
  unfold addGs
  rw [List.foldl_append]; rfl
theorem addG_mem {fs : List Int} {g x : Int} : x ∈ addG fs g ↔ x ∈ fs ∨ x = g := by
  unfold addG
  split
  · constructor
    · exact .inl
    · rintro (h | rfl)
      · exact h
      · assumption
  · rw [List.mem_append, List.mem_singleton]
theorem addGs_mem {fs : List Int} {x : Int} (gs : List Int) : x ∈ addGs fs gs ↔ x ∈ fs ∨ x ∈ gs := by
  refine snoc_ind (p := fun gs => x ∈ addGs fs gs ↔ x ∈ fs ∨ x ∈ gs) (by rw [addGs_nil]; simp) (fun l a ih => ?_) gs
  rw [addGs_snoc, addG_mem, ih, List.mem_append, List.mem_singleton, or_assoc]
theorem addG_nd {fs : List Int} {g : Int} (h : fs.Nodup) : (addG fs g).Nodup := by
  unfold addG
  split
  · exact h
  · rename_i n
    exact List.nodup_append.mpr ⟨h, by simp, fun a ha b hb => by rw [List.mem_singleton.mp hb]; exact fun e => n (e ▸ ha)⟩
theorem addGs_nd {fs : List Int} (h : fs.Nodup) (gs : List Int) : (addGs fs gs).Nodup :=
  snoc_ind (p := fun gs => (addGs fs gs).Nodup) h (fun l a ih => by rw [addGs_snoc]; exact addG_nd ih) gs
theorem addG_pre (fs : List Int) (g : Int) : fs <+: addG fs g := by
  unfold addG
  split
  · exact List.prefix_rfl
  · exact List.prefix_append _ _
theorem addGs_pre (fs gs : List Int) : fs <+: addGs fs gs :=
  snoc_ind (p := fun gs => fs <+: addGs fs gs) List.prefix_rfl (fun l a ih => by rw [addGs_snoc]; exact ih.trans (addG_pre _ _)) gs
theorem mrg_goals (fs : List Int) (ms : List Mo) : addGs fs ((mrgL ms).map Mo.g) = addGs fs (ms.map Mo.g) := by
  refine snoc_ind (p := fun ms => addGs fs ((mrgL ms).map Mo.g) = addGs fs (ms.map Mo.g)) rfl (fun l m ih => ?_) ms
  rw [mrg_snoc, List.map_append, List.map_singleton, addGs_snoc, ← ih]
  rcases snoc_cases (mrgL l) with e | ⟨r, a, e⟩
  · rw [e, ms1_nil]; rfl
  · rw [e, ms1_snoc]
    split
    · rename_i j
      have hg : a.g = m.g := (jn_iff.mp j).2.2
      have e1 : (r ++ [(⟨m.z, a.l, m.h, m.g⟩ : Mo)]).map Mo.g = (r ++ [a]).map Mo.g := by simp [hg]
      rw [e1]
      have : m.g ∈ addGs fs ((r ++ [a]).map Mo.g) := (addGs_mem _).mpr (.inr (by simp [hg]))
      show _ = addG _ _
      unfold addG
      rw [if_pos this]
    · rw [List.map_append, List.map_singleton, addGs_snoc]

/-! ### machines -/
structure Sd where
  kind : Str
  who : Str
  ms : List Mo
abbrev Sts := List (Option Sd)
def stD : Option Sd → D
  | none => .tup [.str "end"]
  | some s => .tup [.str s.kind, .str s.who, .tup (s.ms.map Mo.d)]
def machD (sts : Sts) : D := .tup (sts.map stD)
structure SdOk (n : Nat) (s : Sd) : Prop where
  kind : s.kind = "say" ∨ s.kind = "hear"
  who : lab s.who
  ne : s.ms ≠ []
  len : s.ms.length ≤ 9
  row : Row n s.ms
structure MaOk (n : Nat) (sts : Sts) : Prop where
  len : sts.length = n
  pos : 0 < n
  le : n ≤ 100
  st : ∀ s, some s ∈ sts → SdOk n s
def gsOf : Option Sd → List Int
  | some s => s.ms.map Mo.g
  | none => []
def gsAt (sts : Sts) (a : Int) : List Int := match sts[a.toNat]? with
  | some o => gsOf o
  | none => []
theorem gs_rng {n : Nat} {sts : Sts} (h : MaOk n sts) {a b : Int} (hb : b ∈ gsAt sts a) : 0 ≤ b ∧ b < n := by
  unfold gsAt at hb
  split at hb
  · rename_i o e
    cases o with
    | none => cases hb
    | some s =>
      obtain ⟨m, hm, rfl⟩ := List.mem_map.mp hb
      have := (h.st s (List.mem_of_getElem? e)).row.ok m hm
      exact ⟨this.g0, this.g1⟩
  · cases hb

/-! ### the walk -/
def W (sts : Sts) (a : Int) : Nat → List Int
  | 0 => [a]
  | i + 1 => match (W sts a i)[i]? with
    | some b => addGs (W sts a i) (gsAt sts b)
    | none => W sts a i
section
variable {n : Nat} {sts : Sts} {a : Int}
theorem W_succ (i : Nat) : W sts a (i + 1) = match (W sts a i)[i]? with
    | some b => addGs (W sts a i) (gsAt sts b)
    | none => W sts a i := rfl
theorem W_pre1 (i : Nat) : W sts a i <+: W sts a (i + 1) := by
  rw [W_succ]
  split
  · exact addGs_pre _ _
  · exact List.prefix_rfl
theorem W_pre {i j : Nat} (h : i ≤ j) : W sts a i <+: W sts a j := by
  induction h with
  | refl => exact List.prefix_rfl
  | step _ ih => exact ih.trans (W_pre1 _)
theorem W_nd (i : Nat) : (W sts a i).Nodup := by
  induction i with
  | zero => simp [W]
  | succ i ih =>
    rw [W_succ]
    split
    · exact addGs_nd ih _
    · exact ih
theorem W_rng (h : MaOk n sts) (h0 : 0 ≤ a) (h1 : a < n) (i : Nat) : ∀ b ∈ W sts a i, 0 ≤ b ∧ b < n := by
  induction i with
  | zero =>
    intro b hb
    rw [show W sts a 0 = [a] from rfl, List.mem_singleton] at hb
    subst hb
    exact ⟨h0, h1⟩
  | succ i ih =>
    intro b hb
    rw [W_succ] at hb
    split at hb
    · rcases (addGs_mem _).mp hb with hb | hb
      · exact ih b hb
      · exact gs_rng h hb
    · exact ih b hb
theorem nd_len {n : Nat} {l : List Int} (h : l.Nodup) (r : ∀ b ∈ l, 0 ≤ b ∧ b < (n : Int)) : l.length ≤ n := by
  have h2 : (l.map Int.toNat).Nodup := by
    refine List.pairwise_map.mpr (List.Pairwise.imp_of_mem (fun {x y} hx hy hne e => hne ?_) h)
    have := r x hx
    have := r y hy
    omega
  have h3 : (l.map Int.toNat) ⊆ List.range n := fun x hx => by
    obtain ⟨b, hb, rfl⟩ := List.mem_map.mp hx
    have := r b hb
    exact List.mem_range.mpr (by omega)
  have := h2.length_le_of_subset h3
  rwa [List.length_map, List.length_range] at this
theorem W_len (h : MaOk n sts) (h0 : 0 ≤ a) (h1 : a < n) (i : Nat) : (W sts a i).length ≤ n := nd_len (W_nd i) (W_rng h h0 h1 i)
theorem W_pos (i : Nat) : 0 < (W sts a i).length := by
  have := (W_pre (sts := sts) (a := a) (Nat.zero_le i)).length_le
  exact this
theorem W_stop {i : Nat} (h : (W sts a i).length ≤ i) (k : Nat) : W sts a (i + k) = W sts a i := by
  induction k with
  | zero => rfl
  | succ k ih =>
    rw [← Nat.add_assoc, W_succ, ih, List.getElem?_eq_none (by omega)]
/-- all that is found, in order -/
def walk (sts : Sts) (a : Int) : List Int := W sts a sts.length
theorem W_done {i : Nat} (hi : (W sts a i).length ≤ i) (hs : i ≤ sts.length) : W sts a i = walk sts a := by
  have := W_stop hi (sts.length - i)
  rw [Nat.add_sub_cancel' hs] at this
  exact this.symm
theorem W_all (h : MaOk n sts) (h0 : 0 ≤ a) (h1 : a < n) {i : Nat} (hi : n ≤ i) : W sts a i = walk sts a := by
  have e := W_stop (i := n) (W_len h h0 h1 n) (i - n)
  rw [Nat.add_sub_cancel' hi] at e
  rw [e]; unfold walk; rw [h.len]
theorem walk_len (h : MaOk n sts) (h0 : 0 ≤ a) (h1 : a < n) : (walk sts a).length ≤ n := W_len h h0 h1 _
theorem W_lt {i : Nat} (hi : i < (walk sts a).length) (hs : i ≤ sts.length) : i < (W sts a i).length := by
  by_cases q : i < (W sts a i).length
  · exact q
  · have := W_done (sts := sts) (a := a) (i := i) (by omega) hs
    rw [this] at q
    exact absurd hi q
theorem W_at {i j : Nat} (hj : j < (W sts a i).length) (hs : i ≤ sts.length) : (W sts a i)[j]? = (walk sts a)[j]? := by
  obtain ⟨t, e⟩ := W_pre (sts := sts) (a := a) hs
  unfold walk
  rw [← e, List.getElem?_append_left hj]
theorem W_next {i : Nat} {b : Int} (hb : (walk sts a)[i]? = some b) (hs : i ≤ sts.length) : W sts a (i + 1) = addGs (W sts a i) (gsAt sts b) := by
  have h1 := W_lt (List.getElem?_eq_some_iff.mp hb).1 hs
  have h2 := W_at h1 hs
  rw [hb] at h2
  rw [W_succ, h2]
theorem walk_closed (h : MaOk n sts) (h0 : 0 ≤ a) (h1 : a < n) {b c : Int} (hb : b ∈ walk sts a) (hc : c ∈ gsAt sts b) : c ∈ walk sts a := by
  obtain ⟨i, hi⟩ := List.getElem?_of_mem hb
  have hl := (List.getElem?_eq_some_iff.mp hi).1
  have hn := walk_len h h0 h1
  have hs : i + 1 ≤ sts.length := by rw [h.len]; omega
  have e := W_next hi (by omega)
  exact (W_pre hs).subset (by rw [e]; exact (addGs_mem _).mpr (.inr hc))
/-- what is found at j > 0 is a goal of something found before it -/
theorem W_from {i j : Nat} {b : Int} (hj : 0 < j) (hb : (W sts a i)[j]? = some b) (hs : i ≤ sts.length) : ∃ (k : Nat) (c : Int), k < j ∧ k < i ∧ (W sts a i)[k]? = some c ∧ b ∈ gsAt sts c := by
  induction i with
  | zero =>
    have h := (List.getElem?_eq_some_iff.mp hb).1
    simp [W] at h
    omega
  | succ i ih =>
    cases q : (W sts a i)[i]? with
    | none =>
      have e : W sts a (i + 1) = W sts a i := by rw [W_succ, q]
      rw [e] at hb ⊢
      obtain ⟨k, c, h1, h2, h3⟩ := ih hb (by omega)
      exact ⟨k, c, h1, by omega, h3⟩
    | some d =>
      have e : W sts a (i + 1) = addGs (W sts a i) (gsAt sts d) := by rw [W_succ, q]
      obtain ⟨t, et⟩ := W_pre1 (sts := sts) (a := a) i
      by_cases hl : j < (W sts a i).length
      · rw [← et, List.getElem?_append_left hl] at hb
        obtain ⟨k, c, h1, h2, h3, h4⟩ := ih hb (by omega)
        exact ⟨k, c, h1, by omega, by rw [← et, List.getElem?_append_left (List.getElem?_eq_some_iff.mp h3).1]; exact h3, h4⟩
      · have il := (List.getElem?_eq_some_iff.mp q).1
        have mb := List.mem_of_getElem? hb
        refine ⟨i, d, by omega, by omega, by rw [← et, List.getElem?_append_left il]; exact q, ?_⟩
        rw [e] at mb
        rcases (addGs_mem _).mp mb with mb | mb
        · obtain ⟨k, hk⟩ := List.getElem?_of_mem mb
          have kl := (List.getElem?_eq_some_iff.mp hk).1
          have : (W sts a (i + 1))[k]? = some b := by rw [← et, List.getElem?_append_left kl]; exact hk
          have nd := W_nd (sts := sts) (a := a) (i + 1)
          have := nd_inj nd hb this
          omega
        · exact mb
end

/-! ### trimmed -/
def ix (fs : List Int) (g : Int) : Int := (fs.idxOf g : Nat)
theorem ix_at {fs : List Int} (h : fs.Nodup) {i : Nat} {g : Int} (e : fs[i]? = some g) : ix fs g = i := by
  have m := List.mem_of_getElem? e
  have l := List.idxOf_lt_length_of_mem m
  have e2 : fs[fs.idxOf g]? = some g := by rw [List.getElem?_eq_getElem l, List.getElem_idxOf]
  unfold ix
  rw [nd_inj h e2 e]
theorem at_ix {fs : List Int} {g : Int} (h : g ∈ fs) : fs[(ix fs g).toNat]? = some g := by
  have l := List.idxOf_lt_length_of_mem h
  show fs[((fs.idxOf g : Nat) : Int).toNat]? = _
  rw [Int.toNat_natCast, List.getElem?_eq_getElem l, List.getElem_idxOf]
theorem ix_rng {fs : List Int} {g : Int} (h : g ∈ fs) : 0 ≤ ix fs g ∧ ix fs g < fs.length := by
  have l := List.idxOf_lt_length_of_mem h
  unfold ix
  omega
theorem ix_inj {fs : List Int} {g g' : Int} (h : g ∈ fs) (h' : g' ∈ fs) (e : ix fs g = ix fs g') : g = g' := by
  have e1 := at_ix h
  rw [e, at_ix h'] at e1
  exact (Option.some.inj e1).symm
def reM (fs : List Int) (m : Mo) : Mo := ⟨m.z, m.l, m.h, ix fs m.g⟩
def reS (fs : List Int) : Option Sd → Option Sd
  | none => none
  | some s => some ⟨s.kind, s.who, (mrgL s.ms).map (reM fs)⟩
/-- the standings fs of a machine, by new numbers -/
def stAt (sts : Sts) (a : Int) : Option Sd := (sts[a.toNat]?).getD none
def trimL (sts : Sts) (fs : List Int) : Sts := fs.map fun a => reS fs (stAt sts a)
def trim (sts : Sts) : Sts := trimL sts (walk sts 0)
theorem row_re {n : Int} {k : Nat} {fs : List Int} {ms : List Mo} (h : Row n ms) (hg : ∀ m ∈ ms, m.g ∈ fs) (hk : fs.length = k) : Row k (ms.map (reM fs)) := by
  refine ⟨fun x hx => ?_, List.pairwise_map.mpr (h.asc.imp fun {a b} q => q)⟩
  obtain ⟨m, hm, rfl⟩ := List.mem_map.mp hx
  have o := h.ok m hm
  have r := ix_rng (hg m hm)
  exact ⟨o.lab, o.l0, o.lh, o.h1, r.1, by rw [← hk]; exact r.2⟩
theorem apart_re {fs : List Int} {ms : List Mo} (h : apart ms) (hg : ∀ m ∈ ms, m.g ∈ fs) : apart (ms.map (reM fs)) := fun i a b e1 e2 => by
  rw [List.getElem?_map] at e1 e2
  obtain ⟨x, hx, rfl⟩ := Option.map_eq_some_iff.mp e1
  obtain ⟨y, hy, rfl⟩ := Option.map_eq_some_iff.mp e2
  exact fun ⟨j1, j2, j3⟩ => h i x y hx hy ⟨j1, j2, ix_inj (hg x (List.mem_of_getElem? hx)) (hg y (List.mem_of_getElem? hy)) j3⟩
theorem mrg_gs {ms : List Mo} {g : Int} : g ∈ (mrgL ms).map Mo.g ↔ g ∈ ms.map Mo.g := by
  have e := mrg_goals [] ms
  have h1 := addGs_mem (fs := []) (x := g) ((mrgL ms).map Mo.g)
  have h2 := addGs_mem (fs := []) (x := g) (ms.map Mo.g)
  rw [e] at h1
  simp only [List.not_mem_nil, false_or] at h1 h2
  exact h1.symm.trans h2
section
variable {n : Nat} {sts : Sts}
theorem st_at {a : Int} {o : Option Sd} (e : sts[a.toNat]? = some o) : stAt sts a = o := by unfold stAt; rw [e]; rfl
theorem gs_st (a : Int) : gsAt sts a = gsOf (stAt sts a) := by
  unfold gsAt stAt
  cases sts[a.toNat]? <;> rfl
theorem st_ok (h : MaOk n sts) {a : Int} {s : Sd} (e : stAt sts a = some s) : SdOk n s := by
  unfold stAt at e
  cases q : sts[a.toNat]? with
  | none => rw [q] at e; cases e
  | some o =>
    rw [q] at e
    exact h.st s (List.mem_of_getElem? (q.trans (by rw [show o = some s from e])))
/-- what a row of standings must be, to be a machine by new numbers -/
structure Clo (sts : Sts) (fs : List Int) : Prop where
  nd : fs.Nodup
  clo : ∀ b ∈ fs, ∀ c ∈ gsAt sts b, c ∈ fs
  pos : 0 < fs.length
  le : fs.length ≤ 100
theorem walk_clo (h : MaOk n sts) {a : Int} (h0 : 0 ≤ a) (h1 : a < n) : Clo sts (walk sts a) :=
  ⟨W_nd _, fun b hb c hc => walk_closed h h0 h1 hb hc, W_pos _, Nat.le_trans (walk_len h h0 h1) h.le⟩
theorem clo_ms {fs : List Int} (c : Clo sts fs) {a : Int} (ha : a ∈ fs) {s : Sd} (e : stAt sts a = some s) : ∀ m ∈ mrgL s.ms, m.g ∈ fs := fun m hm => by
  refine c.clo a ha m.g ?_
  rw [gs_st, e]
  exact mrg_gs.mp (List.mem_map.mpr ⟨m, hm, rfl⟩)
theorem trim_ok (h : MaOk n sts) {fs : List Int} (c : Clo sts fs) : MaOk fs.length (trimL sts fs) := by
  refine ⟨List.length_map _, c.pos, c.le, fun s hs => ?_⟩
  obtain ⟨a, ha, e⟩ := List.mem_map.mp hs
  cases q : stAt sts a with
  | none => rw [q] at e; cases e
  | some t =>
    rw [q] at e
    cases e
    have o := st_ok h q
    have M := mrg_ok t.ms o.row
    refine ⟨o.kind, o.who, fun z => M.emp o.ne (List.map_eq_nil_iff.mp z), ?_, row_re M.row (clo_ms c ha q) rfl⟩
    show ((mrgL t.ms).map (reM fs)).length ≤ 9
    rw [List.length_map]
    exact Nat.le_trans M.len o.len
theorem trim_at {fs : List Int} {i : Nat} {a : Int} (e : fs[i]? = some a) : stAt (trimL sts fs) (i : Nat) = reS fs (stAt sts a) :=
  st_at (by rw [Int.toNat_natCast]; unfold trimL; rw [List.getElem?_map, e]; rfl)
def rngL (k : Nat) : List Int := (List.range k).map Int.ofNat
theorem rngL_succ (k : Nat) : rngL (k + 1) = rngL k ++ [(k : Int)] := by
  unfold rngL
  rw [List.range_succ, List.map_append]; rfl
theorem rngL_mem {k : Nat} {x : Int} : x ∈ rngL k ↔ 0 ≤ x ∧ x < k := by
  unfold rngL
  constructor
  · intro h
    obtain ⟨i, hi, rfl⟩ := List.mem_map.mp h
    have := List.mem_range.mp hi
    exact ⟨Int.natCast_nonneg i, by show ((i : Nat) : Int) < k; omega⟩
  · intro h
    exact List.mem_map.mpr ⟨x.toNat, List.mem_range.mpr (by omega), by show ((x.toNat : Nat) : Int) = x; omega⟩
theorem rngL_len (k : Nat) : (rngL k).length = k := by unfold rngL; rw [List.length_map, List.length_range]
theorem rngL_at {k i : Nat} (h : i < k) : (rngL k)[i]? = some (i : Int) := by
  unfold rngL
  rw [List.getElem?_map, List.getElem?_range h]; rfl
theorem addG_rng {fs P : List Int} (hn : fs.Nodup) (hp : addG P g <+: fs) : addG (rngL P.length) (ix fs g) = rngL (addG P g).length := by
  obtain ⟨t, ht⟩ := hp
  have P0 : P <+: fs := (addG_pre P g).trans ⟨t, ht⟩
  obtain ⟨u, hu⟩ := P0
  by_cases hg : g ∈ P
  · obtain ⟨i, hi⟩ := List.getElem?_of_mem hg
    have il := (List.getElem?_eq_some_iff.mp hi).1
    have e := ix_at hn (i := i) (g := g) (by rw [← hu, List.getElem?_append_left il]; exact hi)
    have e1 : addG P g = P := if_pos hg
    rw [e1]
    exact if_pos (rngL_mem.mpr (by rw [e]; omega))
  · have e1 : addG P g = P ++ [g] := if_neg hg
    rw [e1] at ht ⊢
    have e := ix_at hn (i := P.length) (g := g) (by rw [← ht, List.append_assoc, List.getElem?_append_right (Nat.le_refl _), Nat.sub_self]; rfl)
    rw [e, List.length_append, List.length_singleton, rngL_succ]
    exact if_neg fun z => by have := (rngL_mem.mp z).2; omega
theorem addGs_rng {fs P : List Int} (hn : fs.Nodup) (gs : List Int) : addGs P gs <+: fs → addGs (rngL P.length) (gs.map (ix fs)) = rngL (addGs P gs).length := by
  refine snoc_ind (p := fun gs => addGs P gs <+: fs → addGs (rngL P.length) (gs.map (ix fs)) = rngL (addGs P gs).length) (fun _ => rfl) (fun l a ih h => ?_) gs
  rw [addGs_snoc] at h
  rw [List.map_append, List.map_singleton, addGs_snoc, addGs_snoc, ih ((addG_pre _ _).trans h)]
  exact addG_rng hn h
/-- the walk through what is trimmed -/
theorem W_trim (h : MaOk n sts) {a : Int} (h0 : 0 ≤ a) (h1 : a < n) (i : Nat) (hi : i ≤ (walk sts a).length) : W (trimL sts (walk sts a)) 0 i = rngL (W sts a i).length := by
  have c := walk_clo h h0 h1
  have wl := walk_len h h0 h1
  have sl := h.len
  induction i with
  | zero => rfl
  | succ i ih =>
    have ih := ih (by omega)
    have il := W_lt (sts := sts) (a := a) (i := i) (by omega) (by omega)
    have eb := List.getElem?_eq_getElem (show i < (walk sts a).length by omega)
    generalize (walk sts a)[i] = b at eb
    rw [W_next eb (by omega), W_succ, ih, rngL_at il]
    have e2 : gsAt (trimL sts (walk sts a)) ((i : Nat) : Int) = (gsOf (reS (walk sts a) (stAt sts b))) := by rw [gs_st, trim_at eb]
    show addGs (rngL _) (gsAt (trimL sts (walk sts a)) ((i : Nat) : Int)) = _
    rw [e2, gs_st]
    have pre : addGs (W sts a i) (gsOf (stAt sts b)) <+: walk sts a := by
      rw [← gs_st, ← W_next eb (by omega)]
      exact W_pre (by omega)
    cases q : stAt sts b with
    | none => rfl
    | some s =>
      rw [q] at pre
      have e3 : gsOf (reS (walk sts a) (some s)) = ((mrgL s.ms).map Mo.g).map (ix (walk sts a)) := by
        show ((mrgL s.ms).map (reM _)).map Mo.g = _
        rw [List.map_map, List.map_map]; rfl
      have e4 : addGs (W sts a i) (gsOf (some s)) = addGs (W sts a i) ((mrgL s.ms).map Mo.g) := (mrg_goals _ _).symm
      rw [e4] at pre
      rw [e3, e4]
      exact addGs_rng c.nd _ pre
theorem walk_trim (h : MaOk n sts) {a : Int} (h0 : 0 ≤ a) (h1 : a < n) : walk (trimL sts (walk sts a)) 0 = rngL (walk sts a).length := by
  have wl := walk_len h h0 h1
  have tl : (trimL sts (walk sts a)).length = (walk sts a).length := List.length_map _
  have e := W_trim h h0 h1 (walk sts a).length (Nat.le_refl _)
  have : walk (trimL sts (walk sts a)) 0 = W (trimL sts (walk sts a)) 0 (walk sts a).length := by
    show W _ 0 (trimL sts (walk sts a)).length = _
    rw [tl]
  rw [this, e]
  by_cases q : (W sts a (walk sts a).length).length ≤ (walk sts a).length
  · rw [W_done q (by rw [h.len]; exact wl)]
  · have := (W_pre (sts := sts) (a := a) (show (walk sts a).length ≤ sts.length by rw [h.len]; exact wl)).length_le
    exact absurd this q
theorem rngL_nd (k : Nat) : (rngL k).Nodup := by
  unfold rngL
  exact List.pairwise_map.mpr (List.nodup_range.imp fun {a b} h e => h (Int.ofNat.inj e))
theorem ix_rngL {k : Nat} {g : Int} (h : 0 ≤ g ∧ g < k) : ix (rngL k) g = g := by
  have := ix_at (fs := rngL k) (rngL_nd k) (i := g.toNat) (g := g) (by rw [rngL_at (by omega)]; congr 1; omega)
  rw [this]; omega
/-- what is trimmed and apart is trimmed to itself -/
theorem trim_same {k : Nat} {T : Sts} (h : MaOk k T) (w : walk T 0 = rngL k) (ap : ∀ s, some s ∈ T → apart s.ms) : trim T = T := by
  unfold trim trimL
  rw [w]
  refine List.ext_getElem? fun i => ?_
  rw [List.getElem?_map]
  by_cases hi : i < k
  · rw [rngL_at hi]
    have e := List.getElem?_eq_getElem (show i < T.length by rw [h.len]; exact hi)
    rw [e]
    generalize T[i]'(by rw [h.len]; exact hi) = o at e
    have m := List.mem_of_getElem? e
    have e2 : stAt T ((i : Nat) : Int) = o := st_at (by rw [Int.toNat_natCast]; exact e)
    show some (reS (rngL k) (stAt T ((i : Nat) : Int))) = _
    rw [e2]
    cases o with
    | none => rfl
    | some s =>
      have o := h.st s m
      show some (some (Sd.mk s.kind s.who ((mrgL s.ms).map (reM (rngL k))))) = _
      rw [mrg_same _ (ap s m)]
      have : s.ms.map (reM (rngL k)) = s.ms := by
        conv => rhs; rw [← List.map_id s.ms]
        refine List.map_congr_left fun m hm => ?_
        have q := o.row.ok m hm
        show Mo.mk m.z m.l m.h (ix (rngL k) m.g) = m
        rw [ix_rngL ⟨q.g0, q.g1⟩]
      rw [this]
  · rw [List.getElem?_eq_none (by rw [rngL_len]; omega), List.getElem?_eq_none (by rw [h.len]; omega)]; rfl
theorem trim_apart (h : MaOk n sts) {fs : List Int} (c : Clo sts fs) : ∀ s, some s ∈ trimL sts fs → apart s.ms := fun s hs => by
  obtain ⟨a, ha, e⟩ := List.mem_map.mp hs
  cases q : stAt sts a with
  | none => rw [q] at e; cases e
  | some t =>
    rw [q] at e
    cases e
    exact apart_re (mrg_ok t.ms (st_ok h q).row).apart (clo_ms c ha q)
theorem trim_trim (h : MaOk n sts) : trim (trim sts) = trim sts := by
  have p : (0 : Int) < n := by have := h.pos; omega
  have c := walk_clo h (Int.le_refl 0) p
  exact trim_same (trim_ok h c) (walk_trim h (Int.le_refl 0) p) (trim_apart h c)

/-! ### says and hears exchanged -/
def flipW (k : Str) : Str := if k = "say" then "hear" else "say"
def flipS : Option Sd → Option Sd
  | none => none
  | some s => some ⟨flipW s.kind, s.who, s.ms⟩
theorem flip_gs (a : Int) : gsAt (sts.map flipS) a = gsAt sts a := by
  unfold gsAt
  rw [List.getElem?_map]
  cases sts[a.toNat]? with
  | none => rfl
  | some o => cases o <;> rfl
theorem flip_W (a : Int) (i : Nat) : W (sts.map flipS) a i = W sts a i := by
  induction i with
  | zero => rfl
  | succ i ih => rw [W_succ, W_succ, ih]; simp only [flip_gs]
theorem flip_walk (a : Int) : walk (sts.map flipS) a = walk sts a := by
  unfold walk
  rw [List.length_map, flip_W]
theorem flip_trim : trim (sts.map flipS) = (trim sts).map flipS := by
  unfold trim trimL
  rw [flip_walk, List.map_map]
  refine List.map_congr_left fun a _ => ?_
  show reS _ (stAt (sts.map flipS) a) = flipS (reS _ (stAt sts a))
  have : stAt (sts.map flipS) a = flipS (stAt sts a) := by
    unfold stAt
    rw [List.getElem?_map]
    cases sts[a.toNat]? <;> rfl
  rw [this]
  cases stAt sts a <;> rfl
theorem flip_kind {k : Str} (h : k = "say" ∨ k = "hear") : flipW k = "say" ∨ flipW k = "hear" := by
  unfold flipW
  split
  · exact .inr rfl
  · exact .inl rfl
theorem flip_two {k : Str} (h : k = "say" ∨ k = "hear") : flipW (flipW k) = k := by
  rcases h with rfl | rfl <;> decide +kernel
theorem flip_ok (h : MaOk n sts) : MaOk n (sts.map flipS) := by
  refine ⟨by rw [List.length_map]; exact h.len, h.pos, h.le, fun s hs => ?_⟩
  obtain ⟨o, ho, e⟩ := List.mem_map.mp hs
  cases o with
  | none => cases e
  | some t =>
    cases e
    have q := h.st t ho
    exact ⟨flip_kind q.kind, q.who, q.ne, q.len, q.row⟩
theorem flip_flip (h : MaOk n sts) : (sts.map flipS).map flipS = sts := by
  rw [List.map_map]
  conv => rhs; rw [← List.map_id sts]
  refine List.map_congr_left fun o ho => ?_
  cases o with
  | none => rfl
  | some s =>
    show some (Sd.mk (flipW (flipW s.kind)) s.who s.ms) = some s
    rw [flip_two (h.st s ho).kind]
end
end TM
/-! bodies of shared defs, printed by gen.py and pickb.py -/
namespace TM
open PySem DL

/-- slots: 0 moves 1 result 2 move 3 label 4 lo 5 hi 6 goal 7 last -/
def b_merged : DS :=
  (sSeq (sAsg (eLst aNil) (gN 1))
  (sSeq (sFor (iSeq (eVar 0)) (gN 2)
   (sSeq (sAsg (eVar 2) (gT 4 (gsC (gN 3) (gsC (gN 4) (gsC (gN 5) (gsC (gN 6) gsN))))))
   (sSeq (sIf (bCmp gtD (eCall lenD (aCons (eVar 1) aNil)) (eC (.int 0)))
    (sSeq (sAsg (eBin ixD (eVar 1) (eUn negD (eC (.int 1)))) (gN 7))
    (sSeq (sIf (bAnd (bCmp eqD (eBin ixD (eVar 7) (eC (.int 0))) (eVar 3)) (bAnd (bCmp eqD (eBin addD (eBin ixD (eVar 7) (eC (.int 2))) (eC (.int 1))) (eVar 4)) (bCmp eqD (eBin ixD (eVar 7) (eC (.int 3))) (eVar 6))))
     (sSeq (sAsg (eTup (aCons (eVar 3) (aCons (eBin ixD (eVar 7) (eC (.int 1))) (aCons (eVar 5) (aCons (eVar 6) aNil))))) (gS (eVar 1) (eUn negD (eC (.int 1)))))
     (sSeq sCnt
     sNil))
     sNil)
    sNil))
    sNil)
   (sSeq (sExp (eMt "list" appendD (eVar 1) (aCons (eVar 2) aNil)))
   sNil))))
  (sSeq (sRet (eCall tupleD (aCons (eVar 1) aNil)))
  sNil)))
/-- slots: 0 standing -/
def b_moves_of : DS :=
  (sSeq (sIf (bCmp eqD (eBin ixD (eVar 0) (eC (.int 0))) (eC (.str "end")))
   (sSeq (sRet (eTup aNil))
   sNil)
   sNil)
  (sSeq (sRet (eBin ixD (eVar 0) (eC (.int 2))))
  sNil))
/-- slots: 0 kind -/
def b_flipped_word : DS :=
  (sSeq (sIf (bCmp eqD (eVar 0) (eC (.str "say")))
   (sSeq (sRet (eC (.str "hear")))
   sNil)
   sNil)
  (sSeq (sRet (eC (.str "say")))
  sNil))
/-- slots: 0 standing -/
def b_flipped_standing (c_flipped_word : List D → Mh → PQ → Prop) : DS :=
  (sSeq (sIf (bCmp eqD (eBin ixD (eVar 0) (eC (.int 0))) (eC (.str "end")))
   (sSeq (sRet (eVar 0))
   sNil)
   sNil)
  (sSeq (sRet (eTup (aCons (eFn 1 c_flipped_word (aCons (eBin ixD (eVar 0) (eC (.int 0))) aNil)) (aCons (eBin ixD (eVar 0) (eC (.int 1))) (aCons (eBin ixD (eVar 0) (eC (.int 2))) aNil)))))
  sNil))
/-- slots: 0 machine 1 standing -/
def b_flipped (c_flipped_standing : List D → Mh → PQ → Prop) : DS :=
  (sSeq (sRet (eCall tupleD (aCons (eLC (iSeq (eVar 0)) (.nm 1) bYes (eFn 1 c_flipped_standing (aCons (eVar 1) aNil)) [1]) aNil)))
  sNil)
/-- slots: 0 machine 1 start 2 found 3 seen 4 at 5 move -/
def b_standings_from (c_moves_of : List D → Mh → PQ → Prop) : DS :=
  (sSeq (sAsg (eLst (aCons (eVar 1) aNil)) (gN 2))
  (sSeq (sAsg (eD1 (eVar 1) (eC (.bl true))) (gN 3))
  (sSeq (sAsg (eC (.int 0)) (gN 4))
  (sSeq (sWh (bCmp ltD (eVar 4) (eCall lenD (aCons (eVar 2) aNil)))
   (sSeq (sFor (iSeq (eFn 1 c_moves_of (aCons (eBin ixD (eVar 0) (eBin ixD (eVar 2) (eVar 4))) aNil))) (gN 5)
    (sSeq (sIf (bCmp ninD (eBin ixD (eVar 5) (eC (.int 3))) (eVar 3))
     (sSeq (sAsg (eC (.bl true)) (gS (eVar 3) (eBin ixD (eVar 5) (eC (.int 3)))))
     (sSeq (sExp (eMt "list" appendD (eVar 2) (aCons (eBin ixD (eVar 5) (eC (.int 3))) aNil)))
     sNil))
     sNil)
    sNil))
   (sSeq (sAug 4 iaddD (eC (.int 1)))
   sNil)))
  (sSeq (sRet (eVar 2))
  sNil)))))
/-- slots: 0 standing 1 numbers 2 moves 3 move -/
def b_renumbered (c_merged : List D → Mh → PQ → Prop) : DS :=
  (sSeq (sIf (bCmp eqD (eBin ixD (eVar 0) (eC (.int 0))) (eC (.str "end")))
   (sSeq (sRet (eVar 0))
   sNil)
   sNil)
  (sSeq (sAsg (eLC (iSeq (eFn 1 c_merged (aCons (eBin ixD (eVar 0) (eC (.int 2))) aNil))) (.nm 3) bYes (eTup (aCons (eBin ixD (eVar 3) (eC (.int 0))) (aCons (eBin ixD (eVar 3) (eC (.int 1))) (aCons (eBin ixD (eVar 3) (eC (.int 2))) (aCons (eBin ixD (eVar 1) (eBin ixD (eVar 3) (eC (.int 3)))) aNil))))) [3]) (gN 2))
  (sSeq (sRet (eTup (aCons (eBin ixD (eVar 0) (eC (.int 0))) (aCons (eBin ixD (eVar 0) (eC (.int 1))) (aCons (eCall tupleD (aCons (eVar 2) aNil)) aNil)))))
  sNil)))
/-- slots: 0 machine 1 start 2 found 3 numbers 4 at 5 standing -/
def b_trimmed_from (c_renumbered : List D → Mh → PQ → Prop) (c_standings_from : List D → Mh → PQ → Prop) : DS :=
  (sSeq (sAsg (eFn 2 c_standings_from (aCons (eVar 0) (aCons (eVar 1) aNil))) (gN 2))
  (sSeq (sAsg eDct (gN 3))
  (sSeq (sFor (iRg1 (aCons (eCall lenD (aCons (eVar 2) aNil)) aNil)) (gN 4)
   (sSeq (sAsg (eVar 4) (gS (eVar 3) (eBin ixD (eVar 2) (eVar 4))))
   sNil))
  (sSeq (sRet (eCall tupleD (aCons (eLC (iSeq (eVar 2)) (.nm 5) bYes (eFn 2 c_renumbered (aCons (eBin ixD (eVar 0) (eVar 5)) (aCons (eVar 3) aNil))) [5]) aNil)))
  sNil))))
/-- slots: 0 machine -/
def b_trimmed (c_trimmed_from : List D → Mh → PQ → Prop) : DS :=
  (sSeq (sRet (eFn 2 c_trimmed_from (aCons (eVar 0) (aCons (eC (.int 0)) aNil))))
  sNil)
/-- slots: 0 jar 1 index 2 letters 3 word 4 count 5 at -/
def b_name (c_pick : List D → Mh → PQ → Prop) : DS :=
  (sSeq (sAsg (eC (.str "abcdefghijklmnopqrstuvwxyz")) (gN 2))
  (sSeq (sAsg (eBin ixD (eVar 2) (eFn 2 c_pick (aCons (eVar 0) (aCons (eC (.int 26)) aNil)))) (gN 3))
  (sSeq (sFor (iRg1 (aCons (eBin ixD (eLst (aCons (eC (.int 0)) (aCons (eC (.int 0)) (aCons (eC (.int 1)) (aCons (eC (.int 2)) (aCons (eC (.int 6)) aNil)))))) (eFn 2 c_pick (aCons (eVar 0) (aCons (eC (.int 5)) aNil)))) aNil)) (gN 4)
   (sSeq (sAsg (eBin addD (eVar 3) (eBin ixD (eVar 2) (eFn 2 c_pick (aCons (eVar 0) (aCons (eC (.int 26)) aNil))))) (gN 3))
   sNil))
  (sSeq (sAsg (eBin addD (eC (.int 1)) (eFn 2 c_pick (aCons (eVar 0) (aCons (eCall lenD (aCons (eVar 3) aNil)) aNil)))) (gN 5))
  (sSeq (sRet (eBin addD (eBin addD (eSl (eVar 3) none (some (eVar 5))) (eCall strD (aCons (eVar 1) aNil))) (eSl (eVar 3) (some (eVar 5)) none)))
  sNil)))))
/-- slots: 0 jar 1 many 2 index -/
def b_names (c_name : List D → Mh → PQ → Prop) : DS :=
  (sSeq (sRet (eLC (iRg1 (aCons (eVar 1) aNil)) (.nm 2) bYes (eFn 2 c_name (aCons (eVar 0) (aCons (eVar 2) aNil))) [2]))
  sNil)
/-- slots: 0 moves 1 label 2 value 3 move -/
def b_goal : DS :=
  (sSeq (sFor (iSeq (eVar 0)) (gN 3)
   (sSeq (sIf (bAnd (bCmp eqD (eBin ixD (eVar 3) (eC (.int 0))) (eVar 1)) (bAnd (bCmp leD (eBin ixD (eVar 3) (eC (.int 1))) (eVar 2)) (bCmp leD (eVar 2) (eBin ixD (eVar 3) (eC (.int 2))))))
    (sSeq (sRet (eBin ixD (eVar 3) (eC (.int 3))))
    sNil)
    sNil)
   sNil))
  (sSeq (sRet (eC .non))
  sNil))
/-- slots: 0 rows 1 found 2 moves 3 move 4 value -/
def b_marks : DS :=
  (sSeq (sAsg (eLst aNil) (gN 1))
  (sSeq (sFor (iSeq (eVar 0)) (gN 2)
   (sSeq (sFor (iSeq (eVar 2)) (gN 3)
    (sSeq (sFor (iSeq (eLst (aCons (eBin ixD (eVar 3) (eC (.int 1))) (aCons (eBin addD (eBin ixD (eVar 3) (eC (.int 2))) (eC (.int 1))) aNil)))) (gN 4)
     (sSeq (sIf (bAnd (bCmp leD (eVar 4) (eC (.int 999999))) (bCmp ninD (eTup (aCons (eBin ixD (eVar 3) (eC (.int 0))) (aCons (eVar 4) aNil))) (eVar 1)))
      (sSeq (sExp (eMt "list" appendD (eVar 1) (aCons (eTup (aCons (eBin ixD (eVar 3) (eC (.int 0))) (aCons (eVar 4) aNil))) aNil)))
      sNil)
      sNil)
     sNil))
    sNil))
   sNil))
  (sSeq (sRet (eCall sortedD (aCons (eVar 1) aNil)))
  sNil)))
/-- slots: 0 one 1 other -/
def b_same_kind : DS :=
  (sSeq (sIf (bCmp neD (eBin ixD (eVar 0) (eC (.int 0))) (eBin ixD (eVar 1) (eC (.int 0))))
   (sSeq (sRet (eC (.bl false)))
   sNil)
   sNil)
  (sSeq (sRet (eOr (eCmp eqD (eBin ixD (eVar 0) (eC (.int 0))) (eC (.str "end"))) (eCmp eqD (eBin ixD (eVar 0) (eC (.int 1))) (eBin ixD (eVar 1) (eC (.int 1))))))
  sNil))
/-- slots: 0 one 1 other -/
def b_equal : DS :=
  (sSeq (sRet (eAnd (eCmp eqD (eVar 0) (eVar 1)) (eCmp eqD (eCall reprD (aCons (eVar 0) aNil)) (eCall reprD (aCons (eVar 1) aNil)))))
  sNil)
/-- slots: 0 jar 1 label 2 goals 3 found 4 low 5 count 6 high -/
def b_spans_row (c_pick : List D → Mh → PQ → Prop) : DS :=
  (sSeq (sAsg (eLst aNil) (gN 3))
  (sSeq (sAsg (eBin ixD (eLst (aCons (eC (.int 0)) (aCons (eC (.int 0)) (aCons (eC (.int 0)) (aCons (eC (.int 1)) (aCons (eC (.int 7)) (aCons (eC (.int 900)) (aCons (eC (.int 999994)) aNil)))))))) (eFn 2 c_pick (aCons (eVar 0) (aCons (eC (.int 7)) aNil)))) (gN 4))
  (sSeq (sFor (iRg1 (aCons (eBin addD (eC (.int 1)) (eFn 2 c_pick (aCons (eVar 0) (aCons (eC (.int 3)) aNil)))) aNil)) (gN 5)
   (sSeq (sIf (bCmp leD (eVar 4) (eC (.int 999999)))
    (sSeq (sAsg (eCall minD (aCons (eC (.int 999999)) (aCons (eBin addD (eVar 4) (eBin ixD (eLst (aCons (eC (.int 0)) (aCons (eC (.int 0)) (aCons (eC (.int 1)) (aCons (eC (.int 2)) (aCons (eC (.int 9)) (aCons (eC (.int 400)) (aCons (eC (.int 999999)) aNil)))))))) (eFn 2 c_pick (aCons (eVar 0) (aCons (eC (.int 7)) aNil))))) aNil))) (gN 6))
    (sSeq (sExp (eMt "list" appendD (eVar 3) (aCons (eTup (aCons (eVar 1) (aCons (eVar 4) (aCons (eVar 6) (aCons (eBin ixD (eVar 2) (eFn 2 c_pick (aCons (eVar 0) (aCons (eCall lenD (aCons (eVar 2) aNil)) aNil)))) aNil))))) aNil)))
    (sSeq (sAsg (eBin addD (eBin addD (eVar 6) (eC (.int 1))) (eBin ixD (eLst (aCons (eC (.int 0)) (aCons (eC (.int 0)) (aCons (eC (.int 0)) (aCons (eC (.int 1)) (aCons (eC (.int 6)) aNil)))))) (eFn 2 c_pick (aCons (eVar 0) (aCons (eC (.int 5)) aNil))))) (gN 4))
    sNil)))
    sNil)
   sNil))
  (sSeq (sRet (eVar 3))
  sNil))))
/-- slots: 0 jar 1 labels 2 goals 3 found 4 shift 5 label -/
def b_mixed_moves (c_pick : List D → Mh → PQ → Prop) (c_spans_row : List D → Mh → PQ → Prop) : DS :=
  (sSeq (sAsg (eLst aNil) (gN 3))
  (sSeq (sAsg (eFn 2 c_pick (aCons (eVar 0) (aCons (eCall lenD (aCons (eVar 1) aNil)) aNil))) (gN 4))
  (sSeq (sFor (iSeq (eBin addD (eSl (eVar 1) (some (eVar 4)) none) (eSl (eVar 1) none (some (eVar 4))))) (gN 5)
   (sSeq (sIf (bOr (bCmp eqD (eCall lenD (aCons (eVar 3) aNil)) (eC (.int 0))) (bCmp eqD (eFn 2 c_pick (aCons (eVar 0) (aCons (eC (.int 2)) aNil))) (eC (.int 0))))
    (sSeq (sExp (eMt "list" extendD (eVar 3) (aCons (eFn 3 c_spans_row (aCons (eVar 0) (aCons (eVar 5) (aCons (eVar 2) aNil)))) aNil)))
    sNil)
    sNil)
   sNil))
  (sSeq (sRet (eCall tupleD (aCons (eCall sortedD (aCons (eVar 3) aNil)) aNil)))
  sNil))))
/-- slots: 0 machine 1 found 2 count 3 move -/
def b_walk_order : DS :=
  (sSeq (sAsg (eLst (aCons (eC (.int 0)) aNil)) (gN 1))
  (sSeq (sFor (iRg1 (aCons (eCall lenD (aCons (eVar 0) aNil)) aNil)) (gN 2)
   (sSeq (sIf (bAnd (bCmp ltD (eVar 2) (eCall lenD (aCons (eVar 1) aNil))) (bCmp neD (eBin ixD (eBin ixD (eVar 0) (eBin ixD (eVar 1) (eVar 2))) (eC (.int 0))) (eC (.str "end"))))
    (sSeq (sFor (iSeq (eBin ixD (eBin ixD (eVar 0) (eBin ixD (eVar 1) (eVar 2))) (eC (.int 2)))) (gN 3)
     (sSeq (sIf (bCmp ninD (eBin ixD (eVar 3) (eC (.int 3))) (eVar 1))
      (sSeq (sExp (eMt "list" appendD (eVar 1) (aCons (eBin ixD (eVar 3) (eC (.int 3))) aNil)))
      sNil)
      sNil)
     sNil))
    sNil)
    sNil)
   sNil))
  (sSeq (sRet (eVar 1))
  sNil)))
/-- slots: 0 thing 1 standing -/
def b_is_machine (c_is_moves : List D → Mh → PQ → Prop) (c_is_label : List D → Mh → PQ → Prop) : DS :=
  (sSeq (sIf (bOr (bNot (bTru (eIsi "tuple" (eVar 0)))) (bCmp eqD (eCall lenD (aCons (eVar 0) aNil)) (eC (.int 0))))
   (sSeq (sRet (eC (.bl false)))
   sNil)
   sNil)
  (sSeq (sFor (iSeq (eVar 0)) (gN 1)
   (sSeq (sIf (bOr (bNot (bTru (eIsi "tuple" (eVar 1)))) (bOr (bCmp ninD (eCall lenD (aCons (eVar 1) aNil)) (eTup (aCons (eC (.int 1)) (aCons (eC (.int 3)) aNil)))) (bNot (bTru (eIsi "str" (eBin ixD (eVar 1) (eC (.int 0))))))))
    (sSeq (sRet (eC (.bl false)))
    sNil)
    sNil)
   (sSeq (sIf (bAnd (bCmp eqD (eCall lenD (aCons (eVar 1) aNil)) (eC (.int 1))) (bCmp neD (eBin ixD (eVar 1) (eC (.int 0))) (eC (.str "end"))))
    (sSeq (sRet (eC (.bl false)))
    sNil)
    sNil)
   (sSeq (sIf (bCmp eqD (eCall lenD (aCons (eVar 1) aNil)) (eC (.int 3)))
    (sSeq (sIf (bOr (bCmp ninD (eBin ixD (eVar 1) (eC (.int 0))) (eTup (aCons (eC (.str "say")) (aCons (eC (.str "hear")) aNil)))) (bNot (bTru (eFn 1 c_is_label (aCons (eBin ixD (eVar 1) (eC (.int 1))) aNil)))))
     (sSeq (sRet (eC (.bl false)))
     sNil)
     sNil)
    (sSeq (sIf (bNot (bTru (eFn 2 c_is_moves (aCons (eBin ixD (eVar 1) (eC (.int 2))) (aCons (eCall lenD (aCons (eVar 0) aNil)) aNil)))))
     (sSeq (sRet (eC (.bl false)))
     sNil)
     sNil)
    sNil))
    sNil)
   sNil))))
  (sSeq (sRet (eC (.bl true)))
  sNil)))
end TM
/-! TMp: merged, flipped, standings_from, renumbered, trimmed. -/
namespace TM
open PySem DL L2 LW
-- where it stands in the row of things held
local macro_rules | `(tactic| walk_at "m") => `(tactic| first
  | assumption
  | exact List.mem_cons_self
  | (refine List.mem_cons_of_mem _ ?_; walk_at "m"))
-- what the heap holds at a place
local macro_rules | `(tactic| walk_at "h") => `(tactic| first
  | assumption
  | exact mup_same
  | exact Held.get (by assumption) (by walk_at "m")
  | (refine (mup_ne ?_).trans ?_ <;> first | assumption | (apply Ne.symm; assumption) | walk_at "h"))
-- small facts of numbers
local macro_rules | `(tactic| walk_at "n") => `(tactic| first
  | assumption
  | omega
  | decide
  | (exact CMul.r (by decide))
  | (exact CMul.l (by decide))
  | (refine ⟨?_, ?_⟩ <;> first | assumption | omega | decide))
-- lengths
local macro_rules | `(tactic| walk_at "l") => `(tactic| first
  | assumption
  | (rw [sizeLine_eq]; first | omega | decide | (simp; done) | (simp; omega) | decide +kernel))
-- one step
local macro_rules | `(tactic| walk_at "e1") => `(tactic| first
  | with_reducible refine t_nil ?_
  | ((with_reducible refine' t_var ?s ?_); (case s => first | exact rfl | assumption))
  | with_reducible refine t_c ?_
  | with_reducible refine t_bin ?_
  | with_reducible refine t_if ?_
  | with_reducible refine t_asg ?_
  | ((with_reducible refine' t_gN' ?e ?_); (case e => ((try simp only [List.set_cons_zero, List.set_cons_succ, startD, List.map_cons, List.map_nil, List.length_cons, List.length_nil, Nat.reduceAdd, Nat.reduceSub, List.replicate, List.cons_append, List.nil_append]); exact rfl)))
  | with_reducible refine t_ret ?_
  | with_reducible refine t_exp ?_
  | with_reducible refine t_bcmp ?_
  | with_reducible refine t_band ?_
  | with_reducible refine t_bor ?_
  | with_reducible refine t_bnot ?_
  | with_reducible refine t_btru ?_
  | with_reducible refine t_byes ?_
  | with_reducible refine t_an ?_
  | with_reducible refine t_ac ?_
  | with_reducible refine t_fn ?_
  | with_reducible refine t_call ?_
  | with_reducible refine t_cmp ?_
  | with_reducible refine t_and ?_
  | with_reducible refine t_or ?_
  | with_reducible refine t_not ?_
  | with_reducible refine t_ife ?_
  | with_reducible refine t_tupN ?_
  | ((with_reducible refine v_newT ?l ?_); (case l => exact Nat.le_of_ble_eq_true rfl))
  | with_reducible refine t_lstN ?_
  | with_reducible refine t_isi ?_
  | with_reducible refine t_sl ?_
  | with_reducible refine t_o0 ?_
  | with_reducible refine t_o1 ?_
  | with_reducible refine t_un ?_
  | with_reducible refine t_mt ?_
  | with_reducible refine t_gS ?_
  | with_reducible refine t_gsC ?_
  | with_reducible refine t_gsN ?_
  | ((with_reducible refine t_gT ?s ?_); (case s => first | assumption | exact rfl))
  | with_reducible refine t_retN ?_
  | with_reducible refine t_brk ?_
  | with_reducible refine t_cnt ?_
  | ((with_reducible refine' t_aug ?s ?_); (case s => first | exact rfl | assumption))
  | with_reducible refine t_for ?_
  | with_reducible refine t_seqi ?_
  | with_reducible refine t_rg1 ?_
  | with_reducible refine t_rg2 ?_
  | with_reducible refine t_lc ?_
  | with_reducible refine v_tru_bl ?_
  | with_reducible refine v_tru_int ?_
  | with_reducible refine v_tru_non ?_
  | with_reducible refine v_tru_tup ?_
  | with_reducible refine v_add_int ?_
  | ((with_reducible refine v_add_str ?l ?_); (case l => walk_at "l"))
  | ((with_reducible refine v_add_tup ?l ?_); (case l => walk_at "l"))
  | with_reducible refine v_iadd_int ?_
  | with_reducible refine v_sub ?_
  | ((with_reducible refine v_mul ?c ?_); (case c => walk_at "n"))
  | ((with_reducible refine v_div ?c ?_); (case c => walk_at "n"))
  | ((with_reducible refine v_mod ?c ?_); (case c => walk_at "n"))
  | ((with_reducible refine v_pow ?c ?_); (case c => exact ⟨by decide, by decide, by decide⟩))
  | with_reducible refine v_neg ?_
  | with_reducible exact trivial
  | with_reducible refine v_eq_int ?_
  | with_reducible refine v_eq_str ?_
  | with_reducible refine v_eq_bl ?_
  | with_reducible refine v_ne_int ?_
  | with_reducible refine v_ne_str ?_
  | with_reducible refine v_ne_bl ?_
  | with_reducible refine v_lt ?_
  | with_reducible refine v_lt_str ?_
  | with_reducible refine t_ks ?_
  | with_reducible refine t_rv ?_
  | with_reducible refine v_seq_ktp ?_
  | with_reducible refine v_le ?_
  | with_reducible refine v_gt ?_
  | with_reducible refine v_ge ?_
  | with_reducible refine v_isi_non ?_
  | with_reducible refine v_isi_bl ?_
  | with_reducible refine v_isi_int ?_
  | with_reducible refine v_isi_str ?_
  | with_reducible refine v_isi_tup ?_
  | with_reducible refine v_in_str ?_
  | with_reducible refine v_nin_str ?_
  | with_reducible refine v_len_tup ?_
  | with_reducible refine v_len_rol ?_
  | with_reducible refine v_len_ktp ?_
  | with_reducible refine v_tru_ktp ?_
  | with_reducible refine v_isi_ktp ?_
  | with_reducible refine v_tuple_ktp ?_
  | with_reducible refine t_zip ?_
  | with_reducible refine v_zip_tt ?_
  | with_reducible refine v_zip_tk ?_
  | with_reducible refine v_zip_kt ?_
  | with_reducible refine v_zip_kk ?_
  | ((with_reducible refine' v_zip_ll ?e ?f ?_); (case e => walk_at "h"); (case f => walk_at "h"))
  | with_reducible refine t_ix ?_
  | ((with_reducible refine' ⟨seqK_ref ?e, ?_⟩); (case e => walk_at "h"))
  | with_reducible refine t_lr ?_
  | ((with_reducible refine' v_ix_ktp ?f ?_); (case f => first | assumption | exact rfl))
  | ((with_reducible refine t_gTk ?s ?_); (case s => first | assumption | exact rfl))
  | ((with_reducible refine v_len_str ?l ?_); (case l => walk_at "l"))
  | ((with_reducible refine' v_len_ref ?e ?_); (case e => walk_at "h"))
  | with_reducible refine v_int_int ?_
  | with_reducible refine v_int_bl ?_
  | with_reducible refine v_max ?_
  | with_reducible refine v_min ?_
  | with_reducible refine v_tuple_tup ?_
  | ((with_reducible refine' v_tuple_ref ?e ?_); (case e => walk_at "h"))
  | ((with_reducible refine' v_ix_ref ?e ?f ?_); (case e => walk_at "h"); (case f => first | assumption | exact rfl))
  | ((with_reducible refine' v_ix_tup ?f ?_); (case f => first | assumption | exact rfl))
  | ((with_reducible refine v_sl_str ?l ?_); (case l => walk_at "l"))
  | with_reducible refine v_sl_tup ?_
  | with_reducible refine v_seq_tup ?_
  | with_reducible refine v_seq_str ?_
  | with_reducible refine v_seq_rol ?_
  | ((with_reducible refine' v_seq_ref ?e ?_); (case e => walk_at "h"))
  | ((with_reducible refine' ⟨v_ty_ref ?e, ?_⟩); (case e => walk_at "h")))
local macro_rules | `(tactic| walk_at "d1") => `(tactic| first | with_reducible refine t_seq ?_ | walk_at "e1")
local macro_rules | `(tactic| walk_at "d") => `(tactic| repeat walk_at "d1")
-- one statement
local macro_rules | `(tactic| walk_at "e") => `(tactic| ((repeat walk_at "e1"); try (with_reducible show sSeq _ _ _ _ _)))
local macro_rules | `(tactic| walk_at "s") => `(tactic| ((with_reducible refine t_seq ?_); walk_at "e"))
-- a drawn thing's small facts
local macro_rules | `(tactic| walk_at "gi") => `(tactic| first
  | exact gi_c trivial
  | exact gi_c ⟨_, rfl, by decide, by decide⟩
  | exact gi_c (show _ ≤ _ by decide)
  | exact gi_c (show _ ≤ _ by decide +kernel)
  | exact gi_v rfl trivial)
local macro_rules | `(tactic| walk_at "ga") => `(tactic| ((repeat (first | exact ga_nil | refine ga_cons2 ?_ ?_)); all_goals (try walk_at "gi")))
theorem mo_d (m : Mo) : Mo.d m = .tup [.str m.z, .int m.l, .int m.h, .int m.g] := rfl
theorem st_some (s : Sd) : stD (some s) = .tup [.str s.kind, .str s.who, .tup (s.ms.map Mo.d)] := rfl
theorem st_none : stD none = .tup [.str "end"] := rfl
theorem kind_end {s : Str} (h : s = "say" ∨ s = "hear") : (s == "end") = false := by
  rcases h with rfl | rfl <;> decide +kernel
theorem mrg_len (ms : List Mo) : (mrgL ms).length ≤ ms.length := by
  refine snoc_ind (p := fun ms => (mrgL ms).length ≤ ms.length) (Nat.le_refl _) (fun l m ih => ?_) ms
  rw [mrg_snoc]
  rcases snoc_cases (mrgL l) with e | ⟨r, a, e⟩
  · rw [e, ms1_nil]; simp
  · rw [e] at ih
    rw [e, ms1_snoc]
    split <;> (simp at ih ⊢; omega)
theorem atI_last {α : Type} (l : List α) (x : α) : atI (l ++ [x]) (-1) = some x := by
  unfold atI ixN
  rw [if_neg (by decide), if_pos (by rw [List.length_append]; simp; omega)]
  show (l ++ [x])[((-1 : Int) + ((l ++ [x]).length : Int)).toNat]? = some x
  rw [show ((-1 : Int) + ((l ++ [x]).length : Int)).toNat = l.length by rw [List.length_append]; simp; omega]
  simp
theorem ixN_last {α : Type} (l : List α) (x : α) : ixN (l ++ [x]).length (-1) = some l.length := by
  unfold ixN
  rw [if_neg (by decide), if_pos (by rw [List.length_append]; simp; omega)]
  rw [show ((-1 : Int) + ((l ++ [x]).length : Int)).toNat = l.length by rw [List.length_append]; simp; omega]
theorem set_last {α : Type} (l : List α) (x y : α) : (l ++ [x]).set l.length y = l ++ [y] := by
  rw [List.set_append_right _ _ (Nat.le_refl _), Nat.sub_self]; rfl
theorem tk_snoc {α : Type} {l : List α} {i : Nat} {a : α} (h : l[i]? = some a) : l.take (i + 1) = l.take i ++ [a] := by
  rw [List.take_add_one, h]; rfl

/-! ### merged -/
def sp_merged : DSp := fun ds M P => ∃ (Js : List Addr) (L : List (Addr × MO)) (ms : List Mo), ds = [.tup (ms.map Mo.d)] ∧ Held M Js L ∧ ms.length ≤ 1000 ∧ ∀ M', Held M' Js L → P (.tup ((mrgL ms).map Mo.d)) M'
theorem ok_merged (ds : List D) (M : Mh) (P : PQ) (h : sp_merged ds M P) : b_merged { nx := fun _ M' => P .non M', rt := P } (startD 8 ds) M := by
  obtain ⟨Js, L, ms, rfl, H, hl, k⟩ := h
  unfold b_merged
  walk_at "s"
  refine h_new H (Nat.le_of_ble_eq_true rfl) fun p M H => ?_
  walk_at "e"
  walk_at "s"
  refine for_each (fun i ρ M => ∃ (w2 w3 w4 w5 w6 w7 : Option D), ρ = [some (.tup (ms.map Mo.d)), some (.ref p), w2, w3, w4, w5, w6, w7] ∧ Held M Js ((p, .lst ((mrgL (ms.take i)).map Mo.d)) :: L)) ⟨_, _, _, _, _, _, rfl, H⟩ (fun N i d ρ M hd hI hN => ?_) (fun ρ M hI => ?_)
  · obtain ⟨w2, w3, w4, w5, w6, w7, rfl, H⟩ := hI
    rw [List.getElem?_map] at hd
    obtain ⟨m, hm, rfl⟩ := Option.map_eq_some_iff.mp hd
    have rl := mrg_len (ms.take i)
    rw [List.length_take] at rl
    have rl : (mrgL (ms.take i)).length ≤ 1000 := by omega
    have nx : mrgL (ms.take (i + 1)) = ms1 (mrgL (ms.take i)) m := by rw [tk_snoc hm, mrg_snoc]
    generalize mrgL (ms.take i) = r at H rl nx
    refine ⟨trivial, ?_⟩
    rw [mo_d]
    have fl : (r.map Mo.d).length = r.length := List.length_map ..
    rcases snoc_cases r with rfl | ⟨r0, a, rfl⟩
    · walk_at "d"
      refine t_if0 (by rfl) ?_
      walk_at "d"
      refine h_appI 0 H rfl (by simp) fun M H => ?_
      exact hN _ _ ⟨_, _, _, _, _, _, rfl, by rw [nx, ms1_nil]; exact H⟩
    · rw [List.map_append] at H fl
      have H : Held M Js ((p, .lst (r0.map Mo.d ++ [.tup [.str a.z, .int a.l, .int a.h, .int a.g]])) :: L) := H
      have hlen : (r0.map Mo.d ++ [D.tup [.str a.z, .int a.l, .int a.h, .int a.g]]).length ≤ 1000 := by
        rw [List.length_append, List.length_map]; rw [List.length_append] at rl; exact rl
      have ea := atI_last (r0.map Mo.d) (.tup [.str a.z, .int a.l, .int a.h, .int a.g])
      have es := ixN_last (r0.map Mo.d) (.tup [.str a.z, .int a.l, .int a.h, .int a.g])
      have put : ¬ jn a m = true → ∀ w7, appendD (.ref p) [.tup [.str m.z, .int m.l, .int m.h, .int m.g]] M fun _ M' => N [some (.tup (ms.map Mo.d)), some (.ref p), some (.tup [.str m.z, .int m.l, .int m.h, .int m.g]), some (.str m.z), some (.int m.l), some (.int m.h), some (.int m.g), w7] M' := fun hj w7 =>
        h_appI 0 H rfl (by omega) fun M H => hN _ _ ⟨_, _, _, _, _, _, rfl, by rw [nx, ms1_snoc, if_neg hj, List.map_append, List.map_append]; exact H⟩
      walk_at "d"
      refine t_if1 (by rw [List.length_append]; exact decide_eq_true (by simp)) ?_
      walk_at "d"
      refine t_ite (fun e1 => ?_) (fun e1 => ?_)
      · walk_at "e"
        refine t_ite (fun e2 => ?_) (fun e2 => ?_)
        · walk_at "e"
          refine t_ite (fun e3 => ?_) (fun e3 => ?_)
          · walk_at "d"
            refine h_setI 0 H rfl es fun M H => ?_
            walk_at "d"
            rw [set_last] at H
            have j : jn a m = true := jn_iff.mpr ⟨beq_iff_eq.mp e1, beq_iff_eq.mp e2, beq_iff_eq.mp e3⟩
            exact hN _ _ ⟨_, _, _, _, _, _, rfl, by rw [nx, ms1_snoc, if_pos j, List.map_append]; exact H⟩
          · walk_at "d"
            exact put (fun j => by rw [(jn_iff.mp j).2.2] at e3; simp at e3) _
        · refine t_if0 (by rfl) ?_
          walk_at "d"
          exact put (fun j => by rw [(jn_iff.mp j).2.1] at e2; simp at e2) _
      · refine t_if0 (by rfl) ?_
        walk_at "d"
        exact put (fun j => by rw [(jn_iff.mp j).1] at e1; simp at e1) _
  · obtain ⟨w2, w3, w4, w5, w6, w7, rfl, H⟩ := hI
    rw [List.length_map, List.take_length] at H
    refine ⟨trivial, ?_⟩
    walk_at "d"
    exact k _ H.tail
/-! ### moves_of, flipped .. -/
def msOf : Option Sd → List Mo
  | some s => s.ms
  | none => []
def sp_moves_of : DSp := fun ds M P => ∃ (o : Option Sd), ds = [stD o] ∧ (∀ s, o = some s → s.kind = "say" ∨ s.kind = "hear") ∧ P (.tup ((msOf o).map Mo.d)) M
theorem ok_moves_of (ds : List D) (M : Mh) (P : PQ) (h : sp_moves_of ds M P) : b_moves_of { nx := fun _ M' => P .non M', rt := P } (startD 1 ds) M := by
  obtain ⟨o, rfl, ho, k⟩ := h
  unfold b_moves_of
  cases o with
  | none =>
    rw [st_none]
    walk_at "d"
    refine t_if1 (by decide +kernel) ?_
    walk_at "d"
    exact k
  | some s =>
    rw [st_some]
    walk_at "d"
    refine t_if0 (kind_end (ho s rfl)) ?_
    walk_at "d"
    exact k
def sp_flipped_word : DSp := fun ds M P => ∃ z, ds = [.str z] ∧ P (.str (flipW z)) M
theorem ok_flipped_word (ds : List D) (M : Mh) (P : PQ) (h : sp_flipped_word ds M P) : b_flipped_word { nx := fun _ M' => P .non M', rt := P } (startD 1 ds) M := by
  obtain ⟨z, rfl, k⟩ := h
  unfold b_flipped_word
  walk_at "d"
  unfold flipW at k
  refine t_ite (fun e => ?_) (fun e => ?_)
  · rw [if_pos (eq_of_beq e)] at k
    walk_at "d"
    exact k
  · rw [if_neg (fun z => by rw [z] at e; simp at e)] at k
    walk_at "d"
    exact k
def sp_flipped_standing : DSp := fun ds M P => ∃ (o : Option Sd), ds = [stD o] ∧ (∀ s, o = some s → s.kind = "say" ∨ s.kind = "hear") ∧ P (stD (flipS o)) M
theorem ok_flipped_standing (ds : List D) (M : Mh) (P : PQ) (h : sp_flipped_standing ds M P) : b_flipped_standing sp_flipped_word { nx := fun _ M' => P .non M', rt := P } (startD 1 ds) M := by
  obtain ⟨o, rfl, ho, k⟩ := h
  unfold b_flipped_standing
  cases o with
  | none =>
    rw [st_none]
    walk_at "d"
    refine t_if1 (by decide +kernel) ?_
    walk_at "d"
    exact k
  | some s =>
    rw [st_some]
    walk_at "d"
    refine t_if0 (kind_end (ho s rfl)) ?_
    walk_at "d"
    refine ⟨rfl, _, rfl, ?_⟩
    walk_at "d"
    exact k
def sp_flipped : DSp := fun ds M P => ∃ (Js : List Addr) (L : List (Addr × MO)) (n : Nat) (sts : Sts), ds = [machD sts] ∧ Held M Js L ∧ MaOk n sts ∧ ∀ M', Held M' Js L → P (machD (sts.map flipS)) M'
theorem ok_flipped (ds : List D) (M : Mh) (P : PQ) (h : sp_flipped ds M P) : b_flipped sp_flipped_standing { nx := fun _ M' => P .non M', rt := P } (startD 2 ds) M := by
  obtain ⟨Js, L, n, sts, rfl, H, hm, k⟩ := h
  have hl := hm.len
  have hle := hm.le
  unfold b_flipped machD
  walk_at "d"
  refine h_lc (fun i acc => acc = (sts.take i).map fun o => stD (flipS o)) H (by rw [List.length_map]; omega) rfl (fun _ _ => trivial) (fun R i d acc q M hd hI H kR => ?_) (fun q acc M hl hI H => ?_)
  · rw [List.getElem?_map] at hd
    obtain ⟨o, h0, rfl⟩ := Option.map_eq_some_iff.mp hd
    refine ⟨_, rfl, ?_⟩
    walk_at "d"
    refine ⟨rfl, o, rfl, fun s e => (hm.st s (e ▸ List.mem_of_getElem? h0)).kind, ?_⟩
    exact kR _ _ (by rw [hI, tk_snoc h0, List.map_append]; rfl) H
  · walk_at "d"
    have e : acc = (sts.map flipS).map stD := by rw [hI, List.length_map, List.take_length, List.map_map]; rfl
    rw [e]
    exact k _ H.tail
end TM
/-! LXb: bodies of helpers that the laws of machines have, as gen.py prints them. -/
namespace LX
open PySem DL
/-- slots: 0 jar 1 index 2 letters 3 word 4 count 5 at -/
def b_name (c_pick : List D → Mh → PQ → Prop) : DS :=
  (sSeq (sAsg (eC (.str "abcdefghijklmnopqrstuvwxyz")) (gN 2))
  (sSeq (sAsg (eBin ixD (eVar 2) (eFn 2 c_pick (aCons (eVar 0) (aCons (eC (.int 26)) aNil)))) (gN 3))
  (sSeq (sFor (iRg1 (aCons (eBin ixD (eLst (aCons (eC (.int 0)) (aCons (eC (.int 0)) (aCons (eC (.int 1)) (aCons (eC (.int 2)) (aCons (eC (.int 6)) aNil)))))) (eFn 2 c_pick (aCons (eVar 0) (aCons (eC (.int 5)) aNil)))) aNil)) (gN 4)
   (sSeq (sAsg (eBin addD (eVar 3) (eBin ixD (eVar 2) (eFn 2 c_pick (aCons (eVar 0) (aCons (eC (.int 26)) aNil))))) (gN 3))
   sNil))
  (sSeq (sAsg (eBin addD (eC (.int 1)) (eFn 2 c_pick (aCons (eVar 0) (aCons (eCall lenD (aCons (eVar 3) aNil)) aNil)))) (gN 5))
  (sSeq (sRet (eBin addD (eBin addD (eSl (eVar 3) none (some (eVar 5))) (eCall strD (aCons (eVar 1) aNil))) (eSl (eVar 3) (some (eVar 5)) none)))
  sNil)))))
/-- slots: 0 jar 1 many 2 index -/
def b_names (c_name : List D → Mh → PQ → Prop) : DS :=
  (sSeq (sRet (eLC (iRg1 (aCons (eVar 1) aNil)) (.nm 2) bYes (eFn 2 c_name (aCons (eVar 0) (aCons (eVar 2) aNil))) [2]))
  sNil)
/-- slots: 0 jar 1 way 2 value 3 low -/
def b_span (c_pick : List D → Mh → PQ → Prop) : DS :=
  (sSeq (sAsg (eFn 2 c_pick (aCons (eVar 0) (aCons (eC (.int 6)) aNil))) (gN 1))
  (sSeq (sIf (bCmp ltD (eVar 1) (eC (.int 2)))
   (sSeq (sRet (eTup (aCons (eC (.int 0)) (aCons (eC (.int 0)) aNil))))
   sNil)
   sNil)
  (sSeq (sIf (bCmp eqD (eVar 1) (eC (.int 2)))
   (sSeq (sAsg (eFn 2 c_pick (aCons (eVar 0) (aCons (eC (.int 12)) aNil))) (gN 2))
   (sSeq (sRet (eTup (aCons (eVar 2) (aCons (eVar 2) aNil))))
   sNil))
   sNil)
  (sSeq (sIf (bCmp eqD (eVar 1) (eC (.int 3)))
   (sSeq (sRet (eTup (aCons (eFn 2 c_pick (aCons (eVar 0) (aCons (eC (.int 1000)) aNil))) (aCons (eBin subD (eC (.int 999999)) (eFn 2 c_pick (aCons (eVar 0) (aCons (eC (.int 3)) aNil)))) aNil))))
   sNil)
   sNil)
  (sSeq (sAsg (eFn 2 c_pick (aCons (eVar 0) (aCons (eC (.int 6)) aNil))) (gN 3))
  (sSeq (sRet (eTup (aCons (eVar 3) (aCons (eBin addD (eVar 3) (eFn 2 c_pick (aCons (eVar 0) (aCons (eC (.int 9)) aNil)))) aNil))))
  sNil))))))
/-- slots: 0 jar 1 labels 2 count 3 goals 4 found 5 used 6 index 7 label 8 again 9 word 10 span 11 low 12 high -/
def b_moves (c_pick : List D → Mh → PQ → Prop) (c_span : List D → Mh → PQ → Prop) : DS :=
  (sSeq (sAsg (eLst aNil) (gN 4))
  (sSeq (sAsg (eLst aNil) (gN 5))
  (sSeq (sFor (iRg1 (aCons (eVar 2) aNil)) (gN 6)
   (sSeq (sAsg (eBin ixD (eVar 1) (eBin modD (eCall intD (aCons (eVar 6) aNil)) (eCall lenD (aCons (eVar 1) aNil)))) (gN 7))
   (sSeq (sAsg (eCall lenD (aCons (eLC (iSeq (eVar 5)) (.nm 9) (bCmp eqD (eVar 9) (eVar 7)) (eVar 9) [9]) aNil)) (gN 8))
   (sSeq (sExp (eMt "list" appendD (eVar 5) (aCons (eVar 7) aNil)))
   (sSeq (sAsg (eFn 1 c_span (aCons (eVar 0) aNil)) (gN 10))
   (sSeq (sAsg (eBin addD (eBin mulD (eVar 8) (eC (.int 1000))) (eBin modD (eCall intD (aCons (eBin ixD (eVar 10) (eC (.int 0))) aNil)) (eC (.int 1000)))) (gN 11))
   (sSeq (sAsg (eBin addD (eBin mulD (eVar 8) (eC (.int 1000))) (eC (.int 999))) (gN 12))
   (sSeq (sIf (bCmp ltD (eBin subD (eBin ixD (eVar 10) (eC (.int 1))) (eBin ixD (eVar 10) (eC (.int 0)))) (eBin subD (eC (.int 999)) (eBin modD (eCall intD (aCons (eBin ixD (eVar 10) (eC (.int 0))) aNil)) (eC (.int 1000)))))
    (sSeq (sAsg (eBin addD (eVar 11) (eBin subD (eBin ixD (eVar 10) (eC (.int 1))) (eBin ixD (eVar 10) (eC (.int 0))))) (gN 12))
    sNil)
    sNil)
   (sSeq (sIf (bAnd (bCmp eqD (eVar 8) (eC (.int 0))) (bAnd (bCmp leD (eVar 2) (eCall lenD (aCons (eVar 1) aNil))) (bCmp gtD (eBin ixD (eVar 10) (eC (.int 1))) (eC (.int 900000)))))
    (sSeq (sAsg (eBin ixD (eVar 10) (eC (.int 1))) (gN 12))
    sNil)
    sNil)
   (sSeq (sExp (eMt "list" appendD (eVar 4) (aCons (eTup (aCons (eVar 7) (aCons (eVar 11) (aCons (eVar 12) (aCons (eBin ixD (eVar 3) (eFn 2 c_pick (aCons (eVar 0) (aCons (eCall lenD (aCons (eVar 3) aNil)) aNil)))) aNil))))) aNil)))
   sNil))))))))))
  (sSeq (sRet (eCall sortedD (aCons (eVar 4) aNil)))
  sNil))))
/-- slots: 0 jar 1 partners 2 labels 3 many 4 found 5 at 6 kind 7 count 8 goals 9 moves 10 move -/
def b_machine (c_pick : List D → Mh → PQ → Prop) (c_moves : List D → Mh → PQ → Prop) : DS :=
  (sSeq (sAsg (eLst aNil) (gN 4))
  (sSeq (sFor (iRg1 (aCons (eBin subD (eVar 3) (eC (.int 1))) aNil)) (gN 5)
   (sSeq (sAsg (eBin ixD (eLst (aCons (eC (.str "say")) (aCons (eC (.str "hear")) aNil))) (eFn 2 c_pick (aCons (eVar 0) (aCons (eC (.int 2)) aNil)))) (gN 6))
   (sSeq (sAsg (eBin addD (eC (.int 1)) (eBin ixD (eLst (aCons (eC (.int 0)) (aCons (eC (.int 0)) (aCons (eC (.int 1)) (aCons (eC (.int 1)) (aCons (eC (.int 2)) aNil)))))) (eFn 2 c_pick (aCons (eVar 0) (aCons (eC (.int 5)) aNil))))) (gN 7))
   (sSeq (sAsg (eLst (aCons (eBin addD (eVar 5) (eC (.int 1))) (aCons (eFn 2 c_pick (aCons (eVar 0) (aCons (eVar 3) aNil))) (aCons (eFn 2 c_pick (aCons (eVar 0) (aCons (eVar 3) aNil))) aNil)))) (gN 8))
   (sSeq (sAsg (eLC (iSeq (eFn 4 c_moves (aCons (eVar 0) (aCons (eVar 2) (aCons (eVar 7) (aCons (eVar 8) aNil)))))) (.nm 10) bYes (eCall listD (aCons (eVar 10) aNil)) [10]) (gN 9))
   (sSeq (sAsg (eBin addD (eVar 5) (eC (.int 1))) (gS (eBin ixD (eVar 9) (eFn 2 c_pick (aCons (eVar 0) (aCons (eCall lenD (aCons (eVar 9) aNil)) aNil)))) (eC (.int 3))))
   (sSeq (sExp (eMt "list" appendD (eVar 4) (aCons (eTup (aCons (eVar 6) (aCons (eBin ixD (eVar 1) (eFn 2 c_pick (aCons (eVar 0) (aCons (eCall lenD (aCons (eVar 1) aNil)) aNil)))) (aCons (eCall tupleD (aCons (eLC (iSeq (eVar 9)) (.nm 10) bYes (eCall tupleD (aCons (eVar 10) aNil)) [10]) aNil)) aNil)))) aNil)))
   sNil)))))))
  (sSeq (sExp (eMt "list" appendD (eVar 4) (aCons (eTup (aCons (eC (.str "end")) aNil)) aNil)))
  (sSeq (sRet (eCall tupleD (aCons (eVar 4) aNil)))
  sNil))))
/-- slots: 0 jar 1 names 2 found -/
def b_edged (c_pick : List D → Mh → PQ → Prop) : DS :=
  (sSeq (sAsg (eCall listD (aCons (eVar 1) aNil)) (gN 2))
  (sSeq (sAsg (eBin ixD (eLst (aCons (eC (.str "a")) (aCons (eC (.str "z")) (aCons (eC (.str "machines")) (aCons (eC (.str "a2345678")) aNil))))) (eFn 2 c_pick (aCons (eVar 0) (aCons (eC (.int 4)) aNil)))) (gS (eVar 2) (eFn 2 c_pick (aCons (eVar 0) (aCons (eCall lenD (aCons (eVar 2) aNil)) aNil)))))
  (sSeq (sRet (eVar 2))
  sNil)))
end LX
/-! LXg: names, moves and machines that the laws draw. -/
namespace LX
open PySem DL L2
-- what the heap holds at a place
local macro_rules | `(tactic| walk_at "h") => `(tactic| first
  | assumption
  | exact mup_same
  | (refine (mup_ne ?_).trans ?_ <;> first | assumption | (apply Ne.symm; assumption) | walk_at "h"))
-- small facts of numbers
local macro_rules | `(tactic| walk_at "n") => `(tactic| first
  | assumption
  | omega
  | decide
  | (exact CMul.r (by decide))
  | (exact CMul.l (by decide))
  | (refine ⟨?_, ?_⟩ <;> first | assumption | omega | decide))
-- lengths
local macro_rules | `(tactic| walk_at "l") => `(tactic| first
  | assumption
  | (rw [sizeLine_eq]; first | omega | decide | (simp; done) | (simp; omega) | decide +kernel))
-- one step
local macro_rules | `(tactic| walk_at "e1") => `(tactic| first
  | with_reducible refine t_nil ?_
  | ((with_reducible refine' t_var ?s ?_); (case s => first | assumption | exact rfl))
  | with_reducible refine t_c ?_
  | with_reducible refine t_bin ?_
  | with_reducible refine t_if ?_
  | with_reducible refine t_asg ?_
  | with_reducible refine t_gN ?_
  | with_reducible refine t_ret ?_
  | with_reducible refine t_exp ?_
  | with_reducible refine t_bcmp ?_
  | with_reducible refine t_band ?_
  | with_reducible refine t_bor ?_
  | with_reducible refine t_bnot ?_
  | with_reducible refine t_btru ?_
  | with_reducible refine t_byes ?_
  | with_reducible refine t_an ?_
  | with_reducible refine t_ac ?_
  | with_reducible refine t_fn ?_
  | with_reducible refine t_call ?_
  | with_reducible refine t_cmp ?_
  | with_reducible refine t_and ?_
  | with_reducible refine t_or ?_
  | with_reducible refine t_not ?_
  | with_reducible refine t_ife ?_
  | with_reducible refine t_tup ?_
  | with_reducible refine t_lst ?_
  | with_reducible refine t_isi ?_
  | with_reducible refine t_sl ?_
  | with_reducible refine t_o0 ?_
  | with_reducible refine t_o1 ?_
  | with_reducible refine t_un ?_
  | with_reducible refine t_mt ?_
  | with_reducible refine t_gS ?_
  | with_reducible refine t_gsC ?_
  | with_reducible refine t_gsN ?_
  | ((with_reducible refine t_gT ?s ?_); (case s => first | assumption | exact rfl))
  | with_reducible refine t_retN ?_
  | with_reducible refine t_brk ?_
  | with_reducible refine t_cnt ?_
  | ((with_reducible refine' t_aug ?s ?_); (case s => first | assumption | exact rfl))
  | with_reducible refine t_for ?_
  | with_reducible refine t_seqi ?_
  | with_reducible refine t_rg1 ?_
  | with_reducible refine t_rg2 ?_
  | with_reducible refine t_lc ?_
  | with_reducible refine v_tru_bl ?_
  | with_reducible refine v_tru_int ?_
  | with_reducible refine v_tru_non ?_
  | with_reducible refine v_tru_tup ?_
  | with_reducible refine v_add_int ?_
  | ((with_reducible refine v_add_str ?l ?_); (case l => walk_at "l"))
  | ((with_reducible refine v_add_tup ?l ?_); (case l => walk_at "l"))
  | with_reducible refine v_iadd_int ?_
  | with_reducible refine v_sub ?_
  | ((with_reducible refine v_mul ?c ?_); (case c => walk_at "n"))
  | ((with_reducible refine v_div ?c ?_); (case c => walk_at "n"))
  | ((with_reducible refine v_mod ?c ?_); (case c => walk_at "n"))
  | ((with_reducible refine v_pow ?c ?_); (case c => exact ⟨by decide, by decide, by decide⟩))
  | with_reducible refine v_neg ?_
  | with_reducible exact trivial
  | with_reducible refine v_eq_int ?_
  | with_reducible refine v_eq_str ?_
  | with_reducible refine v_eq_bl ?_
  | with_reducible refine v_ne_int ?_
  | with_reducible refine v_ne_str ?_
  | with_reducible refine v_ne_bl ?_
  | with_reducible refine v_lt ?_
  | with_reducible refine v_lt_str ?_
  | with_reducible refine t_ks ?_
  | with_reducible refine t_rv ?_
  | with_reducible refine v_seq_ktp ?_
  | ((with_reducible refine' v_extend ?e ?f ?l ?_); (case e => walk_at "h"); (case f => walk_at "h"); (case l => walk_at "l"))
  | with_reducible refine v_le ?_
  | with_reducible refine v_gt ?_
  | with_reducible refine v_ge ?_
  | with_reducible refine v_isi_non ?_
  | with_reducible refine v_isi_bl ?_
  | with_reducible refine v_isi_int ?_
  | with_reducible refine v_isi_str ?_
  | with_reducible refine v_isi_tup ?_
  | with_reducible refine v_in_str ?_
  | with_reducible refine v_nin_str ?_
  | with_reducible refine v_len_tup ?_
  | with_reducible refine v_len_rol ?_
  | ((with_reducible refine v_len_str ?l ?_); (case l => walk_at "l"))
  | ((with_reducible refine' v_len_ref ?e ?_); (case e => walk_at "h"))
  | with_reducible refine v_int_int ?_
  | with_reducible refine v_max ?_
  | with_reducible refine v_min ?_
  | with_reducible refine v_tuple_tup ?_
  | ((with_reducible refine' v_tuple_ref ?e ?_); (case e => walk_at "h"))
  | ((with_reducible refine' v_ix_ref ?e ?f ?_); (case e => walk_at "h"); (case f => first | assumption | exact rfl))
  | ((with_reducible refine' v_ix_tup ?f ?_); (case f => first | assumption | exact rfl))
  | ((with_reducible refine' v_set ?e ?f ?_); (case e => walk_at "h"); (case f => first | assumption | exact rfl))
  | ((with_reducible refine v_sl_str ?l ?_); (case l => walk_at "l"))
  | with_reducible refine v_sl_tup ?_
  | with_reducible refine v_seq_tup ?_
  | with_reducible refine v_seq_str ?_
  | with_reducible refine v_seq_rol ?_
  | ((with_reducible refine' v_seq_ref ?e ?_); (case e => walk_at "h"))
  | ((with_reducible refine' ⟨v_ty_ref ?e, ?_⟩); (case e => walk_at "h"))
  | ((with_reducible refine' v_append ?e ?l ?_); (case e => walk_at "h"); (case l => walk_at "l")))
local macro_rules | `(tactic| walk_at "d1") => `(tactic| first | with_reducible refine t_seq ?_ | walk_at "e1")
local macro_rules | `(tactic| walk_at "d") => `(tactic| repeat walk_at "d1")
-- one statement
local macro_rules | `(tactic| walk_at "e") => `(tactic| ((repeat walk_at "e1"); try (with_reducible show sSeq _ _ _ _ _)))
local macro_rules | `(tactic| walk_at "s") => `(tactic| ((with_reducible refine t_seq ?_); walk_at "e"))
-- a drawn thing's small facts
local macro_rules | `(tactic| walk_at "gi") => `(tactic| first
  | exact gi_c trivial
  | exact gi_c ⟨_, rfl, by decide, by decide⟩
  | exact gi_c (show _ ≤ _ by decide)
  | exact gi_c (show _ ≤ _ by decide +kernel)
  | exact gi_v rfl trivial)
local macro_rules | `(tactic| walk_at "ga") => `(tactic| ((repeat (first | exact ga_nil | refine ga_cons2 ?_ ?_)); all_goals (try walk_at "gi")))
abbrev draws (j : Addr) (T : D → Prop) (M : Mh) (P : PQ) : Prop := ∀ d M', MKeep (· = j) M M' → JarOk M' j → T d → P d M'
theorem sz {n : Nat} (h : n ≤ 100000) : n ≤ sizeLine := by rw [sizeLine_eq]; omega
theorem keep_two {M M' : Mh} {j p : Addr} (np : M p = none) (m : MKeep (fun a => a = j ∨ a = p) M M') : MKeep (· = j) M M' := fun a o na h => by
  have hap : a ≠ p := ne_free h np
  exact m a o (fun z => by rcases z with z | z; exact na z; exact hap z) h
theorem jar_put {M : Mh} {j p : Addr} {o : MO} (h : JarOk M j) (n : j ≠ p) : JarOk (mup M p o) j := by
  obtain ⟨a, b, c, q, r⟩ := h
  exact ⟨a, b, c, by rw [mup_ne n]; exact q, r⟩
theorem jar_fresh {M : Mh} {j p : Addr} {o : MO} (h : JarOk M j) (n : M p = none) : JarOk (mup M p o) j := jar_put h (h.ne n)
theorem rget {lo : Int} {n i : Nat} {d : D} (h : (rngI lo n)[i]? = some d) : d = .int (lo + (i : Int)) ∧ i < n := ⟨(DL.rng_get h).2, (DL.rng_get h).1⟩
theorem rlen {lo : Int} {n : Nat} : (rngI lo n).length = n := by simp [rngI]
theorem take_snoc {α : Type} {ms : List α} {i : Nat} {m : α} (e : ms[i]? = some m) : ms.take (i + 1) = ms.take i ++ [m] := by
  rw [List.take_add_one, e]; rfl
theorem str_small {x : Int} (h0 : 0 ≤ x) (h1 : x ≤ 999999) : (x.natAbs.log2 < 1920) ∧ (PySem.Str.ofString (toString x)).length ≤ 10 := by
  constructor
  · have : x.natAbs < 2 ^ 1920 := Nat.lt_of_lt_of_le (show x.natAbs < 2 ^ 20 by omega) (Nat.pow_le_pow_right (by decide) (by decide))
    by_cases z : x.natAbs = 0
    · rw [z]; decide
    · exact (Nat.log2_lt z).mpr this
  · exact PySem.W.KT.len_num h0 (by omega)
/-- small signs alone -/
def SmS (z : Str) : Prop := ∀ c ∈ z.cps.toList, c < 128
theorem lit_app (y z : Str) : (y ++ z).cps.toList = y.cps.toList ++ z.cps.toList := by
  have h := st_app (lit y) (lit z)
  rw [st_lit, st_lit] at h
  rw [h, st_cps]; rfl
theorem SmS.app {y z : Str} (h : SmS y) (k : SmS z) : SmS (y ++ z) := fun c hc => by
  rw [lit_app] at hc
  rcases List.mem_append.mp hc with hc | hc
  · exact h c hc
  · exact k c hc
theorem SmS.cut {z : Str} (h : SmS z) (lo hi : Option Int) : SmS (cutS z lo hi) := fun c hc => by
  rw [← st_lit z, st_cut, st_cps] at hc
  exact h c (List.mem_of_mem_drop (List.mem_of_mem_take hc))
theorem SmS.num {x : Int} (h0 : 0 ≤ x) (h1 : x ≤ 9) : SmS (PySem.Str.ofString (toString x)) := by
  have : x = 0 ∨ x = 1 ∨ x = 2 ∨ x = 3 ∨ x = 4 ∨ x = 5 ∨ x = 6 ∨ x = 7 ∨ x = 8 ∨ x = 9 := by omega
  unfold SmS
  rcases this with rfl | rfl | rfl | rfl | rfl | rfl | rfl | rfl | rfl | rfl <;> decide +kernel
abbrev L26 : Str := "abcdefghijklmnopqrstuvwxyz"
def sp_name : DSp := fun ds M P => ∃ j i, ds = [.ref j, .int i] ∧ JarOk M j ∧ 0 ≤ i ∧ i ≤ 9 ∧ ∀ (z : Str) M', z.length ≤ 40 → SmS z → MKeep (· = j) M M' → JarOk M' j → P (.str z) M'
theorem L26_sm {x : Nat} (h : x ∈ L26.cps.toList) : x < 128 := by
  have a : L26.cps.toList.all (fun c => decide (c < 128)) = true := by decide +kernel
  exact of_decide_eq_true (List.all_eq_true.mp a x h)
theorem SmS.one {x : Nat} (h : x ∈ L26.cps.toList) : SmS (⟨#[x]⟩ : Str) := fun c hc => by
  have : c = x := by simpa using hc
  rw [this]; exact L26_sm h
theorem ok_name (ds : List D) (M : Mh) (P : PQ) (h : sp_name ds M P) : b_name sp_pick { nx := fun _ M' => P .non M', rt := P } (startD 6 ds) M := by
  obtain ⟨j, ix, rfl, hj, h0, h1, k⟩ := h
  have sm : L26.cps.toList.length = 26 := by decide +kernel
  have sm2 : ((("abcdefghijklmnopqrstuvwxyz" : String) : Str)).length = 26 := by decide +kernel
  have sm3 : L26.length = 26 := sm2
  unfold b_name
  walk_at "s"
  walk_at "s"
  refine c_pick hj (by decide) fun c o1 c0 c1 j1 => ?_
  obtain ⟨x, g1, g2, g3⟩ := atI_mem (ds := L26.cps.toList) c0 (by rw [sm]; omega)
  refine v_ix_str (sz (by omega)) g1 ?_
  walk_at "e"
  refine t_seq (t_for (t_rg1 (t_ac ?_)))
  refine (gi_menu (n := 5) (T := IsI 0 6) (h := 4) ?_ ?_ (by decide) (sz (by decide))).run j1 fun d M2 m2 j2 t2 => ?_
  · walk_at "ga"
  · exact gi_pick (m := 5) (h := 5) rfl (gi_c ⟨_, rfl, by decide, by decide⟩) (by decide) (by decide)
  obtain ⟨s, rfl, s0, s1⟩ := t2
  refine t_an ⟨by omega, ?_⟩
  refine for_each (fun i ρ M' => MKeep (· = j) M M' ∧ JarOk M' j ∧ ∃ (w : Str) (w4 : Option D), ρ = [some (.ref j), some (.int ix), some (.str L26), some (.str w), w4, none] ∧ w.length = 1 + i ∧ SmS w) ⟨keepj.trans m2, j2, _, _, rfl, rfl, SmS.one g2⟩ (fun N i d ρ M' hd hI hN => ?_) (fun ρ M' hI => ?_)
  · obtain ⟨m3, j3, w, w4, rfl, hw, hs⟩ := hI
    obtain ⟨rfl, hlt⟩ := rget hd
    refine ⟨trivial, ?_⟩
    walk_at "d"
    refine c_pick j3 (by decide) fun c o4 c0 c1 j4 => ?_
    obtain ⟨y, g1, g2, _⟩ := atI_mem (ds := L26.cps.toList) c0 (by rw [sm]; omega)
    refine v_ix_str (sz (by omega)) g1 ?_
    have ly : (⟨#[y]⟩ : Str).length = 1 := rfl
    refine v_add_str (sz (by omega)) ?_
    walk_at "d"
    exact hN _ _ ⟨m3.trans keepj, j4, _, _, rfl, by rw [str_app_len, hw, ly]; omega, hs.app (SmS.one g2)⟩
  · obtain ⟨m3, j3, w, w4, rfl, hw, hs⟩ := hI
    rw [rlen] at hw
    refine ⟨trivial, ?_⟩
    walk_at "e"
    walk_at "s"
    refine c_pick j3 (by omega) fun c o4 c0 c1 j4 => ?_
    walk_at "e"
    have l1 := str_cut_len w none (some (1 + c))
    have l2 := str_cut_len w (some (1 + c)) none
    obtain ⟨q1, q2⟩ := str_small h0 (show ix ≤ 999999 by omega)
    walk_at "d"
    refine ⟨q1, ?_⟩
    have e1 := str_app_len (cutS w none (some (1 + c))) (PySem.Str.ofString (toString ix))
    refine v_add_str (sz (by omega)) ?_
    walk_at "d"
    refine k _ _ ?_ (((hs.cut _ _).app (SmS.num h0 h1)).app (hs.cut _ _)) (m3.trans keepj) j4
    rw [str_app_len]
    omega
def sp_names : DSp := fun ds M P => ∃ j i, ds = [.ref j, .int i] ∧ JarOk M j ∧ 0 ≤ i ∧ i ≤ 10 ∧ ∀ (p : Addr) (zs : List Str) M', zs.length = i.toNat → (∀ z ∈ zs, z.length ≤ 40) → (∀ z ∈ zs, SmS z) → M' p = some (.lst (zs.map D.str)) → p ≠ j → M p = none → MKeep (· = j) M M' → JarOk M' j → P (.ref p) M'
theorem ok_names (ds : List D) (M : Mh) (P : PQ) (h : sp_names ds M P) : b_names sp_name { nx := fun _ M' => P .non M', rt := P } (startD 3 ds) M := by
  obtain ⟨j, n, rfl, hj, h0, h1, k⟩ := h
  unfold b_names
  walk_at "d"
  refine ⟨by omega, fun p np => ?_⟩
  have jp := hj.ne np
  refine lc_each (fun i acc M' => MKeep (fun a => a = j ∨ a = p) M M' ∧ JarOk M' j ∧ ∃ zs : List Str, acc = zs.map D.str ∧ (∀ z ∈ zs, z.length ≤ 40) ∧ ∀ z ∈ zs, SmS z) (by rw [rlen, sizeLine_eq]; omega) mup_same ⟨.put (.inr rfl), jar_fresh hj np, [], rfl, by simp, by simp⟩ (fun R i d acc M' hd hi hI hp hR => ?_) (fun acc M' ha hI hp => ?_)
  · obtain ⟨m1, j1, zs, rfl, hz, hs⟩ := hI
    obtain ⟨rfl, hlt⟩ := rget hd
    refine ⟨trivial, _, rfl, ?_⟩
    walk_at "e"
    refine ⟨rfl, j, _, rfl, j1, by omega, by omega, fun z M2 lz sz m2 j2 => ?_⟩
    refine hR _ _ (m2 _ _ jp.symm hp) ⟨(m1.trans (m2.mono fun _ z => .inl z)).trans (.put (.inr rfl)), jar_put j2 jp, zs ++ [z], by rw [List.map_append]; rfl, fun y hy => ?_, fun y hy => ?_⟩
    · rcases List.mem_append.mp hy with hy | hy
      · exact hz y hy
      · rw [List.mem_singleton.mp hy]; exact lz
    · rcases List.mem_append.mp hy with hy | hy
      · exact hs y hy
      · rw [List.mem_singleton.mp hy]; exact sz
  · obtain ⟨m1, j1, zs, rfl, hz, hs⟩ := hI
    rw [List.length_map, rlen] at ha
    exact ⟨trivial, k p zs M' ha hz hs hp jp.symm np (keep_two np m1) j1⟩
def Span (d : D) : Prop := ∃ a b, d = .tup [.int a, .int b] ∧ 0 ≤ a ∧ a ≤ b ∧ b ≤ 999999
def sp_span : DSp := fun ds M P => ∃ j, ds = [.ref j] ∧ JarOk M j ∧ draws j Span M P
theorem ok_span (ds : List D) (M : Mh) (P : PQ) (h : sp_span ds M P) : b_span sp_pick { nx := fun _ M' => P .non M', rt := P } (startD 4 ds) M := by
  obtain ⟨j, rfl, hj, k⟩ := h
  unfold b_span
  walk_at "s"
  refine c_pick hj (by decide) fun way o1 c0 c1 j1 => ?_
  walk_at "e"
  walk_at "s"
  refine t_ite (fun e => ?_) (fun e => ?_)
  · walk_at "d"
    refine ⟨sz (show 2 ≤ 100000 by decide), ?_⟩
    exact k _ _ keepj j1 ⟨_, _, rfl, by omega, by omega, by omega⟩
  walk_at "e"
  walk_at "s"
  refine t_ite (fun e => ?_) (fun e => ?_)
  · walk_at "d"
    refine c_pick j1 (by decide) fun v o2 c0 c1 j2 => ?_
    walk_at "d"
    refine ⟨sz (show 2 ≤ 100000 by decide), ?_⟩
    exact k _ _ (keepj.trans keepj) j2 ⟨_, _, rfl, by omega, by omega, by omega⟩
  walk_at "e"
  walk_at "s"
  refine t_ite (fun e => ?_) (fun e => ?_)
  · walk_at "d"
    refine c_pick j1 (by decide) fun v o2 c0 c1 j2 => ?_
    walk_at "d"
    refine c_pick j2 (by decide) fun v o3 c0 c1 j3 => ?_
    walk_at "d"
    refine ⟨sz (show 2 ≤ 100000 by decide), ?_⟩
    exact k _ _ (keepj.trans (keepj.trans keepj)) j3 ⟨_, _, rfl, by omega, by omega, by omega⟩
  walk_at "d"
  refine c_pick j1 (by decide) fun v o2 c0 c1 j2 => ?_
  walk_at "d"
  refine c_pick j2 (by decide) fun v o3 c0 c1 j3 => ?_
  walk_at "d"
  refine ⟨sz (show 2 ≤ 100000 by decide), ?_⟩
  exact k _ _ (keepj.trans (keepj.trans keepj)) j3 ⟨_, _, rfl, by omega, by omega, by omega⟩

/-! ### moves -/
structure Mo where
  z : Str
  l : Int
  h : Int
  g : Int
structure Mo.sp (m : Mo) : Prop where
  l0 : 0 ≤ m.l
  lh : m.l ≤ m.h
  h1 : m.h ≤ 999999
def Mo.r (m : Mo) : List D := [.str m.z, .int m.l, .int m.h, .int m.g]
def Mo.d (m : Mo) : D := .tup [.str m.z, .int m.l, .int m.h, .int m.g]
def sp_moves : DSp := fun ds M P => ∃ (j lb gl : Addr) (zs : List Str) (gs : List Int) (count : Nat), ds = [.ref j, .ref lb, .int count, .ref gl] ∧ M lb = some (.lst (zs.map D.str)) ∧ M gl = some (.lst (gs.map D.int)) ∧ lb ≠ j ∧ gl ≠ j ∧ 0 < zs.length ∧ zs.length ≤ 1000 ∧ 0 < gs.length ∧ gs.length ≤ 1000 ∧ count ≤ 100 ∧ JarOk M j ∧
  ∀ (p : Addr) (ms : List Mo) M', ms.length = count → (∀ m ∈ ms, m.z ∈ zs ∧ m.g ∈ gs ∧ m.sp) → M' p = some (.lst (ms.map Mo.d)) → p ≠ j → M p = none → MKeep (· = j) M M' → JarOk M' j → P (.ref p) M'
theorem ok_moves (ds : List D) (M : Mh) (P : PQ) (h : sp_moves ds M P) : b_moves sp_pick sp_span { nx := fun _ M' => P .non M', rt := P } (startD 13 ds) M := by
  obtain ⟨j, lb, gl, zs, gs, count, rfl, hlb, hgl, lbj, glj, z0, z1, g0, g1, hc, hj, k⟩ := h
  unfold b_moves
  walk_at "s"
  refine ⟨by walk_at "l", fun p np => ?_⟩
  have jp := hj.ne np
  walk_at "e"
  walk_at "s"
  refine ⟨by walk_at "l", fun u nu => ?_⟩
  have pu : p ≠ u := ne_free mup_same nu
  have ju : j ≠ u := (jar_fresh hj np).ne nu
  have nu0 : M u = none := by rw [mup_ne pu.symm] at nu; exact nu
  have lbp : lb ≠ p := ne_free hlb np
  have lbu : lb ≠ u := ne_free hlb nu0
  have glp : gl ≠ p := ne_free hgl np
  have glu : gl ≠ u := ne_free hgl nu0
  walk_at "e"
  walk_at "s"
  refine ⟨by omega, ?_⟩
  refine for_each (fun i ρ M' => MKeep (fun a => a = j ∨ a = p ∨ a = u) M M' ∧ JarOk M' j ∧ ∃ (ms : List Mo) (us : List Str) (w6 w7 w8 w9 w10 w11 w12 : Option D), ρ = [some (.ref j), some (.ref lb), some (.int count), some (.ref gl), some (.ref p), some (.ref u), w6, w7, w8, w9, w10, w11, w12] ∧ M' p = some (.lst (ms.map Mo.d)) ∧ M' u = some (.lst (us.map D.str)) ∧ ms.length = i ∧ us.length = i ∧ ∀ m ∈ ms, m.z ∈ zs ∧ m.g ∈ gs ∧ m.sp)
    ⟨MKeep.trans (.put (.inr (.inl rfl))) (.put (.inr (.inr rfl))), jar_fresh (jar_fresh hj np) nu, [], [], _, _, _, _, _, _, _, rfl, by rw [mup_ne pu]; exact mup_same, mup_same, rfl, rfl, by simp⟩ (fun N i d ρ M1 hd hI hN => ?_) (fun ρ M1 hI => ?_)
  · obtain ⟨m1, j1, ms, us, w6, w7, w8, w9, w10, w11, w12, rfl, hp, hu, lm, lu, hm⟩ := hI
    obtain ⟨rfl, hlt⟩ := rget hd
    have hlb1 := m1 _ _ (fun z => by rcases z with z | z | z; exact lbj z; exact lbp z; exact lbu z) hlb
    have hgl1 := m1 _ _ (fun z => by rcases z with z | z | z; exact glj z; exact glp z; exact glu z) hgl
    refine ⟨trivial, ?_⟩
    have c0 : (0 : Int) ≤ (0 + (i : Int)) % ((zs.map D.str).length : Int) := Int.emod_nonneg _ (by rw [List.length_map]; omega)
    have c1 : (0 + (i : Int)) % ((zs.map D.str).length : Int) < zs.length := by
      rw [List.length_map]
      exact Int.emod_lt_of_pos _ (by omega)
    obtain ⟨z, hz, ez⟩ := atI_map (zs := zs) (f := D.str) c0 c1
    have hzl : (0 : Int) < ((zs.map D.str).length : Int) := by rw [List.length_map]; omega
    walk_at "e"
    walk_at "s"
    refine t_seq ?_
    walk_at "e"
    intro q nq
    have pq : p ≠ q := ne_free hp nq
    have uq : u ≠ q := ne_free hu nq
    refine lc_eachT (fun i acc M' => MKeep (· = q) M1 M') (by rw [List.length_map, lu, sizeLine_eq]; omega) mup_same (.put rfl) (fun R S c y acc M2 hd ha hI hq hR hS => ?_) (fun acc M2 ha hI hq => ?_)
    · rw [List.getElem?_map] at hd
      obtain ⟨o, ho, rfl⟩ := Option.map_eq_some_iff.mp hd
      refine ⟨hI _ _ uq hu, _, rfl, ?_⟩
      walk_at "e"
      refine t_ite (fun e1 => ?_) (fun e1 => ?_)
      · walk_at "e"
        exact hR _ _ hq (hI.trans (.put rfl))
      · exact hS _ hq hI
    have x2 : MExt M1 M2 := fun a o _ h => hI a o (ne_free h nq) h
    have hp2 := x2 _ _ (fun z => z) hp
    have hu2 := x2 _ _ (fun z => z) hu
    have hlb2 := x2 _ _ (fun z => z) hlb1
    have hgl2 := x2 _ _ (fun z => z) hgl1
    have j2 := j1.keep x2 (fun z => z)
    have m2 := m1.trans (x2.mono fun _ z => z.elim)
    have lu2 : (us.map D.str).length ≤ 100 := by rw [List.length_map]; omega
    have lm2 : (ms.map Mo.d).length ≤ 100 := by rw [List.length_map]; omega
    have hacc : acc.length ≤ 100 := by rw [List.length_map] at ha; omega
    clear x2 hI hp hu hlb1 hgl1 j1 m1
    refine ⟨hu2, ?_⟩
    walk_at "e"
    walk_at "s"
    have hp3 : (mup M2 u (.lst (us.map D.str ++ [.str z]))) p = some (.lst (ms.map Mo.d)) := by rw [mup_ne pu]; exact hp2
    have hu3 : (mup M2 u (.lst (us.map D.str ++ [.str z]))) u = some (.lst ((us ++ [z]).map D.str)) := by rw [mup_same, List.map_append]; rfl
    have hlb3 : (mup M2 u (.lst (us.map D.str ++ [.str z]))) lb = some (.lst (zs.map D.str)) := by rw [mup_ne lbu]; exact hlb2
    have hgl3 : (mup M2 u (.lst (us.map D.str ++ [.str z]))) gl = some (.lst (gs.map D.int)) := by rw [mup_ne glu]; exact hgl2
    have j3 : JarOk (mup M2 u (.lst (us.map D.str ++ [.str z]))) j := jar_put j2 ju
    have m3 : MKeep (fun a => a = j ∨ a = p ∨ a = u) M (mup M2 u (.lst (us.map D.str ++ [.str z]))) := m2.trans (.put (.inr (.inr rfl)))
    generalize mup M2 u (.lst (us.map D.str ++ [.str z])) = M3 at hp3 hu3 hlb3 hgl3 j3 m3
    walk_at "s"
    refine ⟨rfl, j, rfl, j3, fun d M4 m4 j4 hsp => ?_⟩
    obtain ⟨a, b, rfl, sa, sb, sc⟩ := hsp
    have am0 : 0 ≤ a % 1000 := Int.emod_nonneg _ (by decide)
    have am1 : a % 1000 < 1000 := Int.emod_lt_of_pos _ (by decide)
    have am2 : a % 1000 ≤ a := by omega
    have hp4 := m4 _ _ jp.symm hp3
    have hu4 := m4 _ _ ju.symm hu3
    have hlb4 := m4 _ _ lbj hlb3
    have hgl4 := m4 _ _ glj hgl3
    have m4 := m3.trans (m4.mono fun _ z => .inl z)
    walk_at "e"
    walk_at "s"
    walk_at "s"
    refine t_cut (fun ρ M' => M' = M4 ∧ ∃ hi : Int, ((acc.length : Int) * 1000 + a % 1000 ≤ hi ∧ hi ≤ 999999) ∧ ρ = [some (.ref j), some (.ref lb), some (.int count), some (.ref gl), some (.ref p), some (.ref u), some (.int (0 + (i : Int))), some (.str z), some (.int acc.length), w9, some (.tup [.int a, .int b]), some (.int ((acc.length : Int) * 1000 + a % 1000)), some (.int hi)]) (fun N2 hN2 => ?_) ?_
    · walk_at "e"
      refine t_ite (fun e => ?_) (fun e => ?_)
      · have e := of_decide_eq_true e
        walk_at "d"
        exact hN2 _ _ ⟨rfl, _, ⟨by omega, by omega⟩, rfl⟩
      · walk_at "d"
        exact hN2 _ _ ⟨rfl, _, ⟨by omega, by omega⟩, rfl⟩
    rintro ρ M5 ⟨rfl, hi, hhi, rfl⟩
    refine t_cut (fun ρ M' => M' = M5 ∧ ∃ hi : Int, ((acc.length : Int) * 1000 + a % 1000 ≤ hi ∧ hi ≤ 999999) ∧ ρ = [some (.ref j), some (.ref lb), some (.int count), some (.ref gl), some (.ref p), some (.ref u), some (.int (0 + (i : Int))), some (.str z), some (.int acc.length), w9, some (.tup [.int a, .int b]), some (.int ((acc.length : Int) * 1000 + a % 1000)), some (.int hi)]) (fun N2 hN2 => ?_) ?_
    · have out := hN2 _ _ ⟨rfl, hi, hhi, rfl⟩
      walk_at "e"
      refine t_ite (fun e0 => ?_) (fun e => ?_)
      · have e0 : (acc.length : Int) = 0 := beq_iff_eq.mp e0
        walk_at "e"
        refine t_ite (fun e => ?_) (fun e => ?_)
        · walk_at "e"
          refine t_ite (fun e => ?_) (fun e => ?_)
          · walk_at "d"
            exact hN2 _ _ ⟨rfl, _, ⟨by omega, by omega⟩, rfl⟩
          · walk_at "d"
            exact out
        · refine t_if0 rfl ?_
          walk_at "d"
          exact out
      · refine t_if0 rfl ?_
        walk_at "d"
        exact out
    clear hi hhi
    rintro ρ M6 ⟨rfl, hi, hhi, rfl⟩
    walk_at "d"
    refine c_pick j4 (by rw [List.length_map]; omega) fun c o c0 c1 j7 => ?_
    rw [List.length_map] at c1
    obtain ⟨g, hg, eg⟩ := atI_map (zs := gs) (f := D.int) c0 c1
    have hp7 : (mup M6 j o) p = some (.lst (ms.map Mo.d)) := by rw [mup_ne jp.symm]; exact hp4
    have hu7 : (mup M6 j o) u = some (.lst ((us ++ [z]).map D.str)) := by rw [mup_ne ju.symm]; exact hu4
    have hgl7 : (mup M6 j o) gl = some (.lst (gs.map D.int)) := by rw [mup_ne glj]; exact hgl4
    refine v_ix_ref hgl7 eg ?_
    walk_at "d"
    refine ⟨sz (show 4 ≤ 100000 by decide), ?_⟩
    walk_at "d"
    refine hN _ _ ⟨(m4.trans (.put (.inl rfl))).trans (.put (.inr (.inl rfl))), jar_put j7 jp, ms ++ [⟨z, _, hi, g⟩], us ++ [z], _, _, _, _, _, _, _, rfl, by rw [mup_same, List.map_append]; rfl, by rw [mup_ne pu.symm]; exact hu7, by rw [List.length_append, lm]; rfl, by rw [List.length_append, lu]; rfl, fun m hm' => ?_⟩
    rcases List.mem_append.mp hm' with h | h
    · exact hm m h
    · rw [List.mem_singleton.mp h]; exact ⟨hz, hg, ⟨by show 0 ≤ (acc.length : Int) * 1000 + a % 1000; omega, hhi.1, hhi.2⟩⟩
  · obtain ⟨m1, j1, ms, us, w6, w7, w8, w9, w10, w11, w12, rfl, hp, hu, lm, lu, hm⟩ := hI
    rw [rlen] at lm
    refine ⟨trivial, ?_⟩
    walk_at "e"
    refine t_seq (t_ret (t_call (t_ac (t_var rfl (t_an (v_sorted hp (.inr (.inr ⟨.str, [.int, .int, .int], fun d hd => ?_⟩)) fun ys q hys _ nq => ?_))))))
    · obtain ⟨m, _, rfl⟩ := List.mem_map.mp hd
      exact ⟨_, rfl, .cons ⟨_, rfl⟩ (.cons ⟨_, rfl⟩ (.cons ⟨_, rfl⟩ (.cons ⟨_, rfl⟩ .nil)))⟩
    obtain ⟨ms', p1, rfl⟩ := perm_map_inv hys ms rfl
    have jq := j1.ne nq
    have x1 : MKeep (· = j) M M1 := fun a o na h => m1 a o (fun z => by
      rcases z with z | z | z
      · exact na z
      · exact ne_free h np z
      · exact ne_free h nu0 z) h
    refine k q ms' _ (by rw [p1.length_eq]; omega) (fun m h => hm m (p1.mem_iff.mp h)) mup_same jq.symm (x1.none nq jq.symm) (x1.trans (.fresh nq)) (jar_fresh j1 nq)

/-! ### machines -/
structure Sd where
  kind : Str
  who : Str
  ms : List Mo
def stD : Option Sd → D
  | none => .tup [.str "end"]
  | some s => .tup [.str s.kind, .str s.who, .tup (s.ms.map Mo.d)]
structure Sd.ok (ps zs : List Str) (many : Int) (s : Sd) : Prop where
  kind : s.kind = "say" ∨ s.kind = "hear"
  who : s.who ∈ ps
  ne : s.ms ≠ []
  len : s.ms.length ≤ 3
  ms : ∀ m ∈ s.ms, m.z ∈ zs ∧ (0 ≤ m.g ∧ m.g < many) ∧ m.sp
def MachOk (ps zs : List Str) (many : Int) (sts : List (Option Sd)) : Prop := ∀ o ∈ sts, ∀ s, o = some s → s.ok ps zs many
def sp_machine : DSp := fun ds M P => ∃ (j pa lb : Addr) (ps zs : List Str) (many : Nat), ds = [.ref j, .ref pa, .ref lb, .int many] ∧ M pa = some (.lst (ps.map D.str)) ∧ M lb = some (.lst (zs.map D.str)) ∧ pa ≠ j ∧ lb ≠ j ∧ 0 < ps.length ∧ ps.length ≤ 1000 ∧ 0 < zs.length ∧ zs.length ≤ 1000 ∧ 1 ≤ many ∧ many ≤ 1000 ∧ JarOk M j ∧
  ∀ (sts : List (Option Sd)) M', sts.length = many → MachOk ps zs many sts → MKeep (· = j) M M' → JarOk M' j → P (.tup (sts.map stD)) M'
theorem ok_machine (ds : List D) (M : Mh) (P : PQ) (h : sp_machine ds M P) : b_machine sp_pick sp_moves { nx := fun _ M' => P .non M', rt := P } (startD 11 ds) M := by
  obtain ⟨j, pa, lb, ps, zs, many, rfl, hpa, hlb, paj, lbj, p0, p1, z0, z1, n0, n1, hj, k⟩ := h
  unfold b_machine
  walk_at "s"
  refine ⟨by walk_at "l", fun p np => ?_⟩
  have jp := hj.ne np
  have pap := ne_free hpa np
  have lbp := ne_free hlb np
  walk_at "e"
  walk_at "s"
  refine ⟨by omega, ?_⟩
  refine for_each (fun i ρ M' => MKeep (fun a => a = j ∨ a = p) M M' ∧ JarOk M' j ∧ ∃ (sts : List (Option Sd)) (w5 w6 w7 w8 w9 w10 : Option D), ρ = [some (.ref j), some (.ref pa), some (.ref lb), some (.int many), some (.ref p), w5, w6, w7, w8, w9, w10] ∧ M' p = some (.lst (sts.map stD)) ∧ sts.length = i ∧ MachOk ps zs many sts)
    ⟨.put (.inr rfl), jar_fresh hj np, [], _, _, _, _, _, _, rfl, mup_same, rfl, fun o ho => by simp at ho⟩ (fun N i d ρ M1 hd hI hN => ?_) (fun ρ M1 hI => ?_)
  · obtain ⟨m1, j1, sts, w5, w6, w7, w8, w9, w10, rfl, hp, lm, hm⟩ := hI
    obtain ⟨rfl, hlt⟩ := rget hd
    have hpa1 := m1 _ _ (fun z => by rcases z with z | z; exact paj z; exact pap z) hpa
    have hlb1 := m1 _ _ (fun z => by rcases z with z | z; exact lbj z; exact lbp z) hlb
    refine ⟨trivial, ?_⟩
    walk_at "e"
    refine t_seq (t_asg ?_)
    refine (gi_menu (n := 2) (T := fun d => ∃ z : Str, d = .str z ∧ (z = "say" ∨ z = "hear")) (h := 1) ?_ ?_ (by decide) (sz (by decide))).run j1 fun d M2 m2 j2 t2 => ?_
    · walk_at "ga"
      · exact gi_c ⟨_, rfl, .inr rfl⟩
      · exact gi_c ⟨_, rfl, .inl rfl⟩
    · exact gi_pick (m := 2) (h := 2) rfl (gi_c ⟨_, rfl, by decide, by decide⟩) (by decide) (by decide)
    obtain ⟨kind, rfl, hk⟩ := t2
    walk_at "e"
    refine t_seq (t_asg ?_)
    refine (gi_add (l1 := 1) (h1 := 1) (l2 := 0) (h2 := 2) (gi_c ⟨_, rfl, by decide, by decide⟩) (gi_menu (n := 5) (T := IsI 0 2) (h := 4) (by walk_at "ga") (gi_pick (m := 5) (h := 5) rfl (gi_c ⟨_, rfl, by decide, by decide⟩) (by decide) (by decide)) (by decide) (sz (by decide)))).run j2 fun d M3 m3 j3 t3 => ?_
    obtain ⟨cnt, rfl, c0, c1⟩ := t3
    obtain ⟨count, rfl⟩ := Int.eq_ofNat_of_zero_le (show 0 ≤ cnt by omega)
    have m3 : MKeep (fun a => a = j ∨ a = p) M1 M3 := (m2.trans m3).mono fun _ z => .inl z
    walk_at "e"
    walk_at "s"
    refine c_pick j3 (by omega) fun g1 o1 a0 a1 j4 => ?_
    walk_at "e"
    refine c_pick j4 (by omega) fun g2 o2 b0 b1 j5 => ?_
    walk_at "e"
    refine ⟨sz (show 3 ≤ 100000 by decide), fun gl ngl => ?_⟩
    have m5 : MKeep (fun a => a = j ∨ a = p) M1 (mup (mup (mup M3 j o1) j o2) gl (.lst [.int (0 + (i : Int) + 1), .int g1, .int g2])) := ((m3.trans (.put (.inl rfl))).trans (.put (.inl rfl))).trans (.fresh ngl)
    have glj := (j5.ne ngl).symm
    have j6 : JarOk (mup (mup (mup M3 j o1) j o2) gl (.lst [.int (0 + (i : Int) + 1), .int g1, .int g2])) j := jar_fresh j5 ngl
    have hgl : (mup (mup (mup M3 j o1) j o2) gl (.lst [.int (0 + (i : Int) + 1), .int g1, .int g2])) gl = some (.lst ([0 + (i : Int) + 1, g1, g2].map D.int)) := mup_same
    have hp6 : (mup (mup (mup M3 j o1) j o2) gl (.lst [.int (0 + (i : Int) + 1), .int g1, .int g2])) p = some (.lst (sts.map stD)) := by
      have h3 : M3 p = some (.lst (sts.map stD)) := (m2.trans (by assumption : MKeep (· = j) M2 M3)) _ _ jp.symm hp
      have h4 : (mup (mup M3 j o1) j o2) p = some (.lst (sts.map stD)) := by rw [mup_ne jp.symm, mup_ne jp.symm]; exact h3
      rw [mup_ne (ne_free h4 ngl)]; exact h4
    generalize mup (mup (mup M3 j o1) j o2) gl (.lst [.int (0 + (i : Int) + 1), .int g1, .int g2]) = M6 at m5 j6 hgl hp6
    have hpa6 := m5 _ _ (fun z => by rcases z with z | z; exact paj z; exact pap z) hpa1
    have hlb6 := m5 _ _ (fun z => by rcases z with z | z; exact lbj z; exact lbp z) hlb1
    have gs : ∀ g ∈ [0 + (i : Int) + 1, g1, g2], 0 ≤ g ∧ g < many := fun g hg => by
      simp only [List.mem_cons, List.not_mem_nil, or_false] at hg
      rcases hg with rfl | rfl | rfl <;> omega
    walk_at "e"
    refine t_seq ?_
    walk_at "e"
    refine ⟨rfl, j, lb, gl, zs, _, count, rfl, hlb6, hgl, lbj, glj, z0, z1, by simp, Nat.le_of_ble_eq_true rfl, by omega, j6, fun q ms M7 lq hq hq7 qj nq m7 j7 => ?_⟩
    have hp7 := m7 _ _ jp.symm hp6
    have hpa7 := m7 _ _ paj hpa6
    have qp : q ≠ p := (ne_free hp6 nq).symm
    refine v_seq_ref hq7 fun u nu => ?_
    have pu : p ≠ u := ne_free hp7 nu
    have ju : j ≠ u := j7.ne nu
    have qu : q ≠ u := ne_free hq7 nu
    -- the moves as lists
    let R7 : Mh → D → Prop := fun M' d => ∃ (r : Addr) (m : Mo), d = .ref r ∧ M' r = some (.lst m.r) ∧ r ≠ u ∧ M7 r = none ∧ m.z ∈ zs ∧ (0 ≤ m.g ∧ m.g < many) ∧ m.sp
    refine lc_each (fun c acc M' => MKeep (· = u) M7 M' ∧ acc.length = c ∧ ∀ d ∈ acc, R7 M' d) (by rw [List.length_map, sizeLine_eq]; omega) mup_same ⟨.put rfl, rfl, by simp⟩ (fun R c d acc M8 hd _ hI hu hR => ?_) (fun acc M8 la hI hu => ?_)
    · obtain ⟨m8, la, hacc⟩ := hI
      rw [List.getElem?_map] at hd
      obtain ⟨m, hm', rfl⟩ := Option.map_eq_some_iff.mp hd
      obtain ⟨e1, e2, e3⟩ := hq m (List.mem_of_getElem? hm')
      refine ⟨m8 _ _ qu hq7, _, rfl, ?_⟩
      rw [show Mo.d m = .tup m.r from rfl]
      walk_at "e"
      refine v_list_tup fun r nr => ?_
      have ur := ne_free hu nr
      have nr7 : M7 r = none := m8.none nr ur.symm
      refine hR _ _ (by rw [mup_ne ur]; exact hu) ⟨(m8.trans (.fresh nr)).trans (.put rfl), by rw [List.length_append, la]; rfl, fun x hx => ?_⟩
      rcases List.mem_append.mp hx with hx | hx
      · obtain ⟨r', m', rfl, h1, h2, h3, h4⟩ := hacc x hx
        exact ⟨r', m', rfl, by rw [mup_ne h2, mup_ne (ne_free h1 nr)]; exact h1, h2, h3, h4⟩
      · rw [List.mem_singleton.mp hx]
        exact ⟨r, m, rfl, by rw [mup_ne ur.symm]; exact mup_same, ur.symm, nr7, e1, gs _ e2, e3⟩
    obtain ⟨m8, _, hacc⟩ := hI
    rw [List.length_map, lq] at la
    refine ⟨m8 _ _ qu hq7, ?_⟩
    have hp8 := m8 _ _ pu hp7
    have hpa8 := m8 _ _ (ne_free hpa7 nu) hpa7
    have j8 := j7.keep m8 ju
    have mx : MKeep (fun a => a = j ∨ a = p) M M8 := m1.trans (m5.trans ((m7.mono fun _ z => .inl z).trans (MKeep.trans (M1 := M8) (fun a o na h => m8 a o (ne_free h nu) h) .refl)))
    walk_at "e"
    -- one of them goes on
    walk_at "s"
    refine c_pick j8 (by omega) fun c o c2 c3 j9 => ?_
    have hu9 : (mup M8 j o) u = some (.lst acc) := by rw [mup_ne ju.symm]; exact hu
    obtain ⟨d, ed, hd, _⟩ := atI_mem (ds := acc) c2 c3
    obtain ⟨r, m, rfl, h1, h2, h3, h4⟩ := hacc d hd
    have rj : r ≠ j := by
      rintro rfl
      obtain ⟨a, b, c, e, _⟩ := j7
      rw [h3] at e; cases e
    have rp : r ≠ p := by
      rintro rfl
      rw [h3] at hp7; cases hp7
    have rpa : r ≠ pa := by
      rintro rfl
      rw [h3] at hpa7; cases hpa7
    have hr9 : (mup M8 j o) r = some (.lst m.r) := by rw [mup_ne rj]; exact h1
    have es : ixN m.r.length 3 = some 3 := rfl
    refine v_ix_ref hu9 ed ?_
    walk_at "e"
    have all : ∀ d ∈ acc, ∃ (r' : Addr) (m' : Mo), d = .ref r' ∧ (mup (mup M8 j o) r (.lst (m.r.set 3 (.int (0 + (i : Int) + 1))))) r' = some (.lst m'.r) ∧ m'.z ∈ zs ∧ (0 ≤ m'.g ∧ m'.g < many) ∧ m'.sp := fun d hd => by
      obtain ⟨r', m', rfl, k1, k2, k3, k4⟩ := hacc d hd
      by_cases e : r' = r
      · subst e
        exact ⟨r', ⟨m.z, m.l, m.h, 0 + (i : Int) + 1⟩, rfl, mup_same, h4.1, ⟨by show 0 ≤ 0 + (i : Int) + 1; omega, by show 0 + (i : Int) + 1 < many; omega⟩, h4.2.2.l0, h4.2.2.lh, h4.2.2.h1⟩
      · have r'j : r' ≠ j := by
          rintro rfl
          obtain ⟨a, b, c, e, _⟩ := j7
          rw [k3] at e; cases e
        exact ⟨r', m', rfl, by rw [mup_ne e, mup_ne r'j]; exact k1, k4⟩
    have j10 : JarOk (mup (mup M8 j o) r (.lst (m.r.set 3 (.int (0 + (i : Int) + 1))))) j := jar_put j9 rj.symm
    have hp10 : (mup (mup M8 j o) r (.lst (m.r.set 3 (.int (0 + (i : Int) + 1))))) p = some (.lst (sts.map stD)) := by rw [mup_ne rp.symm, mup_ne jp.symm]; exact hp8
    have hpa10 : (mup (mup M8 j o) r (.lst (m.r.set 3 (.int (0 + (i : Int) + 1))))) pa = some (.lst (ps.map D.str)) := by rw [mup_ne rpa.symm, mup_ne paj]; exact hpa8
    have hu10 : (mup (mup M8 j o) r (.lst (m.r.set 3 (.int (0 + (i : Int) + 1))))) u = some (.lst acc) := by rw [mup_ne h2.symm]; exact hu9
    have rM : M r = none := by
      cases e : M r with
      | none => rfl
      | some o' => rw [m7 _ _ rj (m5 _ _ (fun z => by rcases z with z | z; exact rj z; exact rp z) (m1 _ _ (fun z => by rcases z with z | z; exact rj z; exact rp z) e))] at h3; cases h3
    have mx10 : MKeep (fun a => a = j ∨ a = p) M (mup (mup M8 j o) r (.lst (m.r.set 3 (.int (0 + (i : Int) + 1))))) := (mx.trans (.put (.inl rfl))).over rM
    generalize mup (mup M8 j o) r (.lst (m.r.set 3 (.int (0 + (i : Int) + 1)))) = M10 at all j10 hp10 hpa10 hu10 mx10
    walk_at "e"
    -- the standing
    walk_at "s"
    refine c_pick j10 (by rw [List.length_map]; omega) fun c o c2 c3 j11 => ?_
    rw [List.length_map] at c3
    obtain ⟨who, hwho, ewho⟩ := atI_map (zs := ps) (f := D.str) c2 c3
    have hp11 : (mup M10 j o) p = some (.lst (sts.map stD)) := by rw [mup_ne jp.symm]; exact hp10
    have hpa11 : (mup M10 j o) pa = some (.lst (ps.map D.str)) := by rw [mup_ne paj]; exact hpa10
    have hu11 : (mup M10 j o) u = some (.lst acc) := by rw [mup_ne ju.symm]; exact hu10
    have mx11 : MKeep (fun a => a = j ∨ a = p) M (mup M10 j o) := mx10.trans (.put (.inl rfl))
    have all11 : ∀ d ∈ acc, ∃ (r' : Addr) (m' : Mo), d = .ref r' ∧ (mup M10 j o) r' = some (.lst m'.r) ∧ m'.z ∈ zs ∧ (0 ≤ m'.g ∧ m'.g < many) ∧ m'.sp := fun d hd => by
      obtain ⟨r', m', rfl, k1, k2⟩ := all d hd
      refine ⟨r', m', rfl, ?_, k2⟩
      rw [mup_ne (by
        rintro rfl
        obtain ⟨a, b, c, e, _⟩ := j10
        rw [e] at k1
        cases k1)]
      exact k1
    generalize mup M10 j o = M11 at hp11 hpa11 hu11 mx11 all11 j11
    refine v_ix_ref hpa11 ewho ?_
    walk_at "e"
    intro v nv
    have pv := ne_free hp11 nv
    have uv := ne_free hu11 nv
    refine lc_each (fun c acc' M' => MKeep (· = v) M11 M' ∧ ∃ ms' : List Mo, acc' = ms'.map Mo.d ∧ ms'.length = c ∧ ∀ m ∈ ms', m.z ∈ zs ∧ (0 ≤ m.g ∧ m.g < many) ∧ m.sp) (by rw [la, sizeLine_eq]; omega) mup_same ⟨.put rfl, [], rfl, rfl, by simp⟩ (fun R c d acc' M12 hd _ hI hv hR => ?_) (fun acc' M12 lv hI hv => ?_)
    · obtain ⟨m12, ms', rfl, l', hms'⟩ := hI
      obtain ⟨r', m', rfl, k1, k2⟩ := all11 d (List.mem_of_getElem? hd)
      refine ⟨m12 _ _ uv hu11, _, rfl, ?_⟩
      walk_at "e"
      refine v_tuple_ref (m12 _ _ (ne_free k1 nv) k1) ?_
      refine hR _ _ hv ⟨m12.trans (.put rfl), ms' ++ [m'], by rw [List.map_append]; rfl, by rw [List.length_append, l']; rfl, fun x hx => ?_⟩
      rcases List.mem_append.mp hx with hx | hx
      · exact hms' x hx
      · rw [List.mem_singleton.mp hx]; exact k2
    obtain ⟨m12, ms', rfl, l', hms'⟩ := hI
    refine ⟨m12 _ _ uv hu11, ?_⟩
    have x12 : MExt M11 M12 := fun a o _ h => m12 a o (ne_free h nv) h
    have hp12 := x12 _ _ (fun z => z) hp11
    have lsts : (sts.map stD).length ≤ 1000 := by rw [List.length_map]; omega
    walk_at "e"
    refine ⟨sz (show 3 ≤ 100000 by decide), ?_⟩
    walk_at "e"
    refine hN _ _ ⟨(mx11.trans (x12.mono fun _ z => z.elim)).trans (.put (.inr rfl)), jar_put (j11.keep x12 (fun z => z)) jp, sts ++ [some ⟨kind, who, ms'⟩], _, _, _, _, _, _, rfl, by rw [mup_same, List.map_append]; rfl, by rw [List.length_append, lm]; rfl, fun o ho s hs => ?_⟩
    rcases List.mem_append.mp ho with ho | ho
    · exact hm o ho s hs
    · rw [List.mem_singleton.mp ho] at hs
      cases hs
      exact ⟨hk, hwho, fun e => by
        have e : ms' = [] := e
        rw [e] at l'
        simp at l'
        omega, by show ms'.length ≤ 3; omega, hms'⟩
  · obtain ⟨m1, j1, sts, w5, w6, w7, w8, w9, w10, rfl, hp, lm, hm⟩ := hI
    rw [rlen] at lm
    have lsts : (sts.map stD).length ≤ 1000 := by rw [List.length_map]; omega
    refine ⟨trivial, ?_⟩
    walk_at "d"
    refine ⟨sz (show 1 ≤ 100000 by decide), ?_⟩
    walk_at "d"
    have := k (sts ++ [none]) (mup M1 p (.lst (sts.map stD ++ [.tup [.str "end"]]))) (by rw [List.length_append, lm]; simp; omega) (fun o ho s hs => by
      rcases List.mem_append.mp ho with ho | ho
      · exact hm o ho s hs
      · rw [List.mem_singleton.mp ho] at hs; cases hs) (keep_two np (m1.trans (.put (.inr rfl)))) (jar_put j1 jp)
    rw [List.map_append] at this
    exact this
end LX
/-! K22m: walks through machines, in plain mathematics: over any standings whose moves lead somewhere. -/
namespace K22
open PySem DL L2
section
variable (E : Int → Int → Prop) (n : Nat)
/-- what can be come to -/
inductive Reach (a : Int) : Int → Prop
  | refl : Reach a a
  | step {b c : Int} : Reach a b → E b c → Reach a c
structure Bfs (a : Int) (i : Nat) (fs : List Int) : Prop where
  head : a ∈ fs
  reach : ∀ b ∈ fs, Reach E a b
  closed : ∀ (k : Nat) (b c : Int), k < i → fs[k]? = some b → E b c → c ∈ fs
  nd : fs.Nodup
  rng : ∀ b ∈ fs, 0 ≤ b ∧ b < n
  le : i ≤ fs.length
end
section
variable {E : Int → Int → Prop} {n : Nat} {a b c : Int} {i : Nat} {fs : List Int}
theorem nodup_len {α : Type} [DecidableEq α] : ∀ {l L : List α}, l.Nodup → (∀ x ∈ l, x ∈ L) → l.length ≤ L.length
  | [], _, _, _ => Nat.zero_le _
  | x :: r, L, hn, h => by
    have hx := h x List.mem_cons_self
    obtain ⟨n1, n2⟩ := List.nodup_cons.mp hn
    have := nodup_len (l := r) (L := L.erase x) n2 fun y hy => (List.mem_erase_of_ne (fun e : y = x => n1 (by rw [← e]; exact hy))).mpr (h y (List.mem_cons_of_mem _ hy))
    rw [List.length_erase_of_mem hx] at this
    have := List.length_pos_of_mem hx
    rw [List.length_cons]
    omega
theorem rng_len' {fs : List Int} (nd : fs.Nodup) (h : ∀ b ∈ fs, 0 ≤ b ∧ b < n) : fs.length ≤ n := by
  have := nodup_len (L := (List.range n).map fun k : Nat => (k : Int)) nd fun b hb => by
    obtain ⟨h0, h1⟩ := h b hb
    exact List.mem_map.mpr ⟨b.toNat, List.mem_range.mpr (by omega), by omega⟩
  rwa [List.length_map, List.length_range] at this
theorem Bfs.len (H : Bfs E n a i fs) : fs.length ≤ n := rng_len' H.nd H.rng
theorem Bfs.start (h0 : 0 ≤ a) (h1 : a < n) : Bfs E n a 0 [a] := ⟨by simp, fun b hb => by rw [List.mem_singleton.mp hb]; exact .refl, fun k b c h => by omega, by simp, fun b hb => by rw [List.mem_singleton.mp hb]; exact ⟨h0, h1⟩, Nat.zero_le _⟩
theorem Bfs.add (H : Bfs E n a i fs) (hb : b ∈ fs) (e : E b c) (hc : c ∉ fs) (h0 : 0 ≤ c) (h1 : c < n) : Bfs E n a i (fs ++ [c]) where
  head := List.mem_append_left _ H.head
  reach := fun x hx => by
    rcases List.mem_append.mp hx with hx | hx
    · exact H.reach x hx
    · rw [List.mem_singleton.mp hx]; exact .step (H.reach b hb) e
  closed := fun k x y hk hx hy => by
    have := H.le
    rw [List.getElem?_append_left (by omega)] at hx
    exact List.mem_append_left _ (H.closed k x y hk hx hy)
  nd := by
    rw [List.nodup_append]
    exact ⟨H.nd, by simp, fun x hx y hy => by rw [List.mem_singleton.mp hy]; exact fun e => hc (e ▸ hx)⟩
  rng := fun x hx => by
    rcases List.mem_append.mp hx with hx | hx
    · exact H.rng x hx
    · rw [List.mem_singleton.mp hx]; exact ⟨h0, h1⟩
  le := by have := H.le; rw [List.length_append]; omega
theorem Bfs.next (H : Bfs E n a i fs) (hb : fs[i]? = some b) (h : ∀ c, E b c → c ∈ fs) : Bfs E n a (i + 1) fs where
  head := H.head
  reach := H.reach
  closed := fun k x y hk hx hy => by
    by_cases e : k = i
    · subst e
      rw [hb] at hx
      cases hx
      exact h y hy
    · exact H.closed k x y (by omega) hx hy
  nd := H.nd
  rng := H.rng
  le := (List.getElem?_eq_some_iff.mp hb).1
theorem Bfs.done (H : Bfs E n a i fs) (h : fs.length ≤ i) (b : Int) : b ∈ fs ↔ Reach E a b := by
  refine ⟨H.reach b, fun r => ?_⟩
  induction r with
  | refl => exact H.head
  | step r e ih =>
    obtain ⟨k, hk, rfl⟩ := List.mem_iff_getElem.mp ih
    exact H.closed k _ _ (by omega) (List.getElem?_eq_getElem hk) e
theorem Reach.rng (hE : ∀ b c, E b c → 0 ≤ c ∧ c < n) (h0 : 0 ≤ a) (h1 : a < n) (r : Reach E a b) : 0 ≤ b ∧ b < n := by
  induction r with
  | refl => exact ⟨h0, h1⟩
  | step r e ih => exact hE _ _ e
/-! ### from which an end can be reached -/
def Ends (E : Int → Int → Prop) (F : Int → Prop) (a : Int) : Prop := ∃ b, Reach E a b ∧ F b
structure Back (E : Int → Int → Prop) (F : Int → Prop) (n : Nat) (i : Nat) (ws : List Int) : Prop where
  fin : ∀ b : Int, 0 ≤ b → b < n → F b → b ∈ ws
  ends : ∀ b ∈ ws, Ends E F b
  closed : ∀ (k : Nat) (b c : Int), k < i → ws[k]? = some b → E c b → c ∈ ws
  nd : ws.Nodup
  rng : ∀ b ∈ ws, 0 ≤ b ∧ b < n
  le : i ≤ ws.length
variable {F : Int → Prop} {ws : List Int}
theorem Back.len (H : Back E F n i ws) : ws.length ≤ n := rng_len' H.nd H.rng
theorem Back.add (H : Back E F n i ws) (hb : b ∈ ws) (e : E c b) (hc : c ∉ ws) (h0 : 0 ≤ c) (h1 : c < n) : Back E F n i (ws ++ [c]) where
  fin := fun x h0 h1 hx => List.mem_append_left _ (H.fin x h0 h1 hx)
  ends := fun x hx => by
    rcases List.mem_append.mp hx with hx | hx
    · exact H.ends x hx
    · rw [List.mem_singleton.mp hx]
      obtain ⟨y, r, hy⟩ := H.ends b hb
      refine ⟨y, ?_, hy⟩
      clear hy
      induction r with
      | refl => exact .step .refl e
      | step r e2 ih => exact .step ih e2
  closed := fun k x y hk hx hy => by
    have := H.le
    rw [List.getElem?_append_left (by omega)] at hx
    exact List.mem_append_left _ (H.closed k x y hk hx hy)
  nd := by
    rw [List.nodup_append]
    exact ⟨H.nd, by simp, fun x hx y hy => by rw [List.mem_singleton.mp hy]; exact fun e => hc (e ▸ hx)⟩
  rng := fun x hx => by
    rcases List.mem_append.mp hx with hx | hx
    · exact H.rng x hx
    · rw [List.mem_singleton.mp hx]; exact ⟨h0, h1⟩
  le := by have := H.le; rw [List.length_append]; omega
theorem Back.next (H : Back E F n i ws) (hb : ws[i]? = some b) (h : ∀ c, E c b → c ∈ ws) : Back E F n (i + 1) ws where
  fin := H.fin
  ends := H.ends
  closed := fun k x y hk hx hy => by
    by_cases e : k = i
    · subst e
      rw [hb] at hx
      cases hx
      exact h y hy
    · exact H.closed k x y (by omega) hx hy
  nd := H.nd
  rng := H.rng
  le := (List.getElem?_eq_some_iff.mp hb).1
theorem Back.done (hE : ∀ b c, E b c → 0 ≤ c ∧ c < n) (H : Back E F n i ws) (h : ws.length ≤ i) (b : Int) (h0 : 0 ≤ b) (h1 : b < n) : b ∈ ws ↔ Ends E F b := by
  refine ⟨H.ends b, ?_⟩
  rintro ⟨c, r, f⟩
  have hc := r.rng hE h0 h1
  have hm := H.fin c hc.1 hc.2 f
  clear hc f
  induction r with
  | refl => exact hm
  | step r e ih =>
    obtain ⟨k, hk, ek⟩ := List.mem_iff_getElem.mp hm
    exact ih (H.closed k _ _ (by omega) (by rw [List.getElem?_eq_getElem hk, ek]) e)
end
/-! ### sorted texts -/
def ltS (a b : Str) : Prop := a.cps.toList < b.cps.toList
theorem ltS_irr {a : Str} : ¬ ltS a a := List.lt_irrefl _
theorem ltS_trans {a b c : Str} (h : ltS a b) (k : ltS b c) : ltS a c := List.lt_trans h k
theorem ltS_tri {a b : Str} (h : ¬ ltS b a) (n : a ≠ b) : ltS a b := by
  apply Classical.byContradiction
  intro q
  exact n (str_ext (List.le_antisymm (List.not_lt.mp h) (List.not_lt.mp q)))
theorem eS_ltS {a b : Str} : eD (.str a) < eD (.str b) ↔ ltS a b := by
  have := eS_lt a.cps.toList b.cps.toList [] []
  rw [List.append_nil, List.append_nil] at this
  show eS a < eS b ↔ _
  unfold eS
  rw [this]
  unfold ltS
  by_cases e : a.cps.toList = b.cps.toList
  · rw [if_pos e, e]
    exact ⟨fun h => absurd h (List.lt_irrefl _), fun h => absurd h (List.lt_irrefl _)⟩
  · rw [if_neg e]
theorem sorted_unique : ∀ {xs ys : List Str}, xs.Pairwise ltS → ys.Pairwise ltS → (∀ z, z ∈ xs ↔ z ∈ ys) → xs = ys
  | [], [], _, _, _ => rfl
  | [], y :: s, _, _, h => absurd ((h y).mpr List.mem_cons_self) (by simp)
  | x :: r, [], _, _, h => absurd ((h x).mp List.mem_cons_self) (by simp)
  | x :: r, y :: s, hx, hy, h => by
    obtain ⟨x1, x2⟩ := List.pairwise_cons.mp hx
    obtain ⟨y1, y2⟩ := List.pairwise_cons.mp hy
    have e : x = y := by
      rcases List.mem_cons.mp ((h x).mp List.mem_cons_self) with e | e
      · exact e
      · rcases List.mem_cons.mp ((h y).mpr List.mem_cons_self) with e2 | e2
        · exact e2.symm
        · exact absurd (ltS_trans (y1 x e) (x1 y e2)) ltS_irr
    subst e
    rw [sorted_unique x2 y2 fun z => ?_]
    constructor
    · intro hz
      rcases List.mem_cons.mp ((h z).mp (List.mem_cons_of_mem _ hz)) with e | e
      · subst e; exact absurd (x1 _ hz) ltS_irr
      · exact e
    · intro hz
      rcases List.mem_cons.mp ((h z).mpr (List.mem_cons_of_mem _ hz)) with e | e
      · subst e; exact absurd (y1 _ hz) ltS_irr
      · exact e
end K22
/-! GRs: helpers of heaps for graphs (turned from K22). -/
namespace GR
open PySem DL L2 K22
-- what the heap holds at a place
local macro_rules | `(tactic| walk_at "h") => `(tactic| first
  | assumption
  | exact mup_same
  | (refine (mup_ne ?_).trans ?_ <;> first | assumption | (apply Ne.symm; assumption) | walk_at "h"))
-- small facts of numbers
local macro_rules | `(tactic| walk_at "n") => `(tactic| first
  | assumption
  | omega
  | decide
  | (exact CMul.r (by decide))
  | (exact CMul.l (by decide))
  | (refine ⟨?_, ?_⟩ <;> first | assumption | omega | decide))
-- lengths
local macro_rules | `(tactic| walk_at "l") => `(tactic| first
  | assumption
  | (rw [sizeLine_eq]; first | omega | decide | (simp; done) | (simp; omega) | decide +kernel))
-- one step
local macro_rules | `(tactic| walk_at "e1") => `(tactic| first
  | with_reducible refine t_nil ?_
  | ((with_reducible refine' t_var ?s ?_); (case s => first | assumption | exact rfl))
  | with_reducible refine t_c ?_
  | with_reducible refine t_bin ?_
  | with_reducible refine t_if ?_
  | with_reducible refine t_asg ?_
  | with_reducible refine t_gN ?_
  | with_reducible refine t_ret ?_
  | with_reducible refine t_exp ?_
  | with_reducible refine t_bcmp ?_
  | with_reducible refine t_band ?_
  | with_reducible refine t_bor ?_
  | with_reducible refine t_bnot ?_
  | with_reducible refine t_btru ?_
  | with_reducible refine t_byes ?_
  | with_reducible refine t_an ?_
  | with_reducible refine t_ac ?_
  | with_reducible refine t_fn ?_
  | with_reducible refine t_call ?_
  | with_reducible refine t_cmp ?_
  | with_reducible refine t_and ?_
  | with_reducible refine t_or ?_
  | with_reducible refine t_not ?_
  | with_reducible refine t_ife ?_
  | with_reducible refine t_tup ?_
  | with_reducible refine t_lst ?_
  | with_reducible refine t_isi ?_
  | with_reducible refine t_sl ?_
  | with_reducible refine t_o0 ?_
  | with_reducible refine t_o1 ?_
  | with_reducible refine t_un ?_
  | with_reducible refine t_mt ?_
  | with_reducible refine t_gS ?_
  | with_reducible refine t_gsC ?_
  | with_reducible refine t_gsN ?_
  | ((with_reducible refine t_gT ?s ?_); (case s => first | assumption | exact rfl))
  | with_reducible refine t_retN ?_
  | with_reducible refine t_brk ?_
  | with_reducible refine t_cnt ?_
  | ((with_reducible refine' t_aug ?s ?_); (case s => first | assumption | exact rfl))
  | with_reducible refine t_for ?_
  | with_reducible refine t_seqi ?_
  | with_reducible refine t_rg1 ?_
  | with_reducible refine t_rg2 ?_
  | with_reducible refine t_lc ?_
  | with_reducible refine v_tru_bl ?_
  | with_reducible refine v_tru_int ?_
  | with_reducible refine v_tru_non ?_
  | with_reducible refine v_tru_tup ?_
  | with_reducible refine v_add_int ?_
  | ((with_reducible refine v_add_str ?l ?_); (case l => walk_at "l"))
  | ((with_reducible refine v_add_tup ?l ?_); (case l => walk_at "l"))
  | with_reducible refine v_iadd_int ?_
  | with_reducible refine v_sub ?_
  | ((with_reducible refine v_mul ?c ?_); (case c => walk_at "n"))
  | ((with_reducible refine v_div ?c ?_); (case c => walk_at "n"))
  | ((with_reducible refine v_mod ?c ?_); (case c => walk_at "n"))
  | ((with_reducible refine v_pow ?c ?_); (case c => exact ⟨by decide, by decide, by decide⟩))
  | with_reducible refine v_neg ?_
  | with_reducible exact trivial
  | with_reducible refine v_eq_int ?_
  | with_reducible refine v_eq_str ?_
  | with_reducible refine v_eq_bl ?_
  | with_reducible refine v_ne_int ?_
  | with_reducible refine v_ne_str ?_
  | with_reducible refine v_ne_bl ?_
  | with_reducible refine v_lt ?_
  | with_reducible refine v_lt_str ?_
  | with_reducible refine t_ks ?_
  | with_reducible refine t_rv ?_
  | with_reducible refine v_seq_ktp ?_
  | ((with_reducible refine' v_extend ?e ?f ?l ?_); (case e => walk_at "h"); (case f => walk_at "h"); (case l => walk_at "l"))
  | with_reducible refine v_le ?_
  | with_reducible refine v_gt ?_
  | with_reducible refine v_ge ?_
  | with_reducible refine v_isi_non ?_
  | with_reducible refine v_isi_bl ?_
  | with_reducible refine v_isi_int ?_
  | with_reducible refine v_isi_str ?_
  | with_reducible refine v_isi_tup ?_
  | with_reducible refine v_in_str ?_
  | with_reducible refine v_nin_str ?_
  | with_reducible refine v_len_tup ?_
  | with_reducible refine v_len_rol ?_
  | ((with_reducible refine v_len_str ?l ?_); (case l => walk_at "l"))
  | ((with_reducible refine' v_len_ref ?e ?_); (case e => walk_at "h"))
  | with_reducible refine v_int_int ?_
  | with_reducible refine v_max ?_
  | with_reducible refine v_min ?_
  | with_reducible refine v_tuple_tup ?_
  | ((with_reducible refine' v_tuple_ref ?e ?_); (case e => walk_at "h"))
  | ((with_reducible refine' v_ix_ref ?e ?f ?_); (case e => walk_at "h"); (case f => first | assumption | exact rfl))
  | ((with_reducible refine' v_ix_tup ?f ?_); (case f => first | assumption | exact rfl))
  | ((with_reducible refine' v_set ?e ?f ?_); (case e => walk_at "h"); (case f => first | assumption | exact rfl))
  | ((with_reducible refine v_sl_str ?l ?_); (case l => walk_at "l"))
  | with_reducible refine v_sl_tup ?_
  | with_reducible refine v_seq_tup ?_
  | with_reducible refine v_seq_str ?_
  | with_reducible refine v_seq_rol ?_
  | ((with_reducible refine' v_seq_ref ?e ?_); (case e => walk_at "h"))
  | ((with_reducible refine' ⟨v_ty_ref ?e, ?_⟩); (case e => walk_at "h"))
  | ((with_reducible refine' v_append ?e ?l ?_); (case e => walk_at "h"); (case l => walk_at "l")))
local macro_rules | `(tactic| walk_at "d1") => `(tactic| first | with_reducible refine t_seq ?_ | walk_at "e1")
local macro_rules | `(tactic| walk_at "d") => `(tactic| repeat walk_at "d1")
-- one statement
local macro_rules | `(tactic| walk_at "e") => `(tactic| ((repeat walk_at "e1"); try (with_reducible show sSeq _ _ _ _ _)))
local macro_rules | `(tactic| walk_at "s") => `(tactic| ((with_reducible refine t_seq ?_); walk_at "e"))
-- a drawn thing's small facts
local macro_rules | `(tactic| walk_at "gi") => `(tactic| first
  | exact gi_c trivial
  | exact gi_c ⟨_, rfl, by decide, by decide⟩
  | exact gi_c (show _ ≤ _ by decide)
  | exact gi_c (show _ ≤ _ by decide +kernel)
  | exact gi_v rfl trivial)
local macro_rules | `(tactic| walk_at "ga") => `(tactic| ((repeat (first | exact ga_nil | refine ga_cons2 ?_ ?_)); all_goals (try walk_at "gi")))
theorem v_isn {x : D} {M : Mh} {R : Bool → Prop} (h : R (!isNon x)) : isnD x .non M R := h
theorem v_isN {x : D} {M : Mh} {R : Bool → Prop} (h : R (isNon x)) : isD x .non M R := h
theorem atI_ints {fs : List Int} {i : Nat} {b : Int} (h : fs[i]? = some b) : atI (fs.map D.int) (i : Int) = some (.int b) := atI_get? (by omega) (by rw [Int.toNat_natCast, List.getElem?_map, h]; rfl)
theorem keys_put {kvs : List (Key × D)} {fs : List Int} {c : Int} (d : D) (h : kvs.map (·.1) = fs.map Sum.inl) (n : c ∉ fs) : (putD kvs (Sum.inl c) d).map (·.1) = (fs ++ [c]).map Sum.inl := by
  rw [putD_keys, h, if_neg, List.map_append]; rfl
  intro z
  obtain ⟨x, hx, e⟩ := List.mem_map.mp z
  cases e
  exact n hx
theorem key_mem {kvs : List (Key × D)} {fs : List Int} {c : Int} (h : kvs.map (·.1) = fs.map Sum.inl) : (valD kvs (Sum.inl c)).isSome = decide (c ∈ fs) := by
  rw [← valD_any, Bool.eq_iff_iff, List.any_eq_true, decide_eq_true_eq]
  constructor
  · rintro ⟨kv, hk, e⟩
    have e := of_decide_eq_true e
    have : kv.1 ∈ kvs.map (·.1) := List.mem_map.mpr ⟨kv, hk, rfl⟩
    rw [h, e] at this
    obtain ⟨x, hx, e2⟩ := List.mem_map.mp this
    cases e2
    exact hx
  · intro hx
    have : (Sum.inl c : Key) ∈ kvs.map (·.1) := by rw [h]; exact List.mem_map.mpr ⟨c, hx, rfl⟩
    obtain ⟨kv, hk, e⟩ := List.mem_map.mp this
    exact ⟨kv, hk, decide_eq_true e⟩
theorem put_nodup {kvs : List (Key × D)} {k : Key} (d : D) (h : (kvs.map (·.1)).Nodup) : ((putD kvs k d).map (·.1)).Nodup := by
  rw [putD_keys]
  split
  · exact h
  · rename_i n
    rw [List.nodup_append]
    exact ⟨h, by simp, fun a ha b hb => by rw [List.mem_singleton.mp hb]; exact fun e => n (e ▸ ha)⟩
theorem put_mem {kvs : List (Key × D)} {k k' : Key} (d : D) : k' ∈ (putD kvs k d).map (·.1) ↔ k' ∈ kvs.map (·.1) ∨ k' = k := by
  rw [putD_keys]
  split
  · rename_i n
    exact ⟨.inl, fun h => by rcases h with h | rfl; exact h; exact n⟩
  · rw [List.mem_append, List.mem_singleton]
theorem all_map {α β : Type} {f : α → β} : ∀ {l : List β}, (∀ k ∈ l, ∃ z, k = f z) → ∃ zs : List α, l = zs.map f
  | [], _ => ⟨[], rfl⟩
  | k :: r, h => by
    obtain ⟨z, rfl⟩ := h k List.mem_cons_self
    obtain ⟨zs, rfl⟩ := all_map (l := r) fun x hx => h x (List.mem_cons_of_mem _ hx)
    exact ⟨z :: zs, rfl⟩
theorem nodup_of_map {α β : Type} {f : α → β} : ∀ {l : List α}, (l.map f).Nodup → l.Nodup
  | [], _ => by simp
  | x :: r, h => by
    rw [List.map_cons, List.nodup_cons] at h
    rw [List.nodup_cons]
    exact ⟨fun q => h.1 (List.mem_map.mpr ⟨x, q, rfl⟩), nodup_of_map h.2⟩
theorem dkeys_map (kvs : List (Key × D)) : dKeys (.dk kvs) = (kvs.map (·.1)).map kD := by
  show kvs.map (fun kv => kD kv.1) = _
  rw [List.map_map]; rfl
theorem memD_strs {w : Str} {zs : List Str} : memD (.str w) (zs.map D.str) = true ↔ w ∈ zs := by
  unfold memD
  rw [List.any_map, List.any_eq_true]
  constructor
  · rintro ⟨x, hx, e⟩
    have e : deq (.str x) (.str w) = true := e
    rw [deq_str, beq_iff_eq] at e
    rw [← e]; exact hx
  · intro h
    exact ⟨w, h, by show deq (.str w) (.str w) = true; rw [deq_str, beq_iff_eq]⟩
theorem memD_ints {w : Int} {zs : List Int} : memD (.int w) (zs.map D.int) = true ↔ w ∈ zs := by
  unfold memD
  rw [List.any_map, List.any_eq_true]
  constructor
  · rintro ⟨x, hx, e⟩
    have e : deq (.int x) (.int w) = true := e
    rw [deq_int, beq_iff_eq] at e
    rw [← e]; exact hx
  · intro h
    exact ⟨w, h, by show deq (.int w) (.int w) = true; rw [deq_int, beq_iff_eq]⟩
theorem flat_ints (zs : List Int) : (zs.map D.int).all flatD = true := by
  induction zs with
  | nil => rfl
  | cons z r ih => rw [List.map_cons, List.all_cons, ih]; rfl
theorem flat_strs (zs : List Str) : (zs.map D.str).all flatD = true := by
  induction zs with
  | nil => rfl
  | cons z r ih => rw [List.map_cons, List.all_cons, ih]; rfl
theorem t_dct_k' {ρ : Ev} {M : Mh} {Q : PQ} (h : ∀ p, M p = none → Q (.ref p) (mup M p (.dk []))) : eDct ρ M Q := .inl h
/-- the sorted rows of texts -/
theorem sorted_strs {ys : List Str} (nd : ys.Nodup) (hpw : (ys.map D.str).Pairwise fun a b => ¬ (eD b < eD a)) : ys.Pairwise ltS := by
  have a1 : ys.Pairwise fun a b => ¬ ltS b a := (List.pairwise_map.mp hpw).imp fun h q => h (eS_ltS.mpr q)
  exact (a1.and nd).imp fun ⟨x, y⟩ => ltS_tri x y
theorem nd_inj {α : Type} {l : List α} (h : l.Nodup) {i j : Nat} {x : α} (hi : l[i]? = some x) (hj : l[j]? = some x) : i = j := by
  obtain ⟨i1, i2⟩ := List.getElem?_eq_some_iff.mp hi
  obtain ⟨j1, j2⟩ := List.getElem?_eq_some_iff.mp hj
  have p := List.pairwise_iff_getElem.mp h
  rcases Nat.lt_trichotomy i j with k | k | k
  · exact absurd (i2.trans j2.symm) (p i j i1 j1 k)
  · exact k
  · exact absurd (j2.trans i2.symm) (p j i j1 i1 k)
/-- the places of the lists of comers, and what they hold -/
structure Com (M0 : Mh) (many : Nat) (c : Addr) (rs : List Addr) (f : Nat → List Int) (M' : Mh) : Prop where
  len : rs.length = many
  nd : rs.Nodup
  new : ∀ r ∈ rs, M0 r = none ∧ r ≠ c
  cnew : M0 c = none
  at' : M' c = some (.lst (rs.map D.ref))
  l : ∀ (k : Nat) r, rs[k]? = some r → M' r = some (.lst ((f k).map D.int))
theorem Com.keep {M0 M' M2 : Mh} {many : Nat} {c : Addr} {rs : List Addr} {f : Nat → List Int} (H : Com M0 many c rs f M') (x : MExt M' M2) : Com M0 many c rs f M2 :=
  ⟨H.len, H.nd, H.new, H.cnew, x _ _ (fun z => z) H.at', fun k r e => x _ _ (fun z => z) (H.l k r e)⟩
theorem Com.put {M0 M' : Mh} {many : Nat} {c : Addr} {rs : List Addr} {f : Nat → List Int} (H : Com M0 many c rs f M') {k : Nat} {r : Addr} {x : Int} (e : rs[k]? = some r) : Com M0 many c rs (fun n => if n = k then f k ++ [x] else f n) (mup M' r (.lst ((f k).map D.int ++ [.int x]))) where
  len := H.len
  nd := H.nd
  new := H.new
  cnew := H.cnew
  at' := by rw [mup_ne (H.new r (List.mem_of_getElem? e)).2.symm]; exact H.at'
  l := fun n q eq => by
    by_cases z : n = k
    · subst z
      rw [e] at eq
      cases eq
      rw [mup_same, if_pos rfl, List.map_append]; rfl
    · have : q ≠ r := by
        rintro rfl
        exact z (nd_inj H.nd eq e)
      rw [mup_ne this, if_neg z]
      exact H.l n q eq
theorem Com.other {M0 M' : Mh} {many : Nat} {c w : Addr} {rs : List Addr} {f : Nat → List Int} {o : MO} (H : Com M0 many c rs f M') (h1 : w ≠ c) (h2 : w ∉ rs) : Com M0 many c rs f (mup M' w o) :=
  ⟨H.len, H.nd, H.new, H.cnew, by rw [mup_ne h1.symm]; exact H.at', fun k r e => by rw [mup_ne (fun z : r = w => h2 (z ▸ List.mem_of_getElem? e))]; exact H.l k r e⟩
theorem Com.free {M0 M' : Mh} {many : Nat} {c w : Addr} {rs : List Addr} {f : Nat → List Int} (H : Com M0 many c rs f M') (h : M' w = none) : w ≠ c ∧ w ∉ rs := by
  refine ⟨(ne_free H.at' h).symm, fun z => ?_⟩
  obtain ⟨k, hk, e⟩ := List.mem_iff_getElem.mp z
  have := H.l k w (by rw [List.getElem?_eq_getElem hk, e])
  rw [h] at this; cases this
theorem cut_take {ds : List D} (n : Nat) : cutD ds none (some (n : Int)) = ds.take n := by
  unfold cutD
  rw [HT.sIx_nat, HT.sIx_none, List.drop_zero, Nat.sub_zero]
  by_cases h : n ≤ ds.length
  · rw [Nat.min_eq_left h]
  · rw [Nat.min_eq_right (by omega), List.take_length, List.take_of_length_le (by omega)]
theorem cut_drop {ds : List D} (n : Nat) : cutD ds (some (n : Int)) none = ds.drop n := by
  unfold cutD
  rw [HT.sIx_nat, HT.sIx_none]
  by_cases h : n ≤ ds.length
  · rw [Nat.min_eq_left h, List.take_of_length_le (by simp)]
  · rw [Nat.min_eq_right (by omega), List.drop_of_length_le (Nat.le_refl _), List.drop_of_length_le (show ds.length ≤ n by omega)]
    simp
theorem atI_map' {α : Type} {zs : List α} {f : α → D} {k : Int} (h0 : 0 ≤ k) (h1 : k < zs.length) : ∃ z, z ∈ zs ∧ zs[k.toNat]? = some z ∧ atI (zs.map f) k = some (f z) := by
  have hn : k.toNat < zs.length := by omega
  have e := List.getElem?_eq_getElem hn
  exact ⟨_, List.getElem_mem hn, e, atI_get? h0 (by rw [List.getElem?_map, e]; rfl)⟩
/-- items[pick(jar, len(items))], of a tuple -/
theorem gi_item {α : Type} {j : Addr} {ρ : Ev} {i ij : Nat} {zs : List α} {f : α → D} (sj : slot ρ ij = some (.ref j)) (s : slot ρ i = some (.tup (zs.map f))) (l0 : 0 < zs.length) (l1 : zs.length < 1073741824) :
    GI j ρ (fun d => ∃ z ∈ zs, d = f z) (eBin ixD (eVar i) (eFn 2 sp_pick (aCons (eVar ij) (aCons (eCall lenD (aCons (eVar i) aNil)) aNil)))) := fun M P jk k => by
  refine t_bin (t_var s (t_fn (t_ac (t_var sj (t_ac (t_call (t_ac (t_var s (t_an (v_len_tup (t_an ?_))))))))))) 
  refine c_pick jk (by rw [List.length_map]; omega) fun x o x0 x1 j1 => ?_
  rw [List.length_map] at x1
  obtain ⟨z, hz, _, e⟩ := atI_map' (f := f) x0 x1
  exact v_ix_tup e (k _ _ (.put rfl) j1 ⟨z, hz, rfl⟩)
/-- the same, of a list -/
theorem run_item {α : Type} {j p : Addr} {ρ : Ev} {i ij : Nat} {zs : List α} {f : α → D} {M : Mh} {P : PQ} (sj : slot ρ ij = some (.ref j)) (s : slot ρ i = some (.ref p)) (hp : M p = some (.lst (zs.map f))) (pj : p ≠ j) (l0 : 0 < zs.length) (l1 : zs.length < 1073741824) (jk : JarOk M j)
    (k : ∀ z M', z ∈ zs → MKeep (· = j) M M' → JarOk M' j → P (f z) M') :
    (eBin ixD (eVar i) (eFn 2 sp_pick (aCons (eVar ij) (aCons (eCall lenD (aCons (eVar i) aNil)) aNil)))) ρ M P := by
  refine t_bin (t_var s (t_fn (t_ac (t_var sj (t_ac (t_call (t_ac (t_var s (t_an (v_len_ref hp (t_an ?_)))))))))))
  refine c_pick jk (by rw [List.length_map]; omega) fun x o x0 x1 j1 => ?_
  rw [List.length_map] at x1
  obtain ⟨z, hz, _, e⟩ := atI_map' (f := f) x0 x1
  exact v_ix_ref (by rw [mup_ne pj]; exact hp) e (k _ _ hz (.put rfl) j1)
theorem okT_ints (ns : List Int) : okD (.tup (ns.map D.int)) = true := by
  obtain ⟨i1, i2⟩ := rol_ints ns
  unfold okD SeqAt.shaped
  simp only [pd, PyData.canLay0, PyData.depth, i1, Bool.true_and, decide_eq_true_eq]
  omega
theorem okT_strs {ps : List Str} (h : ∀ w ∈ ps, LX.SmS w) : okD (.tup (ps.map D.str)) = true := by
  have : ps.map D.str = (ps.map lit).map fun t => D.str (st t) := by
    rw [List.map_map]
    exact List.map_congr_left fun w _ => by show _ = D.str (st (lit w)); rw [st_lit]
  rw [this]
  exact okD_strs fun t ht => by
    obtain ⟨w, hw, rfl⟩ := List.mem_map.mp ht
    exact h w hw
theorem v_ne_same {x : D} {M : Mh} {R : Bool → Prop} (f : okD x = true) (h : R false) : neD x x M R := .inl ⟨.inr ⟨f, f⟩, by
  rw [deq_refl x f]; exact h⟩
end GR
/-! LXh: the laws' names, spans and moves, with things held. -/
namespace LX
open PySem DL L2 GR
section
variable {M : Mh} {Js : List Addr} {L : List (Addr × MO)} {j p q : Addr} {Q : PQ}
theorem h_name {i : Int} (H : Held M Js L) (hj : j ∈ Js) (h0 : 0 ≤ i) (h1 : i ≤ 9) (k : ∀ (z : Str) M', z.length ≤ 40 → SmS z → Held M' Js L → Q (.str z) M') : [D.ref j, D.int i].length = 2 ∧ sp_name [.ref j, .int i] M Q :=
  ⟨rfl, j, i, rfl, H.jar j hj, h0, h1, fun z M' l s m jk => k z M' l s (H.keep hj m jk)⟩
theorem h_names {i : Int} (H : Held M Js L) (hj : j ∈ Js) (h0 : 0 ≤ i) (h1 : i ≤ 10) (k : ∀ p (zs : List Str) M', zs.length = i.toNat → (∀ z ∈ zs, z.length ≤ 40) → (∀ z ∈ zs, SmS z) → Held M' Js ((p, .lst (zs.map D.str)) :: L) → Q (.ref p) M') : [D.ref j, D.int i].length = 2 ∧ sp_names [.ref j, .int i] M Q :=
  ⟨rfl, j, i, rfl, H.jar j hj, h0, h1, fun p zs M' l1 l2 s e _ n m jk => k p zs M' l1 l2 s (H.more (H.keep hj m jk) n e)⟩
theorem h_span (H : Held M Js L) (hj : j ∈ Js) (k : ∀ (a b : Int) M', 0 ≤ a → a ≤ b → b ≤ 999999 → Held M' Js L → Q (.tup [.int a, .int b]) M') : [D.ref j].length = 1 ∧ sp_span [.ref j] M Q :=
  ⟨rfl, j, rfl, H.jar j hj, fun d M' m jk ⟨a, b, e, h0, h1, h2⟩ => by subst e; exact k a b M' h0 h1 h2 (H.keep hj m jk)⟩
theorem h_moves {lb gl : Addr} {zs : List Str} {gs : List Int} {count : Nat} (H : Held M Js L) (hj : j ∈ Js) (m1 : (lb, .lst (zs.map D.str)) ∈ L) (m2 : (gl, .lst (gs.map D.int)) ∈ L) (z0 : 0 < zs.length) (z1 : zs.length ≤ 1000) (g0 : 0 < gs.length) (g1 : gs.length ≤ 1000) (hc : count ≤ 100)
    (k : ∀ p (ms : List Mo) M', ms.length = count → (∀ m ∈ ms, m.z ∈ zs ∧ m.g ∈ gs ∧ m.sp) → Held M' Js ((p, .lst (ms.map Mo.d)) :: L) → Q (.ref p) M') :
    [D.ref j, .ref lb, .int count, .ref gl].length = 4 ∧ sp_moves [.ref j, .ref lb, .int count, .ref gl] M Q :=
  ⟨rfl, j, lb, gl, zs, gs, count, rfl, H.get m1, H.get m2, H.ne hj m1, H.ne hj m2, z0, z1, g0, g1, hc, H.jar j hj, fun p ms M' l hm e _ n m jk => k p ms M' l hm (H.more (H.keep hj m jk) n e)⟩
end
end LX
/-! TMq: standings_from, renumbered, trimmed, walk_order. -/
namespace TM
open PySem DL L2 LW GR K22
-- where it stands in the row of things held
local macro_rules | `(tactic| walk_at "m") => `(tactic| first
  | assumption
  | exact List.mem_cons_self
  | (refine List.mem_cons_of_mem _ ?_; walk_at "m"))
-- what the heap holds at a place
local macro_rules | `(tactic| walk_at "h") => `(tactic| first
  | assumption
  | exact mup_same
  | exact Held.get (by assumption) (by walk_at "m")
  | (refine (mup_ne ?_).trans ?_ <;> first | assumption | (apply Ne.symm; assumption) | walk_at "h"))
-- small facts of numbers
local macro_rules | `(tactic| walk_at "n") => `(tactic| first
  | assumption
  | omega
  | decide
  | (exact CMul.r (by decide))
  | (exact CMul.l (by decide))
  | (refine ⟨?_, ?_⟩ <;> first | assumption | omega | decide))
-- lengths
local macro_rules | `(tactic| walk_at "l") => `(tactic| first
  | assumption
  | (rw [sizeLine_eq]; first | omega | decide | (simp; done) | (simp; omega) | decide +kernel))
-- one step
local macro_rules | `(tactic| walk_at "e1") => `(tactic| first
  | with_reducible refine t_nil ?_
  | ((with_reducible refine' t_var ?s ?_); (case s => first | exact rfl | assumption))
  | with_reducible refine t_c ?_
  | with_reducible refine t_bin ?_
  | with_reducible refine t_if ?_
  | with_reducible refine t_asg ?_
  | ((with_reducible refine' t_gN' ?e ?_); (case e => ((try simp only [List.set_cons_zero, List.set_cons_succ, startD, List.map_cons, List.map_nil, List.length_cons, List.length_nil, Nat.reduceAdd, Nat.reduceSub, List.replicate, List.cons_append, List.nil_append]); exact rfl)))
  | with_reducible refine t_ret ?_
  | with_reducible refine t_exp ?_
  | with_reducible refine t_bcmp ?_
  | with_reducible refine t_band ?_
  | with_reducible refine t_bor ?_
  | with_reducible refine t_bnot ?_
  | with_reducible refine t_btru ?_
  | with_reducible refine t_byes ?_
  | with_reducible refine t_an ?_
  | with_reducible refine t_ac ?_
  | with_reducible refine t_fn ?_
  | with_reducible refine t_call ?_
  | with_reducible refine t_cmp ?_
  | with_reducible refine t_and ?_
  | with_reducible refine t_or ?_
  | with_reducible refine t_not ?_
  | with_reducible refine t_ife ?_
  | with_reducible refine t_tupN ?_
  | ((with_reducible refine v_newT ?l ?_); (case l => exact Nat.le_of_ble_eq_true rfl))
  | with_reducible refine t_lstN ?_
  | with_reducible refine t_isi ?_
  | with_reducible refine t_sl ?_
  | with_reducible refine t_o0 ?_
  | with_reducible refine t_o1 ?_
  | with_reducible refine t_un ?_
  | with_reducible refine t_mt ?_
  | with_reducible refine t_gS ?_
  | with_reducible refine t_gsC ?_
  | with_reducible refine t_gsN ?_
  | ((with_reducible refine t_gT ?s ?_); (case s => first | assumption | exact rfl))
  | with_reducible refine t_retN ?_
  | with_reducible refine t_brk ?_
  | with_reducible refine t_cnt ?_
  | ((with_reducible refine' t_aug ?s ?_); (case s => first | exact rfl | assumption))
  | with_reducible refine t_for ?_
  | with_reducible refine t_seqi ?_
  | with_reducible refine t_rg1 ?_
  | with_reducible refine t_rg2 ?_
  | with_reducible refine t_lc ?_
  | with_reducible refine v_tru_bl ?_
  | with_reducible refine v_tru_int ?_
  | with_reducible refine v_tru_non ?_
  | with_reducible refine v_tru_tup ?_
  | with_reducible refine v_add_int ?_
  | ((with_reducible refine v_add_str ?l ?_); (case l => walk_at "l"))
  | ((with_reducible refine v_add_tup ?l ?_); (case l => walk_at "l"))
  | with_reducible refine v_iadd_int ?_
  | with_reducible refine v_sub ?_
  | ((with_reducible refine v_mul ?c ?_); (case c => walk_at "n"))
  | ((with_reducible refine v_div ?c ?_); (case c => walk_at "n"))
  | ((with_reducible refine v_mod ?c ?_); (case c => walk_at "n"))
  | ((with_reducible refine v_pow ?c ?_); (case c => exact ⟨by decide, by decide, by decide⟩))
  | with_reducible refine v_neg ?_
  | with_reducible exact trivial
  | with_reducible refine v_eq_int ?_
  | with_reducible refine v_eq_str ?_
  | with_reducible refine v_eq_bl ?_
  | with_reducible refine v_ne_int ?_
  | with_reducible refine v_ne_str ?_
  | with_reducible refine v_ne_bl ?_
  | with_reducible refine v_lt ?_
  | with_reducible refine v_lt_str ?_
  | with_reducible refine t_ks ?_
  | with_reducible refine t_rv ?_
  | with_reducible refine v_seq_ktp ?_
  | with_reducible refine v_le ?_
  | with_reducible refine v_gt ?_
  | with_reducible refine v_ge ?_
  | with_reducible refine v_isi_non ?_
  | with_reducible refine v_isi_bl ?_
  | with_reducible refine v_isi_int ?_
  | with_reducible refine v_isi_str ?_
  | with_reducible refine v_isi_tup ?_
  | with_reducible refine v_in_str ?_
  | with_reducible refine v_nin_str ?_
  | with_reducible refine v_len_tup ?_
  | with_reducible refine v_len_rol ?_
  | with_reducible refine v_len_ktp ?_
  | with_reducible refine v_tru_ktp ?_
  | with_reducible refine v_isi_ktp ?_
  | with_reducible refine v_tuple_ktp ?_
  | with_reducible refine t_zip ?_
  | with_reducible refine v_zip_tt ?_
  | with_reducible refine v_zip_tk ?_
  | with_reducible refine v_zip_kt ?_
  | with_reducible refine v_zip_kk ?_
  | ((with_reducible refine' v_zip_ll ?e ?f ?_); (case e => walk_at "h"); (case f => walk_at "h"))
  | with_reducible refine t_ix ?_
  | ((with_reducible refine' ⟨seqK_ref ?e, ?_⟩); (case e => walk_at "h"))
  | with_reducible refine t_lr ?_
  | ((with_reducible refine' v_ix_ktp ?f ?_); (case f => first | assumption | exact rfl))
  | ((with_reducible refine t_gTk ?s ?_); (case s => first | assumption | exact rfl))
  | ((with_reducible refine v_len_str ?l ?_); (case l => walk_at "l"))
  | ((with_reducible refine' v_len_ref ?e ?_); (case e => walk_at "h"))
  | with_reducible refine v_int_int ?_
  | with_reducible refine v_int_bl ?_
  | with_reducible refine v_max ?_
  | with_reducible refine v_min ?_
  | with_reducible refine v_tuple_tup ?_
  | ((with_reducible refine' v_tuple_ref ?e ?_); (case e => walk_at "h"))
  | ((with_reducible refine' v_ix_ref ?e ?f ?_); (case e => walk_at "h"); (case f => first | assumption | exact rfl))
  | ((with_reducible refine' v_ix_tup ?f ?_); (case f => first | assumption | exact rfl))
  | ((with_reducible refine v_sl_str ?l ?_); (case l => walk_at "l"))
  | with_reducible refine v_sl_tup ?_
  | with_reducible refine v_seq_tup ?_
  | with_reducible refine v_seq_str ?_
  | with_reducible refine v_seq_rol ?_
  | ((with_reducible refine' v_seq_ref ?e ?_); (case e => walk_at "h"))
  | ((with_reducible refine' ⟨v_ty_ref ?e, ?_⟩); (case e => walk_at "h")))
local macro_rules | `(tactic| walk_at "d1") => `(tactic| first | with_reducible refine t_seq ?_ | walk_at "e1")
local macro_rules | `(tactic| walk_at "d") => `(tactic| repeat walk_at "d1")
-- one statement
local macro_rules | `(tactic| walk_at "e") => `(tactic| ((repeat walk_at "e1"); try (with_reducible show sSeq _ _ _ _ _)))
local macro_rules | `(tactic| walk_at "s") => `(tactic| ((with_reducible refine t_seq ?_); walk_at "e"))
-- a drawn thing's small facts
local macro_rules | `(tactic| walk_at "gi") => `(tactic| first
  | exact gi_c trivial
  | exact gi_c ⟨_, rfl, by decide, by decide⟩
  | exact gi_c (show _ ≤ _ by decide)
  | exact gi_c (show _ ≤ _ by decide +kernel)
  | exact gi_v rfl trivial)
local macro_rules | `(tactic| walk_at "ga") => `(tactic| ((repeat (first | exact ga_nil | refine ga_cons2 ?_ ?_)); all_goals (try walk_at "gi")))
theorem MaOk.at {n : Nat} {sts : Sts} (h : MaOk n sts) {a : Int} (h0 : 0 ≤ a) (h1 : a < n) : ∃ o, sts[a.toNat]? = some o ∧ o ∈ sts ∧ atI (sts.map stD) a = some (stD o) ∧ stAt sts a = o := by
  have l : a.toNat < sts.length := by have := h.len; omega
  have e := List.getElem?_eq_getElem l
  exact ⟨_, e, List.getElem_mem l, atI_get? h0 (by rw [List.getElem?_map, e]; rfl), st_at e⟩
theorem gs_ms {sts : Sts} {a : Int} {o : Option Sd} (e : stAt sts a = o) : gsAt sts a = (msOf o).map Mo.g := by
  rw [gs_st, e]; cases o <;> rfl
theorem ms_len {n : Nat} {sts : Sts} (h : MaOk n sts) {o : Option Sd} (ho : o ∈ sts) : (msOf o).length ≤ 9 := by
  cases o with
  | none => exact Nat.zero_le _
  | some s => exact (h.st s ho).len
theorem kind_of {n : Nat} {sts : Sts} (h : MaOk n sts) {o : Option Sd} (ho : o ∈ sts) : ∀ s, o = some s → s.kind = "say" ∨ s.kind = "hear" := fun s e => (h.st s (e ▸ ho)).kind
theorem pre_at {l m : List Int} (h : l <+: m) {i : Nat} {b : Int} (e : l[i]? = some b) : m[i]? = some b := by
  obtain ⟨t, rfl⟩ := h
  rw [List.getElem?_append_left (List.getElem?_eq_some_iff.mp e).1]; exact e

/-! ### standings_from -/
def sp_standings_from : DSp := fun ds M P => ∃ (Js : List Addr) (L : List (Addr × MO)) (n : Nat) (sts : Sts) (a : Int), ds = [machD sts, .int a] ∧ Held M Js L ∧ MaOk n sts ∧ 0 ≤ a ∧ a < n ∧
  ∀ (p : Addr) M', Held M' Js ((p, .lst ((walk sts a).map D.int)) :: L) → P (.ref p) M'
theorem ok_standings_from (ds : List D) (M : Mh) (P : PQ) (h : sp_standings_from ds M P) : b_standings_from sp_moves_of { nx := fun _ M' => P .non M', rt := P } (startD 6 ds) M := by
  obtain ⟨Js, L, n, sts, a, rfl, H, hm, h0, h1, k⟩ := h
  have hml := hm.le
  have hsl := hm.len
  have hsp := hm.pos
  unfold b_standings_from machD
  walk_at "s"
  refine h_new H (Nat.le_of_ble_eq_true rfl) fun p M H => ?_
  walk_at "e"
  refine t_seq (t_asg (t_d1H H fun q M H => ?_))
  walk_at "e"
  refine h_newD H rfl fun M H => ?_
  walk_at "e"
  walk_at "s"
  refine t_seq ?_
  refine while_each (fun m ρ M => ∃ (i : Nat) (kvs : List (Key × D)) (w5 : Option D), ρ = [some (.tup (sts.map stD)), some (.int a), some (.ref p), some (.ref q), some (.int i), w5] ∧ kvs.map (·.1) = (W sts a i).map Sum.inl ∧ m + i = n ∧ Held M Js ((q, .dk kvs) :: (p, .lst ((W sts a i).map D.int)) :: L)) n
    ⟨0, _, _, rfl, rfl, rfl, H⟩ (fun N m ρ M hI hN => ?_)
  obtain ⟨i, kvs, w5, rfl, hk, mi, H⟩ := hI
  have hl := W_len hm h0 h1 i
  have fl : ((W sts a i).map D.int).length = (W sts a i).length := List.length_map ..
  walk_at "e"
  rw [fl]
  refine t_ite (fun e => ?_) (fun e => ?_)
  · have e : i < (W sts a i).length := by have := of_decide_eq_true e; omega
    have hb := List.getElem?_eq_getElem e
    generalize (W sts a i)[i] = b at hb
    have bm := List.mem_of_getElem? hb
    obtain ⟨b0, b1⟩ := W_rng hm h0 h1 i b bm
    have eb := atI_ints hb
    obtain ⟨o, e1, ho, e2, e3⟩ := hm.at b0 b1
    have nx : W sts a (i + 1) = addGs (W sts a i) ((msOf o).map Mo.g) := by rw [W_succ, hb, ← gs_ms e3]
    walk_at "e"
    walk_at "s"
    refine ⟨rfl, o, rfl, kind_of hm ho, ?_⟩
    have ml := ms_len hm ho
    walk_at "e"
    refine for_each (fun j ρ M => ∃ (kvs : List (Key × D)) (w5 : Option D), ρ = [some (.tup (sts.map stD)), some (.int a), some (.ref p), some (.ref q), some (.int i), w5] ∧ kvs.map (·.1) = (addGs (W sts a i) (((msOf o).take j).map Mo.g)).map Sum.inl ∧ Held M Js ((q, .dk kvs) :: (p, .lst ((addGs (W sts a i) (((msOf o).take j).map Mo.g)).map D.int)) :: L))
      ⟨kvs, _, rfl, hk, H⟩ (fun N2 j d ρ M hd hI hN2 => ?_) (fun ρ M hI => ?_)
    · obtain ⟨kvs, w5, rfl, hk, H⟩ := hI
      rw [List.getElem?_map] at hd
      obtain ⟨mv, hmv, rfl⟩ := Option.map_eq_some_iff.mp hd
      have nx2 : addGs (W sts a i) (((msOf o).take (j + 1)).map Mo.g) = addG (addGs (W sts a i) (((msOf o).take j).map Mo.g)) mv.g := by rw [tk_snoc hmv, List.map_append, List.map_singleton, addGs_snoc]
      have hl : (addGs (W sts a i) (((msOf o).take j).map Mo.g)).length ≤ n := by
        refine nd_len (addGs_nd (W_nd i) _) fun c hc => ?_
        rcases (addGs_mem _).mp hc with hc | hc
        · exact W_rng hm h0 h1 i c hc
        · refine gs_rng hm (a := b) ?_
          rw [gs_ms e3]
          obtain ⟨x, hx, rfl⟩ := List.mem_map.mp hc
          exact List.mem_map.mpr ⟨x, List.mem_of_mem_take hx, rfl⟩
      generalize addGs (W sts a i) (((msOf o).take j).map Mo.g) = fs at *
      have fl : (fs.map D.int).length = fs.length := List.length_map ..
      have kl : kvs.length ≤ 5000 := by
        have := congrArg List.length hk
        rw [List.length_map, List.length_map] at this
        omega
      refine ⟨trivial, ?_⟩
      rw [mo_d]
      walk_at "e"
      walk_at "s"
      refine h_nin H (by walk_at "m") rfl ?_
      rw [key_mem hk]
      refine t_ite (fun c => ?_) (fun c => ?_)
      · have c : mv.g ∉ fs := by simpa using c
        walk_at "d"
        refine h_dput 0 H rfl rfl (by omega) fun M H => ?_
        have H : Held M Js ((q, .dk (putD kvs (Sum.inl mv.g) (.bl true))) :: (p, .lst (fs.map D.int)) :: L) := H
        walk_at "d"
        refine h_appI 1 H rfl (by omega) fun M H => ?_
        have e4 : addG fs mv.g = fs ++ [mv.g] := if_neg c
        exact hN2 _ _ ⟨putD kvs (Sum.inl mv.g) (.bl true), _, rfl, by rw [nx2, e4]; exact keys_put _ hk c, by rw [nx2, e4, List.map_append]; exact H⟩
      · have c : mv.g ∈ fs := by simpa using c
        walk_at "d"
        have e4 : addG fs mv.g = fs := if_pos c
        exact hN2 _ _ ⟨kvs, _, rfl, by rw [nx2, e4]; exact hk, by rw [nx2, e4]; exact H⟩
    · obtain ⟨kvs, w5, rfl, hk, H⟩ := hI
      rw [List.length_map, List.take_length, ← nx] at hk H
      refine ⟨trivial, ?_⟩
      walk_at "d"
      exact hN (m - 1) _ _ (by omega) ⟨i + 1, kvs, _, rfl, hk, by omega, H⟩
  · have e : (W sts a i).length ≤ i := by have := of_decide_eq_false e; omega
    walk_at "d"
    rw [W_done e (by omega)] at H
    exact k p _ H.tail
def sp_walk_order : DSp := fun ds M P => ∃ (Js : List Addr) (L : List (Addr × MO)) (n : Nat) (sts : Sts), ds = [machD sts] ∧ Held M Js L ∧ MaOk n sts ∧
  ∀ (p : Addr) M', Held M' Js ((p, .lst ((walk sts 0).map D.int)) :: L) → P (.ref p) M'
theorem memD_ints {g : Int} {fs : List Int} : memD (.int g) (fs.map D.int) = true ↔ g ∈ fs := by
  unfold memD
  rw [List.any_eq_true]
  constructor
  · rintro ⟨x, hx, h⟩
    obtain ⟨y, hy, rfl⟩ := List.mem_map.mp hx
    have : (y == g) = true := h
    rw [← eq_of_beq this]; exact hy
  · intro h
    exact ⟨.int g, List.mem_map.mpr ⟨g, h, rfl⟩, by show (g == g) = true; simp⟩
theorem in_ints (g : Int) (fs : List Int) : inOk (.int g) (fs.map D.int) := .inl ⟨rfl, by
  rw [List.all_map, List.all_eq_true]
  exact fun x _ => rfl⟩
theorem ok_walk_order (ds : List D) (M : Mh) (P : PQ) (h : sp_walk_order ds M P) : b_walk_order { nx := fun _ M' => P .non M', rt := P } (startD 4 ds) M := by
  obtain ⟨Js, L, n, sts, rfl, H, hm, k⟩ := h
  have hml := hm.le
  have hsl := hm.len
  have hsp := hm.pos
  have h0 : (0 : Int) ≤ 0 := Int.le_refl 0
  have h1 : (0 : Int) < n := by omega
  unfold b_walk_order machD
  walk_at "s"
  refine h_new H (Nat.le_of_ble_eq_true rfl) fun p M H => ?_
  walk_at "e"
  have sl : (sts.map stD).length = sts.length := List.length_map ..
  walk_at "s"
  rw [sl]
  refine ⟨by omega, ?_⟩
  refine for_each (fun i ρ M => ∃ (w2 w3 : Option D), ρ = [some (.tup (sts.map stD)), some (.ref p), w2, w3] ∧ Held M Js ((p, .lst ((W sts 0 i).map D.int)) :: L)) ⟨_, _, rfl, H⟩ (fun N i d ρ M hd hI hN => ?_) (fun ρ M hI => ?_)
  · obtain ⟨w2, w3, rfl, H⟩ := hI
    obtain ⟨rfl, hi⟩ := LX.rget hd
    have hl := W_len hm h0 h1 i
    have fl : ((W sts 0 i).map D.int).length = (W sts 0 i).length := List.length_map ..
    refine ⟨trivial, ?_⟩
    rw [Int.zero_add]
    walk_at "e"
    walk_at "s"
    rw [fl]
    refine t_ite (fun e => ?_) (fun e => ?_)
    · have e : i < (W sts 0 i).length := by have := of_decide_eq_true e; omega
      have hb := List.getElem?_eq_getElem e
      generalize (W sts 0 i)[i] = b at hb
      have bm := List.mem_of_getElem? hb
      obtain ⟨b0, b1⟩ := W_rng hm h0 h1 i b bm
      have eb := atI_ints hb
      obtain ⟨o, e1, ho, e2, e3⟩ := hm.at b0 b1
      have nx : W sts 0 (i + 1) = addGs (W sts 0 i) ((msOf o).map Mo.g) := by rw [W_succ, hb, ← gs_ms e3]
      have ml := ms_len hm ho
      cases o with
      | none =>
        rw [st_none] at e2
        walk_at "e"
        refine t_if0 (by decide +kernel) ?_
        walk_at "d"
        exact hN _ _ ⟨_, _, rfl, by rw [nx]; exact H⟩
      | some s =>
        have ks := kind_of hm ho s rfl
        rw [st_some] at e2
        walk_at "e"
        refine t_if1 (by simp [kind_end ks, bne]) ?_
        walk_at "e"
        walk_at "s"
        have ml : s.ms.length ≤ 9 := ml
        have nx : W sts 0 (i + 1) = addGs (W sts 0 i) (s.ms.map Mo.g) := nx
        refine for_each (fun j ρ M => ∃ (w3 : Option D), ρ = [some (.tup (sts.map stD)), some (.ref p), some (.int i), w3] ∧ Held M Js ((p, .lst ((addGs (W sts 0 i) ((s.ms.take j).map Mo.g)).map D.int)) :: L)) ⟨_, rfl, H⟩ (fun N2 j d ρ M hd hI hN2 => ?_) (fun ρ M hI => ?_)
        · obtain ⟨w3, rfl, H⟩ := hI
          rw [List.getElem?_map] at hd
          obtain ⟨mv, hmv, rfl⟩ := Option.map_eq_some_iff.mp hd
          have nx2 : addGs (W sts 0 i) ((s.ms.take (j + 1)).map Mo.g) = addG (addGs (W sts 0 i) ((s.ms.take j).map Mo.g)) mv.g := by rw [tk_snoc hmv, List.map_append, List.map_singleton, addGs_snoc]
          have hl2 : (addGs (W sts 0 i) ((s.ms.take j).map Mo.g)).length ≤ n := by
            refine nd_len (addGs_nd (W_nd i) _) fun c hc => ?_
            rcases (addGs_mem _).mp hc with hc | hc
            · exact W_rng hm h0 h1 i c hc
            · refine gs_rng hm (a := b) ?_
              rw [gs_ms e3]
              obtain ⟨x, hx, rfl⟩ := List.mem_map.mp hc
              exact List.mem_map.mpr ⟨x, List.mem_of_mem_take hx, rfl⟩
          generalize addGs (W sts 0 i) ((s.ms.take j).map Mo.g) = fs at *
          have fl : (fs.map D.int).length = fs.length := List.length_map ..
          refine ⟨trivial, ?_⟩
          rw [mo_d]
          walk_at "e"
          walk_at "s"
          refine v_nin_ref (H.get List.mem_cons_self) (in_ints _ _) ?_
          refine t_ite (fun c => ?_) (fun c => ?_)
          · have c : mv.g ∉ fs := fun z => by rw [memD_ints.mpr z] at c; cases c
            have e4 : addG fs mv.g = fs ++ [mv.g] := if_neg c
            walk_at "d"
            refine h_appI 0 H rfl (by omega) fun M H => ?_
            exact hN2 _ _ ⟨_, rfl, by rw [nx2, e4, List.map_append]; exact H⟩
          · have c : mv.g ∈ fs := memD_ints.mp (by simpa using c)
            have e4 : addG fs mv.g = fs := if_pos c
            walk_at "d"
            exact hN2 _ _ ⟨_, rfl, by rw [nx2, e4]; exact H⟩
        · obtain ⟨w3, rfl, H⟩ := hI
          rw [List.length_map, List.take_length, ← nx] at H
          refine ⟨trivial, ?_⟩
          walk_at "d"
          exact hN _ _ ⟨_, _, rfl, H⟩
    · have e : (W sts 0 i).length ≤ i := by have := of_decide_eq_false e; omega
      refine t_if0 rfl ?_
      walk_at "d"
      exact hN _ _ ⟨_, _, rfl, by rw [W_stop e 1]; exact H⟩
  · obtain ⟨w2, w3, rfl, H⟩ := hI
    refine ⟨trivial, ?_⟩
    walk_at "d"
    have : (rngI 0 ((sts.length : Nat) : Int).toNat).length = sts.length := by rw [LX.rlen]; omega
    rw [this] at H
    exact k p _ H
end TM
/-! TMr: renumbered, trimmed. -/
namespace TM
open PySem DL L2 LW GR K22
-- where it stands in the row of things held
local macro_rules | `(tactic| walk_at "m") => `(tactic| first
  | assumption
  | exact List.mem_cons_self
  | (refine List.mem_cons_of_mem _ ?_; walk_at "m"))
-- what the heap holds at a place
local macro_rules | `(tactic| walk_at "h") => `(tactic| first
  | assumption
  | exact mup_same
  | exact Held.get (by assumption) (by walk_at "m")
  | (refine (mup_ne ?_).trans ?_ <;> first | assumption | (apply Ne.symm; assumption) | walk_at "h"))
-- small facts of numbers
local macro_rules | `(tactic| walk_at "n") => `(tactic| first
  | assumption
  | omega
  | decide
  | (exact CMul.r (by decide))
  | (exact CMul.l (by decide))
  | (refine ⟨?_, ?_⟩ <;> first | assumption | omega | decide))
-- lengths
local macro_rules | `(tactic| walk_at "l") => `(tactic| first
  | assumption
  | (rw [sizeLine_eq]; first | omega | decide | (simp; done) | (simp; omega) | decide +kernel))
-- one step
local macro_rules | `(tactic| walk_at "e1") => `(tactic| first
  | with_reducible refine t_nil ?_
  | ((with_reducible refine' t_var ?s ?_); (case s => first | exact rfl | assumption))
  | with_reducible refine t_c ?_
  | with_reducible refine t_bin ?_
  | with_reducible refine t_if ?_
  | with_reducible refine t_asg ?_
  | ((with_reducible refine' t_gN' ?e ?_); (case e => ((try simp only [List.set_cons_zero, List.set_cons_succ, startD, List.map_cons, List.map_nil, List.length_cons, List.length_nil, Nat.reduceAdd, Nat.reduceSub, List.replicate, List.cons_append, List.nil_append]); exact rfl)))
  | with_reducible refine t_ret ?_
  | with_reducible refine t_exp ?_
  | with_reducible refine t_bcmp ?_
  | with_reducible refine t_band ?_
  | with_reducible refine t_bor ?_
  | with_reducible refine t_bnot ?_
  | with_reducible refine t_btru ?_
  | with_reducible refine t_byes ?_
  | with_reducible refine t_an ?_
  | with_reducible refine t_ac ?_
  | with_reducible refine t_fn ?_
  | with_reducible refine t_call ?_
  | with_reducible refine t_cmp ?_
  | with_reducible refine t_and ?_
  | with_reducible refine t_or ?_
  | with_reducible refine t_not ?_
  | with_reducible refine t_ife ?_
  | with_reducible refine t_tupN ?_
  | ((with_reducible refine v_newT ?l ?_); (case l => exact Nat.le_of_ble_eq_true rfl))
  | with_reducible refine t_lstN ?_
  | with_reducible refine t_isi ?_
  | with_reducible refine t_sl ?_
  | with_reducible refine t_o0 ?_
  | with_reducible refine t_o1 ?_
  | with_reducible refine t_un ?_
  | with_reducible refine t_mt ?_
  | with_reducible refine t_gS ?_
  | with_reducible refine t_gsC ?_
  | with_reducible refine t_gsN ?_
  | ((with_reducible refine t_gT ?s ?_); (case s => first | assumption | exact rfl))
  | with_reducible refine t_retN ?_
  | with_reducible refine t_brk ?_
  | with_reducible refine t_cnt ?_
  | ((with_reducible refine' t_aug ?s ?_); (case s => first | exact rfl | assumption))
  | with_reducible refine t_for ?_
  | with_reducible refine t_seqi ?_
  | with_reducible refine t_rg1 ?_
  | with_reducible refine t_rg2 ?_
  | with_reducible refine t_lc ?_
  | with_reducible refine v_tru_bl ?_
  | with_reducible refine v_tru_int ?_
  | with_reducible refine v_tru_non ?_
  | with_reducible refine v_tru_tup ?_
  | with_reducible refine v_add_int ?_
  | ((with_reducible refine v_add_str ?l ?_); (case l => walk_at "l"))
  | ((with_reducible refine v_add_tup ?l ?_); (case l => walk_at "l"))
  | with_reducible refine v_iadd_int ?_
  | with_reducible refine v_sub ?_
  | ((with_reducible refine v_mul ?c ?_); (case c => walk_at "n"))
  | ((with_reducible refine v_div ?c ?_); (case c => walk_at "n"))
  | ((with_reducible refine v_mod ?c ?_); (case c => walk_at "n"))
  | ((with_reducible refine v_pow ?c ?_); (case c => exact ⟨by decide, by decide, by decide⟩))
  | with_reducible refine v_neg ?_
  | with_reducible exact trivial
  | with_reducible refine v_eq_int ?_
  | with_reducible refine v_eq_str ?_
  | with_reducible refine v_eq_bl ?_
  | with_reducible refine v_ne_int ?_
  | with_reducible refine v_ne_str ?_
  | with_reducible refine v_ne_bl ?_
  | with_reducible refine v_lt ?_
  | with_reducible refine v_lt_str ?_
  | with_reducible refine t_ks ?_
  | with_reducible refine t_rv ?_
  | with_reducible refine v_seq_ktp ?_
  | with_reducible refine v_le ?_
  | with_reducible refine v_gt ?_
  | with_reducible refine v_ge ?_
  | with_reducible refine v_isi_non ?_
  | with_reducible refine v_isi_bl ?_
  | with_reducible refine v_isi_int ?_
  | with_reducible refine v_isi_str ?_
  | with_reducible refine v_isi_tup ?_
  | with_reducible refine v_in_str ?_
  | with_reducible refine v_nin_str ?_
  | with_reducible refine v_len_tup ?_
  | with_reducible refine v_len_rol ?_
  | with_reducible refine v_len_ktp ?_
  | with_reducible refine v_tru_ktp ?_
  | with_reducible refine v_isi_ktp ?_
  | with_reducible refine v_tuple_ktp ?_
  | with_reducible refine t_zip ?_
  | with_reducible refine v_zip_tt ?_
  | with_reducible refine v_zip_tk ?_
  | with_reducible refine v_zip_kt ?_
  | with_reducible refine v_zip_kk ?_
  | ((with_reducible refine' v_zip_ll ?e ?f ?_); (case e => walk_at "h"); (case f => walk_at "h"))
  | with_reducible refine t_ix ?_
  | ((with_reducible refine' ⟨seqK_ref ?e, ?_⟩); (case e => walk_at "h"))
  | with_reducible refine t_lr ?_
  | ((with_reducible refine' v_ix_ktp ?f ?_); (case f => first | assumption | exact rfl))
  | ((with_reducible refine t_gTk ?s ?_); (case s => first | assumption | exact rfl))
  | ((with_reducible refine v_len_str ?l ?_); (case l => walk_at "l"))
  | ((with_reducible refine' v_len_ref ?e ?_); (case e => walk_at "h"))
  | with_reducible refine v_int_int ?_
  | with_reducible refine v_int_bl ?_
  | with_reducible refine v_max ?_
  | with_reducible refine v_min ?_
  | with_reducible refine v_tuple_tup ?_
  | ((with_reducible refine' v_tuple_ref ?e ?_); (case e => walk_at "h"))
  | ((with_reducible refine' v_ix_ref ?e ?f ?_); (case e => walk_at "h"); (case f => first | assumption | exact rfl))
  | ((with_reducible refine' v_ix_tup ?f ?_); (case f => first | assumption | exact rfl))
  | ((with_reducible refine v_sl_str ?l ?_); (case l => walk_at "l"))
  | with_reducible refine v_sl_tup ?_
  | with_reducible refine v_seq_tup ?_
  | with_reducible refine v_seq_str ?_
  | with_reducible refine v_seq_rol ?_
  | ((with_reducible refine' v_seq_ref ?e ?_); (case e => walk_at "h"))
  | ((with_reducible refine' ⟨v_ty_ref ?e, ?_⟩); (case e => walk_at "h")))
local macro_rules | `(tactic| walk_at "d1") => `(tactic| first | with_reducible refine t_seq ?_ | walk_at "e1")
local macro_rules | `(tactic| walk_at "d") => `(tactic| repeat walk_at "d1")
-- one statement
local macro_rules | `(tactic| walk_at "e") => `(tactic| ((repeat walk_at "e1"); try (with_reducible show sSeq _ _ _ _ _)))
local macro_rules | `(tactic| walk_at "s") => `(tactic| ((with_reducible refine t_seq ?_); walk_at "e"))
-- a drawn thing's small facts
local macro_rules | `(tactic| walk_at "gi") => `(tactic| first
  | exact gi_c trivial
  | exact gi_c ⟨_, rfl, by decide, by decide⟩
  | exact gi_c (show _ ≤ _ by decide)
  | exact gi_c (show _ ≤ _ by decide +kernel)
  | exact gi_v rfl trivial)
local macro_rules | `(tactic| walk_at "ga") => `(tactic| ((repeat (first | exact ga_nil | refine ga_cons2 ?_ ?_)); all_goals (try walk_at "gi")))
def NumOk (kvs : List (Key × D)) (fs : List Int) : Prop := ∀ g ∈ fs, valD kvs (Sum.inl g) = some (.int (ix fs g))
def sp_renumbered : DSp := fun ds M P => ∃ (Js : List Addr) (L : List (Addr × MO)) (q : Addr) (kvs : List (Key × D)) (fs : List Int) (o : Option Sd), ds = [stD o, .ref q] ∧ Held M Js L ∧ (q, .dk kvs) ∈ L ∧ NumOk kvs fs ∧
  (∀ s, o = some s → (s.kind = "say" ∨ s.kind = "hear") ∧ s.ms.length ≤ 9 ∧ ∀ m ∈ mrgL s.ms, m.g ∈ fs) ∧ ∀ M', Held M' Js L → P (stD (reS fs o)) M'
theorem ok_renumbered (ds : List D) (M : Mh) (P : PQ) (h : sp_renumbered ds M P) : b_renumbered sp_merged { nx := fun _ M' => P .non M', rt := P } (startD 4 ds) M := by
  obtain ⟨Js, L, q, kvs, fs, o, rfl, H, hq, hn, ho, k⟩ := h
  unfold b_renumbered
  cases o with
  | none =>
    rw [st_none]
    walk_at "d"
    refine t_if1 (by decide +kernel) ?_
    walk_at "d"
    exact k _ H
  | some s =>
    obtain ⟨ks, ml, hg⟩ := ho s rfl
    have rl := mrg_len s.ms
    rw [st_some]
    walk_at "d"
    refine t_if0 (kind_end ks) ?_
    walk_at "e"
    walk_at "s"
    refine ⟨rfl, Js, L, s.ms, rfl, H, by omega, fun M H => ?_⟩
    walk_at "e"
    refine h_lc (fun i acc => acc = ((mrgL s.ms).take i).map fun m => Mo.d (reM fs m)) H (by rw [List.length_map]; omega) rfl (fun _ _ => trivial) (fun R i d acc p M hd hI H kR => ?_) (fun p acc M hl hI H => ?_)
    · rw [List.getElem?_map] at hd
      obtain ⟨m, h0, rfl⟩ := Option.map_eq_some_iff.mp hd
      have ev := hn m.g (hg m (List.mem_of_getElem? h0))
      rw [mo_d]
      refine ⟨_, rfl, ?_⟩
      walk_at "d"
      refine h_ixd H (List.mem_cons_of_mem _ hq) rfl ev ?_
      walk_at "d"
      exact kR _ _ (by rw [hI, tk_snoc h0, List.map_append]; rfl) H
    · walk_at "d"
      have e : acc = ((mrgL s.ms).map (reM fs)).map Mo.d := by rw [hI, List.length_map, List.take_length, List.map_map]; rfl
      rw [e]
      exact k _ H.tail
theorem val_map_same {c : Key} {d : D} : ∀ {kvs : List (Key × D)}, (valD kvs c).isSome = true → valD (kvs.map fun kv => if kv.1 = c then (kv.1, d) else kv) c = some d
  | [], h => by cases h
  | p :: r, h => by
    rw [List.map_cons]
    by_cases e : p.1 = c
    · rw [if_pos e, valD_pos (by exact e)]
    · rw [if_neg e, valD_neg e]
      rw [valD_neg e] at h
      exact val_map_same h
theorem val_map_ne {c c' : Key} {d : D} (n : c' ≠ c) : ∀ {kvs : List (Key × D)}, valD (kvs.map fun kv => if kv.1 = c then (kv.1, d) else kv) c' = valD kvs c'
  | [] => rfl
  | p :: r => by
    rw [List.map_cons]
    by_cases e : p.1 = c
    · have q : ¬ p.1 = c' := fun z => n (z.symm.trans e)
      rw [if_pos e, valD_neg (by exact q), valD_neg q]
      exact val_map_ne n
    · rw [if_neg e]
      by_cases q : p.1 = c'
      · rw [valD_pos q, valD_pos q]
      · rw [valD_neg q, valD_neg q]
        exact val_map_ne n
theorem val_app {c c' : Key} {d : D} : ∀ {kvs : List (Key × D)}, valD (kvs ++ [(c, d)]) c' = (valD kvs c').or (if c = c' then some d else none)
  | [] => by
    rw [List.nil_append]
    split
    · rename_i e
      rw [valD_pos (by exact e)]; rfl
    · rename_i e
      rw [valD_neg (by exact e)]; rfl
  | p :: r => by
    rw [List.cons_append]
    by_cases q : p.1 = c'
    · rw [valD_pos q, valD_pos q]; rfl
    · rw [valD_neg q, valD_neg q]; exact val_app
theorem val_put_same {kvs : List (Key × D)} {c : Key} {d : D} : valD (putD kvs c d) c = some d := by
  unfold putD
  rw [valD_any]
  split
  · rename_i h
    exact val_map_same h
  · rename_i h
    rw [val_app, if_pos rfl]
    cases q : valD kvs c with
    | none => rfl
    | some x => rw [q] at h; simp at h
theorem val_put_ne {kvs : List (Key × D)} {c c' : Key} {d : D} (h : c' ≠ c) : valD (putD kvs c d) c' = valD kvs c' := by
  unfold putD
  split
  · exact val_map_ne h
  · rw [val_app, if_neg (fun z => h z.symm)]
    cases valD kvs c' <;> rfl
def sp_trimmed_from : DSp := fun ds M P => ∃ (Js : List Addr) (L : List (Addr × MO)) (n : Nat) (sts : Sts) (a : Int), ds = [machD sts, .int a] ∧ Held M Js L ∧ MaOk n sts ∧ 0 ≤ a ∧ a < n ∧ ∀ M', Held M' Js L → P (machD (trimL sts (walk sts a))) M'
theorem ok_trimmed_from (ds : List D) (M : Mh) (P : PQ) (h : sp_trimmed_from ds M P) : b_trimmed_from sp_renumbered sp_standings_from { nx := fun _ M' => P .non M', rt := P } (startD 6 ds) M := by
  obtain ⟨Js, L, n, sts, a, rfl, H, hm, h0, h1, k⟩ := h
  have hml := hm.le
  have hsl := hm.len
  have hwl := walk_len hm h0 h1
  have hc := walk_clo hm h0 h1
  have hr : ∀ b ∈ walk sts a, 0 ≤ b ∧ b < (n : Int) := W_rng hm h0 h1 _
  unfold b_trimmed_from machD
  walk_at "s"
  refine ⟨rfl, Js, L, n, sts, a, rfl, H, hm, h0, h1, fun p M H => ?_⟩
  have hcl : ∀ b ∈ walk sts a, ∀ s, stAt sts b = some s → ∀ m ∈ mrgL s.ms, m.g ∈ walk sts a := fun b hb s e => clo_ms hc hb e
  have nd := hc.nd
  unfold trimL at k
  generalize walk sts a = fs at *
  have fl : (fs.map D.int).length = fs.length := List.length_map ..
  walk_at "e"
  refine t_seq (t_asg (h_dct H fun q M H => ?_))
  walk_at "e"
  walk_at "s"
  rw [fl]
  refine ⟨by omega, ?_⟩
  refine for_each (fun i ρ M => ∃ (kvs : List (Key × D)) (w4 w5 : Option D), ρ = [some (.tup (sts.map stD)), some (.int a), some (.ref p), some (.ref q), w4, w5] ∧ kvs.length ≤ i ∧ (∀ g ∈ fs.take i, valD kvs (Sum.inl g) = some (.int (ix fs g))) ∧ Held M Js ((q, .dk kvs) :: (p, .lst (fs.map D.int)) :: L)) ⟨[], _, _, rfl, Nat.le_refl _, by simp, H⟩ (fun N i d ρ M hd hI hN => ?_) (fun ρ M hI => ?_)
  · obtain ⟨kvs, w4, w5, rfl, kl, hv, H⟩ := hI
    obtain ⟨rfl, hi⟩ := LX.rget hd
    have hb := List.getElem?_eq_getElem (show i < fs.length by omega)
    generalize fs[i]'(by omega) = b at hb
    have eb := atI_ints hb
    refine ⟨trivial, ?_⟩
    rw [Int.zero_add]
    walk_at "d"
    refine h_dput 0 H rfl rfl (by omega) fun M H => ?_
    refine hN _ _ ⟨putD kvs (Sum.inl b) (.int i), _, _, rfl, ?_, fun g hg => ?_, H⟩
    · have := putD_len kvs (Sum.inl b) (.int i); omega
    · rw [tk_snoc hb] at hg
      by_cases e : g = b
      · rw [e, val_put_same, ix_at nd hb]
      · rw [val_put_ne (fun z => e (Sum.inl.inj z))]
        refine hv g ?_
        rcases List.mem_append.mp hg with hg | hg
        · exact hg
        · exact absurd (List.mem_singleton.mp hg) e
  · obtain ⟨kvs, w4, w5, rfl, kl, hv, H⟩ := hI
    rw [LX.rlen, Int.toNat_natCast, List.take_length] at hv
    refine ⟨trivial, ?_⟩
    walk_at "e"
    walk_at "d"
    refine h_lc (fun i acc => acc = (fs.take i).map fun b => stD (reS fs (stAt sts b))) H (by rw [List.length_map]; omega) rfl (fun M' H => H.get (by walk_at "m")) (fun R i d acc u M hd hI H kR => ?_) (fun u acc M hl hI H => ?_)
    · rw [List.getElem?_map] at hd
      obtain ⟨b, hb, rfl⟩ := Option.map_eq_some_iff.mp hd
      have bm := List.mem_of_getElem? hb
      obtain ⟨b0, b1⟩ := hr b bm
      obtain ⟨o, e1, ho, e2, e3⟩ := hm.at b0 b1
      refine ⟨_, rfl, ?_⟩
      walk_at "d"
      refine ⟨rfl, Js, _, q, kvs, fs, o, rfl, H, by walk_at "m", hv, fun s e => ⟨kind_of hm ho s e, (hm.st s (e ▸ ho)).len, hcl b bm s (e3.trans e)⟩, fun M H => ?_⟩
      exact kR _ _ (by rw [hI, tk_snoc hb, List.map_append, ← e3]; rfl) H
    · walk_at "d"
      have e : acc = (fs.map fun b => reS fs (stAt sts b)).map stD := by rw [hI, List.length_map, List.take_length, List.map_map]; rfl
      rw [e]
      exact k _ H.tail.tail.tail
def sp_trimmed : DSp := fun ds M P => ∃ (Js : List Addr) (L : List (Addr × MO)) (n : Nat) (sts : Sts), ds = [machD sts] ∧ Held M Js L ∧ MaOk n sts ∧ ∀ M', Held M' Js L → P (machD (trim sts)) M'
theorem ok_trimmed (ds : List D) (M : Mh) (P : PQ) (h : sp_trimmed ds M P) : b_trimmed sp_trimmed_from { nx := fun _ M' => P .non M', rt := P } (startD 1 ds) M := by
  obtain ⟨Js, L, n, sts, rfl, H, hm, k⟩ := h
  unfold b_trimmed
  walk_at "d"
  exact ⟨rfl, Js, L, n, sts, 0, rfl, H, hm, Int.le_refl 0, by have := hm.pos; omega, k⟩
end TM
/-! TMs: goal, same_kind, equal, marks, is_machine. -/
namespace TM
open PySem DL L2 LW GR K22
-- where it stands in the row of things held
local macro_rules | `(tactic| walk_at "m") => `(tactic| first
  | assumption
  | exact List.mem_cons_self
  | (refine List.mem_cons_of_mem _ ?_; walk_at "m"))
-- what the heap holds at a place
local macro_rules | `(tactic| walk_at "h") => `(tactic| first
  | assumption
  | exact mup_same
  | exact Held.get (by assumption) (by walk_at "m")
  | (refine (mup_ne ?_).trans ?_ <;> first | assumption | (apply Ne.symm; assumption) | walk_at "h"))
-- small facts of numbers
local macro_rules | `(tactic| walk_at "n") => `(tactic| first
  | assumption
  | omega
  | decide
  | (exact CMul.r (by decide))
  | (exact CMul.l (by decide))
  | (refine ⟨?_, ?_⟩ <;> first | assumption | omega | decide))
-- lengths
local macro_rules | `(tactic| walk_at "l") => `(tactic| first
  | assumption
  | (rw [sizeLine_eq]; first | omega | decide | (simp; done) | (simp; omega) | decide +kernel))
-- one step
local macro_rules | `(tactic| walk_at "e1") => `(tactic| first
  | with_reducible refine t_nil ?_
  | ((with_reducible refine' t_var ?s ?_); (case s => first | exact rfl | assumption))
  | with_reducible refine t_c ?_
  | with_reducible refine t_bin ?_
  | with_reducible refine t_if ?_
  | with_reducible refine t_asg ?_
  | ((with_reducible refine' t_gN' ?e ?_); (case e => ((try simp only [List.set_cons_zero, List.set_cons_succ, startD, List.map_cons, List.map_nil, List.length_cons, List.length_nil, Nat.reduceAdd, Nat.reduceSub, List.replicate, List.cons_append, List.nil_append]); exact rfl)))
  | with_reducible refine t_ret ?_
  | with_reducible refine t_exp ?_
  | with_reducible refine t_bcmp ?_
  | with_reducible refine t_band ?_
  | with_reducible refine t_bor ?_
  | with_reducible refine t_bnot ?_
  | with_reducible refine t_btru ?_
  | with_reducible refine t_byes ?_
  | with_reducible refine t_an ?_
  | with_reducible refine t_ac ?_
  | with_reducible refine t_fn ?_
  | with_reducible refine t_call ?_
  | with_reducible refine t_cmp ?_
  | with_reducible refine t_and ?_
  | with_reducible refine t_or ?_
  | with_reducible refine t_not ?_
  | with_reducible refine t_ife ?_
  | with_reducible refine t_tupN ?_
  | ((with_reducible refine v_newT ?l ?_); (case l => exact Nat.le_of_ble_eq_true rfl))
  | with_reducible refine t_lstN ?_
  | with_reducible refine t_isi ?_
  | with_reducible refine t_sl ?_
  | with_reducible refine t_o0 ?_
  | with_reducible refine t_o1 ?_
  | with_reducible refine t_un ?_
  | with_reducible refine t_mt ?_
  | with_reducible refine t_gS ?_
  | with_reducible refine t_gsC ?_
  | with_reducible refine t_gsN ?_
  | ((with_reducible refine t_gT ?s ?_); (case s => first | assumption | exact rfl))
  | with_reducible refine t_retN ?_
  | with_reducible refine t_brk ?_
  | with_reducible refine t_cnt ?_
  | ((with_reducible refine' t_aug ?s ?_); (case s => first | exact rfl | assumption))
  | with_reducible refine t_for ?_
  | with_reducible refine t_seqi ?_
  | with_reducible refine t_rg1 ?_
  | with_reducible refine t_rg2 ?_
  | with_reducible refine t_lc ?_
  | with_reducible refine v_tru_bl ?_
  | with_reducible refine v_tru_int ?_
  | with_reducible refine v_tru_non ?_
  | with_reducible refine v_tru_tup ?_
  | with_reducible refine v_add_int ?_
  | ((with_reducible refine v_add_str ?l ?_); (case l => walk_at "l"))
  | ((with_reducible refine v_add_tup ?l ?_); (case l => walk_at "l"))
  | with_reducible refine v_iadd_int ?_
  | with_reducible refine v_sub ?_
  | ((with_reducible refine v_mul ?c ?_); (case c => walk_at "n"))
  | ((with_reducible refine v_div ?c ?_); (case c => walk_at "n"))
  | ((with_reducible refine v_mod ?c ?_); (case c => walk_at "n"))
  | ((with_reducible refine v_pow ?c ?_); (case c => exact ⟨by decide, by decide, by decide⟩))
  | with_reducible refine v_neg ?_
  | with_reducible exact trivial
  | with_reducible refine v_eq_int ?_
  | with_reducible refine v_eq_str ?_
  | with_reducible refine v_eq_bl ?_
  | with_reducible refine v_ne_int ?_
  | with_reducible refine v_ne_str ?_
  | with_reducible refine v_ne_bl ?_
  | with_reducible refine v_lt ?_
  | with_reducible refine v_lt_str ?_
  | with_reducible refine t_ks ?_
  | with_reducible refine t_rv ?_
  | with_reducible refine v_seq_ktp ?_
  | with_reducible refine v_le ?_
  | with_reducible refine v_gt ?_
  | with_reducible refine v_ge ?_
  | with_reducible refine v_isi_non ?_
  | with_reducible refine v_isi_bl ?_
  | with_reducible refine v_isi_int ?_
  | with_reducible refine v_isi_str ?_
  | with_reducible refine v_isi_tup ?_
  | with_reducible refine v_in_str ?_
  | with_reducible refine v_nin_str ?_
  | with_reducible refine v_len_tup ?_
  | with_reducible refine v_len_rol ?_
  | with_reducible refine v_len_ktp ?_
  | with_reducible refine v_tru_ktp ?_
  | with_reducible refine v_isi_ktp ?_
  | with_reducible refine v_tuple_ktp ?_
  | with_reducible refine t_zip ?_
  | with_reducible refine v_zip_tt ?_
  | with_reducible refine v_zip_tk ?_
  | with_reducible refine v_zip_kt ?_
  | with_reducible refine v_zip_kk ?_
  | ((with_reducible refine' v_zip_ll ?e ?f ?_); (case e => walk_at "h"); (case f => walk_at "h"))
  | with_reducible refine t_ix ?_
  | ((with_reducible refine' ⟨seqK_ref ?e, ?_⟩); (case e => walk_at "h"))
  | with_reducible refine t_lr ?_
  | ((with_reducible refine' v_ix_ktp ?f ?_); (case f => first | assumption | exact rfl))
  | ((with_reducible refine t_gTk ?s ?_); (case s => first | assumption | exact rfl))
  | ((with_reducible refine v_len_str ?l ?_); (case l => walk_at "l"))
  | ((with_reducible refine' v_len_ref ?e ?_); (case e => walk_at "h"))
  | with_reducible refine v_int_int ?_
  | with_reducible refine v_int_bl ?_
  | with_reducible refine v_max ?_
  | with_reducible refine v_min ?_
  | with_reducible refine v_tuple_tup ?_
  | ((with_reducible refine' v_tuple_ref ?e ?_); (case e => walk_at "h"))
  | ((with_reducible refine' v_ix_ref ?e ?f ?_); (case e => walk_at "h"); (case f => first | assumption | exact rfl))
  | ((with_reducible refine' v_ix_tup ?f ?_); (case f => first | assumption | exact rfl))
  | ((with_reducible refine v_sl_str ?l ?_); (case l => walk_at "l"))
  | with_reducible refine v_sl_tup ?_
  | with_reducible refine v_seq_tup ?_
  | with_reducible refine v_seq_str ?_
  | with_reducible refine v_seq_rol ?_
  | ((with_reducible refine' v_seq_ref ?e ?_); (case e => walk_at "h"))
  | ((with_reducible refine' ⟨v_ty_ref ?e, ?_⟩); (case e => walk_at "h")))
local macro_rules | `(tactic| walk_at "d1") => `(tactic| first | with_reducible refine t_seq ?_ | walk_at "e1")
local macro_rules | `(tactic| walk_at "d") => `(tactic| repeat walk_at "d1")
-- one statement
local macro_rules | `(tactic| walk_at "e") => `(tactic| ((repeat walk_at "e1"); try (with_reducible show sSeq _ _ _ _ _)))
local macro_rules | `(tactic| walk_at "s") => `(tactic| ((with_reducible refine t_seq ?_); walk_at "e"))
-- a drawn thing's small facts
local macro_rules | `(tactic| walk_at "gi") => `(tactic| first
  | exact gi_c trivial
  | exact gi_c ⟨_, rfl, by decide, by decide⟩
  | exact gi_c (show _ ≤ _ by decide)
  | exact gi_c (show _ ≤ _ by decide +kernel)
  | exact gi_v rfl trivial)
local macro_rules | `(tactic| walk_at "ga") => `(tactic| ((repeat (first | exact ga_nil | refine ga_cons2 ?_ ?_)); all_goals (try walk_at "gi")))
def oD : Option Int → D
  | none => .non
  | some g => .int g
def goalL (ms : List Mo) (z : Str) (v : Int) : Option Int := (K02.nexts ms z v).head?
def sp_goal : DSp := fun ds M P => ∃ (ms : List Mo) (z : Str) (v : Int), ds = [.tup (ms.map Mo.d), .str z, .int v] ∧ P (oD (goalL ms z v)) M
theorem ok_goal (ds : List D) (M : Mh) (P : PQ) (h : sp_goal ds M P) : b_goal { nx := fun _ M' => P .non M', rt := P } (startD 4 ds) M := by
  obtain ⟨ms, z, v, rfl, k⟩ := h
  unfold b_goal
  walk_at "s"
  refine for_each (fun i ρ M' => M' = M ∧ ∃ (w3 : Option D), ρ = [some (.tup (ms.map Mo.d)), some (.str z), some (.int v), w3] ∧ K02.nexts (ms.take i) z v = []) ⟨rfl, _, rfl, rfl⟩ (fun N i d ρ M' hd hI hN => ?_) (fun ρ M' hI => ?_)
  · obtain ⟨rfl, w3, rfl, hn⟩ := hI
    rw [List.getElem?_map] at hd
    obtain ⟨m, hm, rfl⟩ := Option.map_eq_some_iff.mp hd
    refine ⟨trivial, ?_⟩
    rw [mo_d]
    have no : ¬ K02.ins z v m = true → N [some (.tup (ms.map Mo.d)), some (.str z), some (.int v), some (.tup [.str m.z, .int m.l, .int m.h, .int m.g])] M' := fun q =>
      hN _ _ ⟨rfl, _, rfl, by rw [tk_snoc hm, K02.nexts_app, K02.nexts_one, if_neg q, hn]; rfl⟩
    walk_at "d"
    refine t_ite (fun e1 => ?_) (fun e1 => ?_)
    · walk_at "d"
      refine t_ite (fun e2 => ?_) (fun e2 => ?_)
      · walk_at "d"
        refine t_ite (fun e3 => ?_) (fun e3 => ?_)
        · walk_at "d"
          have q : K02.ins z v m = true := K02.ins_iff.mpr ⟨eq_of_beq e1, of_decide_eq_true e2, of_decide_eq_true e3⟩
          have e : goalL ms z v = some m.g := by
            unfold goalL
            rw [← List.take_append_drop i ms, K02.nexts_app, hn, List.nil_append, List.drop_eq_getElem_cons (List.getElem?_eq_some_iff.mp hm).1, (List.getElem?_eq_some_iff.mp hm).2]
            unfold K02.nexts
            rw [List.filter_cons_of_pos q]; rfl
          rw [e] at k
          exact k
        · walk_at "d"
          exact no fun q => by rw [decide_eq_true (K02.ins_iff.mp q).2.2] at e3; cases e3
      · refine t_if0 rfl ?_
        walk_at "d"
        exact no fun q => by rw [decide_eq_true (K02.ins_iff.mp q).2.1] at e2; cases e2
    · refine t_if0 rfl ?_
      walk_at "d"
      exact no fun q => by rw [(K02.ins_iff.mp q).1] at e1; simp at e1
  · obtain ⟨rfl, w3, rfl, hn⟩ := hI
    rw [List.length_map, List.take_length] at hn
    refine ⟨trivial, ?_⟩
    walk_at "d"
    unfold goalL at k
    rw [hn] at k
    exact k
/-- two standings of one kind, and with one partner -/
def sameK : Option Sd → Option Sd → Prop
  | none, none => True
  | some s, some t => s.kind = t.kind ∧ s.who = t.who
  | _, _ => False
def sp_same_kind : DSp := fun ds M P => ∃ (o u : Option Sd), ds = [stD o, stD u] ∧ sameK o u ∧ (∀ s, o = some s → s.kind = "say" ∨ s.kind = "hear") ∧ P (.bl true) M
theorem ok_same_kind (ds : List D) (M : Mh) (P : PQ) (h : sp_same_kind ds M P) : b_same_kind { nx := fun _ M' => P .non M', rt := P } (startD 2 ds) M := by
  obtain ⟨o, u, rfl, hs, ho, k⟩ := h
  unfold b_same_kind
  cases o with
  | none =>
    cases u with
    | none =>
      rw [st_none]
      walk_at "d"
      refine t_if0 (by decide +kernel) ?_
      walk_at "d"
      refine t_if1 (by decide +kernel) ?_
      exact k
    | some _ => exact hs.elim
  | some s =>
    cases u with
    | none => exact hs.elim
    | some t =>
      obtain ⟨e1, e2⟩ := hs
      have ks := ho s rfl
      rw [st_some, st_some, ← e1, ← e2]
      walk_at "d"
      refine t_if0 (by simp) ?_
      walk_at "d"
      refine t_if0 (kind_end ks) ?_
      walk_at "d"
      rw [show (s.who == s.who) = true by simp]
      exact k
def sp_equal : DSp := fun ds M P => ∃ (x : D), ds = [x, x] ∧ Lay 60 1048576 x ∧ tupB x = true ∧ P (.bl true) M
theorem ok_equal (ds : List D) (M : Mh) (P : PQ) (h : sp_equal ds M P) : b_equal { nx := fun _ M' => P .non M', rt := P } (startD 2 ds) M := by
  obtain ⟨x, rfl, hx, ht, k⟩ := h
  unfold b_equal
  walk_at "d"
  refine .inl ⟨.inr ⟨hx.ok (by decide), hx.ok (by decide)⟩, ?_⟩
  rw [deq_refl _ (hx.ok (by decide))]
  walk_at "d"
  refine t_if1 rfl ?_
  walk_at "d"
  refine v_repr hx ht (by decide) (by decide) ?_
  walk_at "d"
  refine v_repr hx ht (by decide) (by decide) ?_
  walk_at "d"
  rw [show ((pd x).shown == (pd x).shown) = true by simp]
  exact k

/-! ### what may be shown -/
theorem labc_small : ∀ c ∈ LET.cps.toList ++ FIG.cps.toList, c < 128 := by
  have a : (LET.cps.toList ++ FIG.cps.toList).all (fun c => decide (c < 128)) = true := by decide +kernel
  exact fun c hc => of_decide_eq_true (List.all_eq_true.mp a c hc)
theorem lab_small {z : Str} (h : lab z) : small z.cps.toList := by
  have h := lab_nm h
  unfold nm at h
  intro c hc
  cases q : z.cps.toList with
  | nil => rw [q] at h; cases h
  | cons x r =>
    rw [q] at h hc
    rw [nameL_cons, Bool.and_eq_true] at h
    have := List.all_eq_true.mp h.2 c hc
    unfold sgnB letB figB at this
    rw [Bool.or_eq_true, decide_eq_true_eq, decide_eq_true_eq] at this
    exact labc_small c (List.mem_append.mpr this)
theorem lay_lab {k : Nat} {z : Str} (h : lab z) : Lay k 8 (.str z) := lay_str (by
  rw [← st_lit z]
  exact strOk_small (lab_small h)) (nm_len (lab_nm h)).2
theorem lay_cons {k w : Nat} {x : D} {ds : List D} (h : Lay k w x) (t : ∀ d ∈ ds, Lay k w d) : ∀ d ∈ x :: ds, Lay k w d := fun d hd => by
  rcases List.mem_cons.mp hd with rfl | hd
  · exact h
  · exact t d hd
theorem lay_none {k w : Nat} : ∀ d ∈ ([] : List D), Lay k w d := fun d hd => nomatch hd
theorem lay_map {k w : Nat} {α : Type} {f : α → D} {zs : List α} (h : ∀ z ∈ zs, Lay k w (f z)) : ∀ d ∈ zs.map f, Lay k w d := fun d hd => by
  obtain ⟨z, hz, rfl⟩ := List.mem_map.mp hd
  exact h z hz
theorem lay_kind {k : Nat} {z : Str} (h : z = "say" ∨ z = "hear" ∨ z = "end") : Lay k 8 (.str z) := by
  rcases h with rfl | rfl | rfl <;> exact lay_str (by decide +kernel) (by decide +kernel)
theorem lay_mo {n : Int} {m : Mo} (h : m.ok n) (hn : n ≤ 1000000) : Lay 1 84 (Mo.d m) := by
  have := h.l0
  have := h.lh
  have := h.h1
  have := h.g0
  have := h.g1
  exact (lay_tup (k := 0) (w := 20) (n := 4) (lay_cons ((lay_lab (k := 0) h.lab).mono (Nat.le_refl _) (by decide)) (lay_cons (lay_int (by omega)) (lay_cons (lay_int (by omega)) (lay_cons (lay_int (by omega)) lay_none)))) (Nat.le_of_ble_eq_true rfl)).mono (by decide) (by decide)
theorem lay_st {n : Nat} {o : Option Sd} (h : ∀ s, o = some s → SdOk n s) (hn : n ≤ 100) : Lay 3 2400 (stD o) := by
  cases o with
  | none => exact (lay_tup (k := 0) (w := 8) (n := 1) (lay_cons (lay_kind (.inr (.inr rfl))) lay_none) (by decide)).mono (by decide) (by decide)
  | some s =>
    have q := h s rfl
    exact (lay_tup (k := 2) (w := 765) (n := 3) (lay_cons ((lay_kind (q.kind.imp id .inl)).mono (Nat.le_refl _) (by decide)) (lay_cons ((lay_lab q.who).mono (Nat.le_refl _) (by decide)) (lay_cons ((lay_tup (k := 1) (w := 84) (n := 9) (lay_map fun m hm => lay_mo (q.row.ok m hm) (by omega)) (by rw [List.length_map]; exact q.len)).mono (by decide) (by decide)) lay_none))) (by simp)).mono (by decide) (by decide)
theorem lay_mach {n : Nat} {sts : Sts} (h : MaOk n sts) : Lay 60 1048576 (machD sts) :=
  (lay_tup (k := 3) (w := 2400) (n := 100) (lay_map fun o ho => lay_st (fun s e => h.st s (e ▸ ho)) h.le) (by rw [List.length_map, h.len]; exact h.le)).mono (by decide) (by decide)

/-! ### marks -/
def mkD (x : Str × Int) : D := .tup [.str x.1, .int x.2]
theorem mk_d (x : Str × Int) : mkD x = .tup [.str x.1, .int x.2] := rfl
def moS (m : Mo) : List (Str × Int) := [(m.z, m.l), (m.z, m.h + 1)]
def rowS (ms : List Mo) : List (Str × Int) := ms.flatMap moS
theorem deq_mk {x y : Str × Int} : deq (mkD y) (mkD x) = decide (y = x) := by
  obtain ⟨a, b⟩ := x
  obtain ⟨c, d⟩ := y
  rw [Bool.eq_iff_iff, decide_eq_true_eq]
  simp [deq, mkD, pd, pds, PyData.eqv, PyData.eqvAll]
theorem mem_mk {x : Str × Int} {mk : List (Str × Int)} : memD (mkD x) (mk.map mkD) = decide (x ∈ mk) := by
  unfold memD
  rw [Bool.eq_iff_iff, List.any_eq_true, decide_eq_true_eq]
  constructor
  · rintro ⟨d, hd, e⟩
    obtain ⟨y, hy, rfl⟩ := List.mem_map.mp hd
    rw [deq_mk, decide_eq_true_eq] at e
    rw [← e]; exact hy
  · exact fun h => ⟨mkD x, List.mem_map.mpr ⟨x, h, rfl⟩, by rw [deq_mk]; simp⟩
def mkOk (x : Str × Int) : Prop := lab x.1 ∧ 0 ≤ x.2 ∧ x.2 ≤ 1000000
theorem lay_mk {x : Str × Int} (h : mkOk x) : Lay 1 42 (mkD x) := by
  have := h.2
  exact (lay_tup (k := 0) (w := 20) (n := 2) (lay_cons ((lay_lab (k := 0) h.1).mono (Nat.le_refl _) (by decide)) (lay_cons (lay_int (by omega)) lay_none)) (Nat.le_of_ble_eq_true rfl)).mono (by decide) (by decide)
theorem in_mk {x : Str × Int} {mk : List (Str × Int)} (h : mkOk x) (hs : ∀ y ∈ mk, mkOk y) : inOk (mkD x) (mk.map mkD) :=
  .inr ⟨(lay_mk h).ok (by decide), (lay_tup (n := mk.length) (lay_map fun y hy => lay_mk (hs y hy)) (by rw [List.length_map]; exact Nat.le_refl _)).ok (by decide)⟩
structure Mks (done mk : List (Str × Int)) : Prop where
  mem : ∀ x, x ∈ mk ↔ x.2 ≤ 999999 ∧ x ∈ done
  len : mk.length ≤ done.length
  ok : ∀ x ∈ done, mkOk x
theorem Mks.add {done mk : List (Str × Int)} {x : Str × Int} (h : Mks done mk) (o : mkOk x) (hx : x.2 ≤ 999999) (n : x ∉ mk) : Mks (done ++ [x]) (mk ++ [x]) := by
  refine ⟨fun y => ?_, by simp [h.len], fun y hy => ?_⟩
  · rw [List.mem_append, List.mem_append, h.mem, List.mem_singleton]
    constructor
    · rintro (⟨a, b⟩ | rfl)
      · exact ⟨a, .inl b⟩
      · exact ⟨hx, .inr rfl⟩
    · rintro ⟨a, b | rfl⟩
      · exact .inl ⟨a, b⟩
      · exact .inr rfl
  · rcases List.mem_append.mp hy with hy | hy
    · exact h.ok y hy
    · rw [List.mem_singleton.mp hy]; exact o
theorem Mks.skip {done mk : List (Str × Int)} {x : Str × Int} (h : Mks done mk) (o : mkOk x) (hx : ¬ x.2 ≤ 999999 ∨ x ∈ mk) : Mks (done ++ [x]) mk := by
  refine ⟨fun y => ?_, by have := h.len; simp; omega, fun y hy => ?_⟩
  · rw [List.mem_append, List.mem_singleton]
    constructor
    · intro hy
      have := (h.mem y).mp hy
      exact ⟨this.1, .inl this.2⟩
    · rintro ⟨a, b | rfl⟩
      · exact (h.mem y).mpr ⟨a, b⟩
      · rcases hx with hx | hx
        · exact absurd a hx
        · exact hx
  · rcases List.mem_append.mp hy with hy | hy
    · exact h.ok y hy
    · rw [List.mem_singleton.mp hy]; exact o
def sp_marks : DSp := fun ds M P => ∃ (Js : List Addr) (L : List (Addr × MO)) (r : Addr) (rows : List (List Mo)) (n : Int), ds = [.ref r] ∧ Held M Js L ∧ (r, .lst (rows.map fun ms => .tup (ms.map Mo.d))) ∈ L ∧ rows.length ≤ 10 ∧ (∀ ms ∈ rows, ms.length ≤ 100 ∧ ∀ m ∈ ms, m.ok n) ∧
  ∀ (p : Addr) (mk : List (Str × Int)) M', (∀ x, x ∈ mk ↔ x.2 ≤ 999999 ∧ x ∈ rows.flatMap rowS) → Held M' Js ((p, .lst (mk.map mkD)) :: L) → P (.ref p) M'
theorem rowS_len (ms : List Mo) : (rowS ms).length = 2 * ms.length := by
  induction ms with
  | nil => rfl
  | cons m r ih =>
    show (moS m ++ rowS r).length = _
    rw [List.length_append, ih, List.length_cons]
    show 2 + _ = _
    omega
theorem rowsS_len {rows : List (List Mo)} (h : ∀ ms ∈ rows, ms.length ≤ 100) : (rows.flatMap rowS).length ≤ 200 * rows.length := by
  induction rows with
  | nil => exact Nat.le_refl _
  | cons ms r ih =>
    have := ih fun x hx => h x (List.mem_cons_of_mem _ hx)
    have := h ms List.mem_cons_self
    rw [List.flatMap_cons, List.length_append, rowS_len, List.length_cons]
    omega
theorem fm_snoc {α β : Type} {l : List α} {i : Nat} {a : α} (f : α → List β) (h : l[i]? = some a) : (l.take (i + 1)).flatMap f = (l.take i).flatMap f ++ f a := by
  rw [tk_snoc h, List.flatMap_append]; simp
theorem ok_marks (ds : List D) (M : Mh) (P : PQ) (h : sp_marks ds M P) : b_marks { nx := fun _ M' => P .non M', rt := P } (startD 5 ds) M := by
  obtain ⟨Js, L, r, rows, n, rfl, H, hr, rl, ho, k⟩ := h
  unfold b_marks
  walk_at "s"
  refine h_new H (Nat.le_of_ble_eq_true rfl) fun p M H => ?_
  walk_at "e"
  walk_at "s"
  refine for_each (fun i ρ M => ∃ (mk : List (Str × Int)) (w2 w3 w4 : Option D), ρ = [some (.ref r), some (.ref p), w2, w3, w4] ∧ Mks ((rows.take i).flatMap rowS) mk ∧ Held M Js ((p, .lst (mk.map mkD)) :: L)) ⟨[], _, _, _, rfl, ⟨by simp, Nat.le_refl _, by simp⟩, H⟩ (fun N i d ρ M hd hI hN => ?_) (fun ρ M hI => ?_)
  · obtain ⟨mk, w2, w3, w4, rfl, hk, H⟩ := hI
    rw [List.getElem?_map] at hd
    obtain ⟨ms, hms, rfl⟩ := Option.map_eq_some_iff.mp hd
    obtain ⟨ml, mo⟩ := ho ms (List.mem_of_getElem? hms)
    have dl : ((rows.take i).flatMap rowS).length ≤ 2000 := by
      have := rowsS_len (rows := rows.take i) fun x hx => (ho x (List.mem_of_mem_take hx)).1
      rw [List.length_take] at this
      omega
    refine ⟨H.get (List.mem_cons_of_mem _ hr), ?_⟩
    have nx := fm_snoc rowS hms
    generalize (rows.take i).flatMap rowS = done at hk dl nx
    walk_at "e"
    walk_at "s"
    refine for_each (fun j ρ M => ∃ (mk : List (Str × Int)) (w3 w4 : Option D), ρ = [some (.ref r), some (.ref p), some (.tup (ms.map Mo.d)), w3, w4] ∧ Mks (done ++ (ms.take j).flatMap moS) mk ∧ Held M Js ((p, .lst (mk.map mkD)) :: L)) ⟨mk, _, _, rfl, by simpa using hk, H⟩ (fun N2 j d ρ M hd hI hN2 => ?_) (fun ρ M hI => ?_)
    · obtain ⟨mk, w3, w4, rfl, hk, H⟩ := hI
      rw [List.getElem?_map] at hd
      obtain ⟨m, hm, rfl⟩ := Option.map_eq_some_iff.mp hd
      have om := mo m (List.mem_of_getElem? hm)
      have o1 := om.l0
      have o2 := om.lh
      have o3 := om.h1
      have dl2 : (done ++ (ms.take j).flatMap moS).length ≤ 4000 := by
        have := rowS_len (ms.take j)
        unfold rowS at this
        rw [List.length_append, this, List.length_take]
        omega
      have nx2 : done ++ (ms.take (j + 1)).flatMap moS = done ++ (ms.take j).flatMap moS ++ moS m := by rw [fm_snoc moS hm, List.append_assoc]
      generalize done ++ (ms.take j).flatMap moS = d2 at hk dl2 nx2
      refine ⟨trivial, ?_⟩
      rw [mo_d]
      walk_at "e"
      walk_at "s"
      refine h_new H (Nat.le_of_ble_eq_true rfl) fun q M H => ?_
      walk_at "e"
      refine for_each (fun k ρ M => ∃ (mk : List (Str × Int)) (w4 : Option D), ρ = [some (.ref r), some (.ref p), some (.tup (ms.map Mo.d)), some (.tup [.str m.z, .int m.l, .int m.h, .int m.g]), w4] ∧ Mks (d2 ++ (moS m).take k) mk ∧ Held M Js ((q, .lst [.int m.l, .int (m.h + 1)]) :: (p, .lst (mk.map mkD)) :: L)) ⟨mk, _, rfl, by simpa using hk, H⟩ (fun N3 k d ρ M hd hI hN3 => ?_) (fun ρ M hI => ?_)
      · obtain ⟨mk, w4, rfl, hk, H⟩ := hI
        refine ⟨H.get (by walk_at "m"), ?_⟩
        obtain ⟨v, rfl, hv⟩ : ∃ v, d = .int v ∧ (moS m)[k]? = some (m.z, v) := by
          match k, hd with
          | 0, hd => cases hd; exact ⟨_, rfl, rfl⟩
          | 1, hd => cases hd; exact ⟨_, rfl, rfl⟩
          | k + 2, hd => cases hd
        have vo : mkOk (m.z, v) := by
          have := List.mem_of_getElem? hv
          simp only [moS, List.mem_cons, List.not_mem_nil, or_false] at this
          rcases this with e | e <;> (cases e; exact ⟨om.lab, by show 0 ≤ _ ∧ _ ≤ _; omega⟩)
        have dl3 := hk.len
        have dl4 : ((moS m).take k).length ≤ 2 := by rw [List.length_take]; exact Nat.min_le_right _ _
        rw [List.length_append] at dl3
        have nx3 : d2 ++ (moS m).take (k + 1) = d2 ++ (moS m).take k ++ [(m.z, v)] := by rw [tk_snoc hv, List.append_assoc]
        have mok : ∀ y ∈ mk, mkOk y := fun y hy => hk.ok y ((hk.mem y).mp hy).2
        walk_at "d"
        refine t_ite (fun e1 => ?_) (fun e1 => ?_)
        · walk_at "d"
          refine v_nin_ref (H.get (by walk_at "m")) (in_mk vo mok) ?_
          rw [show D.tup [.str m.z, .int v] = mkD (m.z, v) from rfl, mem_mk]
          refine t_ite (fun e2 => ?_) (fun e2 => ?_)
          · walk_at "d"
            refine h_appI 1 H rfl (by rw [List.length_map]; omega) fun M H => ?_
            exact hN3 _ _ ⟨mk ++ [(m.z, v)], _, rfl, by rw [nx3]; exact hk.add vo (of_decide_eq_true e1) (by simpa using e2), by rw [List.map_append]; exact H⟩
          · walk_at "d"
            exact hN3 _ _ ⟨mk, _, rfl, by rw [nx3]; exact hk.skip vo (.inr (by simpa using e2)), H⟩
        · refine t_if0 rfl ?_
          walk_at "d"
          exact hN3 _ _ ⟨mk, _, rfl, by rw [nx3]; exact hk.skip vo (.inl (of_decide_eq_false e1)), H⟩
      · obtain ⟨mk, w4, rfl, hk, H⟩ := hI
        refine ⟨H.get (by walk_at "m"), ?_⟩
        walk_at "d"
        exact hN2 _ _ ⟨mk, _, _, rfl, by rw [nx2]; exact hk, H.tail⟩
    · obtain ⟨mk, w3, w4, rfl, hk, H⟩ := hI
      rw [List.length_map, List.take_length] at hk
      refine ⟨trivial, ?_⟩
      walk_at "d"
      exact hN _ _ ⟨mk, _, _, _, rfl, by rw [nx]; exact hk, H⟩
  · obtain ⟨mk, w2, w3, w4, rfl, hk, H⟩ := hI
    rw [List.length_map, List.take_length] at hk
    refine ⟨H.get (List.mem_cons_of_mem _ hr), ?_⟩
    walk_at "d"
    refine h_sorted H List.mem_cons_self (.inr (.inr ⟨.str, [.int], fun d hd => ?_⟩)) fun ys y M hys _ H => ?_
    · obtain ⟨m, _, rfl⟩ := List.mem_map.mp hd
      exact ⟨_, rfl, .cons ⟨_, rfl⟩ (.cons ⟨_, rfl⟩ .nil)⟩
    obtain ⟨mk', p1, rfl⟩ := perm_map_inv hys mk rfl
    exact k y mk' M (fun x => by rw [p1.mem_iff]; exact hk.mem x) H.tail2
end TM
/-! TMt: the law's judge of machines says yes. -/
namespace TM
open PySem DL L2 LW GR K22
-- where it stands in the row of things held
local macro_rules | `(tactic| walk_at "m") => `(tactic| first
  | assumption
  | exact List.mem_cons_self
  | (refine List.mem_cons_of_mem _ ?_; walk_at "m"))
-- what the heap holds at a place
local macro_rules | `(tactic| walk_at "h") => `(tactic| first
  | assumption
  | exact mup_same
  | exact Held.get (by assumption) (by walk_at "m")
  | (refine (mup_ne ?_).trans ?_ <;> first | assumption | (apply Ne.symm; assumption) | walk_at "h"))
-- small facts of numbers
local macro_rules | `(tactic| walk_at "n") => `(tactic| first
  | assumption
  | omega
  | decide
  | (exact CMul.r (by decide))
  | (exact CMul.l (by decide))
  | (refine ⟨?_, ?_⟩ <;> first | assumption | omega | decide))
-- lengths
local macro_rules | `(tactic| walk_at "l") => `(tactic| first
  | assumption
  | (rw [sizeLine_eq]; first | omega | decide | (simp; done) | (simp; omega) | decide +kernel))
-- one step
local macro_rules | `(tactic| walk_at "e1") => `(tactic| first
  | with_reducible refine t_nil ?_
  | ((with_reducible refine' t_var ?s ?_); (case s => first | exact rfl | assumption))
  | with_reducible refine t_c ?_
  | with_reducible refine t_bin ?_
  | with_reducible refine t_if ?_
  | with_reducible refine t_asg ?_
  | ((with_reducible refine' t_gN' ?e ?_); (case e => ((try simp only [List.set_cons_zero, List.set_cons_succ, startD, List.map_cons, List.map_nil, List.length_cons, List.length_nil, Nat.reduceAdd, Nat.reduceSub, List.replicate, List.cons_append, List.nil_append]); exact rfl)))
  | with_reducible refine t_ret ?_
  | with_reducible refine t_exp ?_
  | with_reducible refine t_bcmp ?_
  | with_reducible refine t_band ?_
  | with_reducible refine t_bor ?_
  | with_reducible refine t_bnot ?_
  | with_reducible refine t_btru ?_
  | with_reducible refine t_byes ?_
  | with_reducible refine t_an ?_
  | with_reducible refine t_ac ?_
  | with_reducible refine t_fn ?_
  | with_reducible refine t_call ?_
  | with_reducible refine t_cmp ?_
  | with_reducible refine t_and ?_
  | with_reducible refine t_or ?_
  | with_reducible refine t_not ?_
  | with_reducible refine t_ife ?_
  | with_reducible refine t_tupN ?_
  | ((with_reducible refine v_newT ?l ?_); (case l => exact Nat.le_of_ble_eq_true rfl))
  | with_reducible refine t_lstN ?_
  | with_reducible refine t_isi ?_
  | with_reducible refine t_sl ?_
  | with_reducible refine t_o0 ?_
  | with_reducible refine t_o1 ?_
  | with_reducible refine t_un ?_
  | with_reducible refine t_mt ?_
  | with_reducible refine t_gS ?_
  | with_reducible refine t_gsC ?_
  | with_reducible refine t_gsN ?_
  | ((with_reducible refine t_gT ?s ?_); (case s => first | assumption | exact rfl))
  | with_reducible refine t_retN ?_
  | with_reducible refine t_brk ?_
  | with_reducible refine t_cnt ?_
  | ((with_reducible refine' t_aug ?s ?_); (case s => first | exact rfl | assumption))
  | with_reducible refine t_for ?_
  | with_reducible refine t_seqi ?_
  | with_reducible refine t_rg1 ?_
  | with_reducible refine t_rg2 ?_
  | with_reducible refine t_lc ?_
  | with_reducible refine v_tru_bl ?_
  | with_reducible refine v_tru_int ?_
  | with_reducible refine v_tru_non ?_
  | with_reducible refine v_tru_tup ?_
  | with_reducible refine v_add_int ?_
  | ((with_reducible refine v_add_str ?l ?_); (case l => walk_at "l"))
  | ((with_reducible refine v_add_tup ?l ?_); (case l => walk_at "l"))
  | with_reducible refine v_iadd_int ?_
  | with_reducible refine v_sub ?_
  | ((with_reducible refine v_mul ?c ?_); (case c => walk_at "n"))
  | ((with_reducible refine v_div ?c ?_); (case c => walk_at "n"))
  | ((with_reducible refine v_mod ?c ?_); (case c => walk_at "n"))
  | ((with_reducible refine v_pow ?c ?_); (case c => exact ⟨by decide, by decide, by decide⟩))
  | with_reducible refine v_neg ?_
  | with_reducible exact trivial
  | with_reducible refine v_eq_int ?_
  | with_reducible refine v_eq_str ?_
  | with_reducible refine v_eq_bl ?_
  | with_reducible refine v_ne_int ?_
  | with_reducible refine v_ne_str ?_
  | with_reducible refine v_ne_bl ?_
  | with_reducible refine v_lt ?_
  | with_reducible refine v_lt_str ?_
  | with_reducible refine t_ks ?_
  | with_reducible refine t_rv ?_
  | with_reducible refine v_seq_ktp ?_
  | with_reducible refine v_le ?_
  | with_reducible refine v_gt ?_
  | with_reducible refine v_ge ?_
  | with_reducible refine v_isi_non ?_
  | with_reducible refine v_isi_bl ?_
  | with_reducible refine v_isi_int ?_
  | with_reducible refine v_isi_str ?_
  | with_reducible refine v_isi_tup ?_
  | with_reducible refine v_in_str ?_
  | with_reducible refine v_nin_str ?_
  | with_reducible refine v_len_tup ?_
  | with_reducible refine v_len_rol ?_
  | with_reducible refine v_len_ktp ?_
  | with_reducible refine v_tru_ktp ?_
  | with_reducible refine v_isi_ktp ?_
  | with_reducible refine v_tuple_ktp ?_
  | with_reducible refine t_zip ?_
  | with_reducible refine v_zip_tt ?_
  | with_reducible refine v_zip_tk ?_
  | with_reducible refine v_zip_kt ?_
  | with_reducible refine v_zip_kk ?_
  | ((with_reducible refine' v_zip_ll ?e ?f ?_); (case e => walk_at "h"); (case f => walk_at "h"))
  | with_reducible refine t_ix ?_
  | ((with_reducible refine' ⟨seqK_ref ?e, ?_⟩); (case e => walk_at "h"))
  | with_reducible refine t_lr ?_
  | ((with_reducible refine' v_ix_ktp ?f ?_); (case f => first | assumption | exact rfl))
  | ((with_reducible refine t_gTk ?s ?_); (case s => first | assumption | exact rfl))
  | ((with_reducible refine v_len_str ?l ?_); (case l => walk_at "l"))
  | ((with_reducible refine' v_len_ref ?e ?_); (case e => walk_at "h"))
  | with_reducible refine v_int_int ?_
  | with_reducible refine v_int_bl ?_
  | with_reducible refine v_max ?_
  | with_reducible refine v_min ?_
  | with_reducible refine v_tuple_tup ?_
  | ((with_reducible refine' v_tuple_ref ?e ?_); (case e => walk_at "h"))
  | ((with_reducible refine' v_ix_ref ?e ?f ?_); (case e => walk_at "h"); (case f => first | assumption | exact rfl))
  | ((with_reducible refine' v_ix_tup ?f ?_); (case f => first | assumption | exact rfl))
  | ((with_reducible refine v_sl_str ?l ?_); (case l => walk_at "l"))
  | with_reducible refine v_sl_tup ?_
  | with_reducible refine v_seq_tup ?_
  | with_reducible refine v_seq_str ?_
  | with_reducible refine v_seq_rol ?_
  | ((with_reducible refine' v_seq_ref ?e ?_); (case e => walk_at "h"))
  | ((with_reducible refine' ⟨v_ty_ref ?e, ?_⟩); (case e => walk_at "h")))
local macro_rules | `(tactic| walk_at "d1") => `(tactic| first | with_reducible refine t_seq ?_ | walk_at "e1")
local macro_rules | `(tactic| walk_at "d") => `(tactic| repeat walk_at "d1")
-- one statement
local macro_rules | `(tactic| walk_at "e") => `(tactic| ((repeat walk_at "e1"); try (with_reducible show sSeq _ _ _ _ _)))
local macro_rules | `(tactic| walk_at "s") => `(tactic| ((with_reducible refine t_seq ?_); walk_at "e"))
-- a drawn thing's small facts
local macro_rules | `(tactic| walk_at "gi") => `(tactic| first
  | exact gi_c trivial
  | exact gi_c ⟨_, rfl, by decide, by decide⟩
  | exact gi_c (show _ ≤ _ by decide)
  | exact gi_c (show _ ≤ _ by decide +kernel)
  | exact gi_v rfl trivial)
local macro_rules | `(tactic| walk_at "ga") => `(tactic| ((repeat (first | exact ga_nil | refine ga_cons2 ?_ ?_)); all_goals (try walk_at "gi")))
theorem moveB_ok {many : Int} {m : Mo} (h : m.ok many) : moveB many (Mo.d m) = true := by
  have h1 := h.l0
  have h2 := h.lh
  have h3 := h.h1
  have h4 := h.g0
  have h5 := h.g1
  show (labB (.str m.z) && (decide (0 ≤ m.l) && decide (m.l ≤ m.h) && decide (m.h ≤ 999999)) && (decide (0 ≤ m.g) && decide (m.g < many))) = true
  rw [show labB (.str m.z) = true from h.lab]
  simp [h1, h2, h3, h4, h5]
theorem movesB_row {many : Int} {ms : List Mo} (h : Row many ms) (n : ms ≠ []) : movesB many (.tup (ms.map Mo.d)) = true := by
  have a : (!(ms.map Mo.d).isEmpty) = true := by
    cases ms with
    | nil => exact absurd rfl n
    | cons m r => rfl
  have b : (ms.map Mo.d).all (moveB many) = true := by
    rw [List.all_map, List.all_eq_true]
    exact fun m hm => moveB_ok (h.ok m hm)
  have c : rowB (ms.map Mo.d) = true := rowB_iff.mpr fun i x y e1 e2 => by
    rw [List.getElem?_map] at e1 e2
    obtain ⟨a, ha, rfl⟩ := Option.map_eq_some_iff.mp e1
    obtain ⟨b, hb, rfl⟩ := Option.map_eq_some_iff.mp e2
    have h1 := (List.getElem?_eq_some_iff.mp ha).1
    have h2 := (List.getElem?_eq_some_iff.mp hb).1
    have lt : a.lt b := by
      have := List.pairwise_iff_getElem.mp h.asc i (i + 1) h1 h2 (Nat.lt_succ_self i)
      rw [(List.getElem?_eq_some_iff.mp ha).2, (List.getElem?_eq_some_iff.mp hb).2] at this
      exact this
    show (!decide (b.z.cps.toList < a.z.cps.toList) && !((b.z == a.z) && decide (b.l ≤ a.h))) = true
    rcases lt with lt | ⟨e, lt⟩
    · have n1 : ¬ b.z.cps.toList < a.z.cps.toList := ltS_asymm lt
      have n2 : (b.z == a.z) = false := beq_eq_false_iff_ne.mpr fun e => by rw [e] at lt; exact LW.ltS_irr lt
      rw [n2, decide_eq_false n1]; rfl
    · have n1 : ¬ b.z.cps.toList < a.z.cps.toList := by rw [e]; exact List.lt_irrefl _
      rw [decide_eq_false n1, decide_eq_false (show ¬ b.l ≤ a.h by omega), Bool.and_false]; rfl
  show (!(ms.map Mo.d).isEmpty && (ms.map Mo.d).all (moveB many) && rowB (ms.map Mo.d)) = true
  rw [a, b, c]; rfl
theorem good_row {many : Int} {ms : List Mo} (h : Row many ms) (l : ms.length ≤ 1000) : good 1000 (.tup (ms.map Mo.d)) := good_tup.mpr ⟨by rw [List.length_map]; exact l, fun d hd => by
  obtain ⟨m, hm, rfl⟩ := List.mem_map.mp hd
  have := (nm_len (lab_nm (h.ok m hm).lab)).2
  refine good_tup.mpr ⟨Nat.le_of_ble_eq_true rfl, fun x hx => ?_⟩
  simp only [List.mem_cons, List.not_mem_nil, or_false] at hx
  rcases hx with rfl | rfl | rfl | rfl
  · exact Nat.le_trans this (by decide)
  all_goals trivial⟩

def sp_is_machine : DSp := fun ds M P => ∃ (Js : List Addr) (L : List (Addr × MO)) (n : Nat) (sts : Sts), ds = [machD sts] ∧ Held M Js L ∧ MaOk n sts ∧ ∀ M', Held M' Js L → P (.bl true) M'
theorem ok_is_machine (ds : List D) (M : Mh) (P : PQ) (h : sp_is_machine ds M P) : b_is_machine sp_is_moves sp_is_label { nx := fun _ M' => P .non M', rt := P } (startD 2 ds) M := by
  obtain ⟨Js, L, n, sts, rfl, H, hm, k⟩ := h
  have hml := hm.le
  have hsl := hm.len
  have hsp := hm.pos
  have sl : (sts.map stD).length = n := by rw [List.length_map]; exact hsl
  unfold b_is_machine machD
  walk_at "d"
  refine t_if0 (by decide +kernel) ?_
  walk_at "d"
  rw [sl]
  refine t_if0 (by simp; omega) ?_
  walk_at "d"
  refine for_each (fun i ρ M => ∃ (w1 : Option D), ρ = [some (.tup (sts.map stD)), w1] ∧ Held M Js L) ⟨_, rfl, H⟩ (fun N i d ρ M hd hI hN => ?_) (fun ρ M hI => ?_)
  · obtain ⟨w1, rfl, H⟩ := hI
    rw [List.getElem?_map] at hd
    obtain ⟨o, hs, rfl⟩ := Option.map_eq_some_iff.mp hd
    refine ⟨trivial, ?_⟩
    cases o with
    | none =>
      rw [st_none]
      walk_at "d"
      refine t_if0 (by decide +kernel) ?_
      walk_at "d"
      refine v_nin_tup (.inl ⟨rfl, by decide⟩) ?_
      refine t_if0 (by simp [memD, deq_int]) ?_
      walk_at "d"
      refine t_if0 (by decide +kernel) ?_
      walk_at "d"
      refine t_if1 (by decide) ?_
      walk_at "d"
      refine t_if0 (by decide +kernel) ?_
      walk_at "d"
      refine t_if0 (by decide) ?_
      walk_at "d"
      exact hN _ _ ⟨_, rfl, H⟩
    | some s =>
      have q := hm.st s (List.mem_of_getElem? hs)
      have gw : good 1000 (.str s.who) := Nat.le_trans (nm_len (lab_nm q.who)).2 (by decide)
      rw [st_some]
      walk_at "d"
      refine t_if0 (by decide +kernel) ?_
      walk_at "d"
      refine v_nin_tup (.inl ⟨rfl, by decide⟩) ?_
      refine t_if0 (by simp [memD, deq_int]) ?_
      walk_at "d"
      refine t_if0 (by decide +kernel) ?_
      walk_at "d"
      refine t_if0 (by rfl) ?_
      refine t_if0 rfl ?_
      walk_at "d"
      refine t_if1 (by rfl) ?_
      walk_at "d"
      refine v_nin_tup (.inl ⟨rfl, by decide⟩) ?_
      refine t_if0 (by rcases q.kind with e | e <;> (rw [e]; simp [memD, deq_str])) ?_
      walk_at "d"
      refine ⟨rfl, _, rfl, gw, fun M' x => ?_⟩
      have H := H.ext x
      rw [show labB (.str s.who) = true from q.who]
      walk_at "d"
      refine t_if0 rfl ?_
      walk_at "d"
      rw [sl]
      refine ⟨rfl, _, _, rfl, good_row q.row (by have := q.len; omega), fun M' x => ?_⟩
      have H := H.ext x
      rw [movesB_row q.row q.ne]
      walk_at "d"
      refine t_if0 rfl ?_
      walk_at "d"
      exact hN _ _ ⟨_, rfl, H⟩
  · obtain ⟨w1, rfl, H⟩ := hI
    refine ⟨trivial, ?_⟩
    walk_at "d"
    exact k _ H
end TM
/-! TMu: names, spans and moves as the laws of machines draw them. -/
namespace TM
open PySem DL L2 LW GR K22
-- where it stands in the row of things held
local macro_rules | `(tactic| walk_at "m") => `(tactic| first
  | assumption
  | exact List.mem_cons_self
  | (refine List.mem_cons_of_mem _ ?_; walk_at "m"))
-- what the heap holds at a place
local macro_rules | `(tactic| walk_at "h") => `(tactic| first
  | assumption
  | exact mup_same
  | exact Held.get (by assumption) (by walk_at "m")
  | (refine (mup_ne ?_).trans ?_ <;> first | assumption | (apply Ne.symm; assumption) | walk_at "h"))
-- small facts of numbers
local macro_rules | `(tactic| walk_at "n") => `(tactic| first
  | assumption
  | omega
  | decide
  | (exact CMul.r (by decide))
  | (exact CMul.l (by decide))
  | (refine ⟨?_, ?_⟩ <;> first | assumption | omega | decide))
-- lengths
local macro_rules | `(tactic| walk_at "l") => `(tactic| first
  | assumption
  | (rw [sizeLine_eq]; first | omega | decide | (simp; done) | (simp; omega) | decide +kernel))
-- one step
local macro_rules | `(tactic| walk_at "e1") => `(tactic| first
  | with_reducible refine t_nil ?_
  | ((with_reducible refine' t_var ?s ?_); (case s => first | exact rfl | assumption))
  | with_reducible refine t_c ?_
  | with_reducible refine t_bin ?_
  | with_reducible refine t_if ?_
  | with_reducible refine t_asg ?_
  | ((with_reducible refine' t_gN' ?e ?_); (case e => ((try simp only [List.set_cons_zero, List.set_cons_succ, startD, List.map_cons, List.map_nil, List.length_cons, List.length_nil, Nat.reduceAdd, Nat.reduceSub, List.replicate, List.cons_append, List.nil_append]); exact rfl)))
  | with_reducible refine t_ret ?_
  | with_reducible refine t_exp ?_
  | with_reducible refine t_bcmp ?_
  | with_reducible refine t_band ?_
  | with_reducible refine t_bor ?_
  | with_reducible refine t_bnot ?_
  | with_reducible refine t_btru ?_
  | with_reducible refine t_byes ?_
  | with_reducible refine t_an ?_
  | with_reducible refine t_ac ?_
  | with_reducible refine t_fn ?_
  | with_reducible refine t_call ?_
  | with_reducible refine t_cmp ?_
  | with_reducible refine t_and ?_
  | with_reducible refine t_or ?_
  | with_reducible refine t_not ?_
  | with_reducible refine t_ife ?_
  | with_reducible refine t_tupN ?_
  | ((with_reducible refine v_newT ?l ?_); (case l => exact Nat.le_of_ble_eq_true rfl))
  | with_reducible refine t_lstN ?_
  | with_reducible refine t_isi ?_
  | with_reducible refine t_sl ?_
  | with_reducible refine t_o0 ?_
  | with_reducible refine t_o1 ?_
  | with_reducible refine t_un ?_
  | with_reducible refine t_mt ?_
  | with_reducible refine t_gS ?_
  | with_reducible refine t_gsC ?_
  | with_reducible refine t_gsN ?_
  | ((with_reducible refine t_gT ?s ?_); (case s => first | assumption | exact rfl))
  | with_reducible refine t_retN ?_
  | with_reducible refine t_brk ?_
  | with_reducible refine t_cnt ?_
  | ((with_reducible refine' t_aug ?s ?_); (case s => first | exact rfl | assumption))
  | with_reducible refine t_for ?_
  | with_reducible refine t_seqi ?_
  | with_reducible refine t_rg1 ?_
  | with_reducible refine t_rg2 ?_
  | with_reducible refine t_lc ?_
  | with_reducible refine v_tru_bl ?_
  | with_reducible refine v_tru_int ?_
  | with_reducible refine v_tru_non ?_
  | with_reducible refine v_tru_tup ?_
  | with_reducible refine v_add_int ?_
  | ((with_reducible refine v_add_str ?l ?_); (case l => walk_at "l"))
  | ((with_reducible refine v_add_tup ?l ?_); (case l => walk_at "l"))
  | with_reducible refine v_iadd_int ?_
  | with_reducible refine v_sub ?_
  | ((with_reducible refine v_mul ?c ?_); (case c => walk_at "n"))
  | ((with_reducible refine v_div ?c ?_); (case c => walk_at "n"))
  | ((with_reducible refine v_mod ?c ?_); (case c => walk_at "n"))
  | ((with_reducible refine v_pow ?c ?_); (case c => exact ⟨by decide, by decide, by decide⟩))
  | with_reducible refine v_neg ?_
  | with_reducible exact trivial
  | with_reducible refine v_eq_int ?_
  | with_reducible refine v_eq_str ?_
  | with_reducible refine v_eq_bl ?_
  | with_reducible refine v_ne_int ?_
  | with_reducible refine v_ne_str ?_
  | with_reducible refine v_ne_bl ?_
  | with_reducible refine v_lt ?_
  | with_reducible refine v_lt_str ?_
  | with_reducible refine t_ks ?_
  | with_reducible refine t_rv ?_
  | with_reducible refine v_seq_ktp ?_
  | with_reducible refine v_le ?_
  | with_reducible refine v_gt ?_
  | with_reducible refine v_ge ?_
  | with_reducible refine v_isi_non ?_
  | with_reducible refine v_isi_bl ?_
  | with_reducible refine v_isi_int ?_
  | with_reducible refine v_isi_str ?_
  | with_reducible refine v_isi_tup ?_
  | with_reducible refine v_in_str ?_
  | with_reducible refine v_nin_str ?_
  | with_reducible refine v_len_tup ?_
  | with_reducible refine v_len_rol ?_
  | with_reducible refine v_len_ktp ?_
  | with_reducible refine v_tru_ktp ?_
  | with_reducible refine v_isi_ktp ?_
  | with_reducible refine v_tuple_ktp ?_
  | with_reducible refine t_zip ?_
  | with_reducible refine v_zip_tt ?_
  | with_reducible refine v_zip_tk ?_
  | with_reducible refine v_zip_kt ?_
  | with_reducible refine v_zip_kk ?_
  | ((with_reducible refine' v_zip_ll ?e ?f ?_); (case e => walk_at "h"); (case f => walk_at "h"))
  | with_reducible refine t_ix ?_
  | ((with_reducible refine' ⟨seqK_ref ?e, ?_⟩); (case e => walk_at "h"))
  | with_reducible refine t_lr ?_
  | ((with_reducible refine' v_ix_ktp ?f ?_); (case f => first | assumption | exact rfl))
  | ((with_reducible refine t_gTk ?s ?_); (case s => first | assumption | exact rfl))
  | ((with_reducible refine v_len_str ?l ?_); (case l => walk_at "l"))
  | ((with_reducible refine' v_len_ref ?e ?_); (case e => walk_at "h"))
  | with_reducible refine v_int_int ?_
  | with_reducible refine v_int_bl ?_
  | with_reducible refine v_max ?_
  | with_reducible refine v_min ?_
  | with_reducible refine v_tuple_tup ?_
  | ((with_reducible refine' v_tuple_ref ?e ?_); (case e => walk_at "h"))
  | ((with_reducible refine' v_ix_ref ?e ?f ?_); (case e => walk_at "h"); (case f => first | assumption | exact rfl))
  | ((with_reducible refine' v_ix_tup ?f ?_); (case f => first | assumption | exact rfl))
  | ((with_reducible refine v_sl_str ?l ?_); (case l => walk_at "l"))
  | with_reducible refine v_sl_tup ?_
  | with_reducible refine v_seq_tup ?_
  | with_reducible refine v_seq_str ?_
  | with_reducible refine v_seq_rol ?_
  | ((with_reducible refine' v_seq_ref ?e ?_); (case e => walk_at "h"))
  | ((with_reducible refine' ⟨v_ty_ref ?e, ?_⟩); (case e => walk_at "h")))
local macro_rules | `(tactic| walk_at "d1") => `(tactic| first | with_reducible refine t_seq ?_ | walk_at "e1")
local macro_rules | `(tactic| walk_at "d") => `(tactic| repeat walk_at "d1")
-- one statement
local macro_rules | `(tactic| walk_at "e") => `(tactic| ((repeat walk_at "e1"); try (with_reducible show sSeq _ _ _ _ _)))
local macro_rules | `(tactic| walk_at "s") => `(tactic| ((with_reducible refine t_seq ?_); walk_at "e"))
-- a drawn thing's small facts
local macro_rules | `(tactic| walk_at "gi") => `(tactic| first
  | exact gi_c trivial
  | exact gi_c ⟨_, rfl, by decide, by decide⟩
  | exact gi_c (show _ ≤ _ by decide)
  | exact gi_c (show _ ≤ _ by decide +kernel)
  | exact gi_v rfl trivial)
local macro_rules | `(tactic| walk_at "ga") => `(tactic| ((repeat (first | exact ga_nil | refine ga_cons2 ?_ ?_)); all_goals (try walk_at "gi")))
section
variable {M : Mh} {Js : List Addr} {L : List (Addr × MO)}
/-- a name with the figure i in it -/
structure NmI (i : Nat) (z : Str) : Prop where
  lab : lab z
  fig : ∀ c ∈ z.cps.toList, figB c = true → c = 48 + i
  has : 48 + i ∈ z.cps.toList
theorem nmi_ne {i k : Nat} {z y : Str} (hi : i ≤ 9) (h : NmI i z) (h2 : NmI k y) (e : z = y) : i = k := by
  subst e
  have f : figB (48 + i) = true := by
    have : ∀ i, i ≤ 9 → figB (48 + i) = true := by decide +kernel
    exact this i hi
  have := h2.fig _ h.has f
  omega
def sp_name : DSp := fun ds M P => ∃ (Js : List Addr) (L : List (Addr × MO)) (j : Addr) (i : Nat), ds = [.ref j, .int i] ∧ Held M Js L ∧ j ∈ Js ∧ i ≤ 9 ∧ ∀ z M', NmI i z → Held M' Js L → P (.str z) M'
def LETs (w : Str) : Prop := w.cps.toList ≠ [] ∧ ∀ c ∈ w.cps.toList, letB c = true
theorem lets_snoc {w : Str} {c : Nat} (h : LETs w) (hc : letB c = true) : LETs (w ++ (⟨#[c]⟩ : Str)) := by
  unfold LETs at *
  rw [lit_app]
  refine ⟨by simp, fun x hx => ?_⟩
  rcases List.mem_append.mp hx with hx | hx
  · exact h.2 x hx
  · simp at hx; rw [hx]; exact hc
theorem fig_of (i : Nat) (h : i ≤ 9) : (Str.ofString (toString (i : Int))).cps.toList = [48 + i] := by
  have : ∀ i : Nat, i ≤ 9 → (Str.ofString (toString (i : Int))).cps.toList = [48 + i] := by decide +kernel
  exact this i h
theorem let_fig {c : Nat} (h : letB c = true) : figB c = false := by
  unfold letB at h
  have h := of_decide_eq_true h
  have a : LET.cps.toList.all (fun c => !figB c) = true := by decide +kernel
  have := List.all_eq_true.mp a c h
  simpa using this
theorem nmi_of {i : Nat} (hi : i ≤ 9) {a b f : List Nat} (ha : a ≠ []) (hl : ∀ c ∈ a ++ b, letB c = true) (l : (a ++ b).length ≤ 7) (z : Str) (hz : z.cps.toList = a ++ [48 + i] ++ b) : NmI i z := by
  have f : figB (48 + i) = true := by
    have : ∀ i, i ≤ 9 → figB (48 + i) = true := by decide +kernel
    exact this i hi
  have sg : ∀ c ∈ a ++ [48 + i] ++ b, sgnB c = true := fun c hc => by
    rw [List.append_assoc] at hc
    rcases List.mem_append.mp hc with hc | hc
    · unfold sgnB; rw [hl c (List.mem_append_left _ hc)]; rfl
    · rcases List.mem_append.mp hc with hc | hc
      · rw [List.mem_singleton.mp hc]; unfold sgnB; rw [f, Bool.or_true]
      · unfold sgnB; rw [hl c (List.mem_append_right _ hc)]; rfl
  have fg : ∀ c ∈ a ++ [48 + i] ++ b, figB c = true → c = 48 + i := fun c hc h => by
    rw [List.append_assoc] at hc
    rcases List.mem_append.mp hc with hc | hc
    · rw [let_fig (hl c (List.mem_append_left _ hc))] at h; cases h
    · rcases List.mem_append.mp hc with hc | hc
      · exact List.mem_singleton.mp hc
      · rw [let_fig (hl c (List.mem_append_right _ hc))] at h; cases h
  refine ⟨?_, by rw [hz]; exact fg, by rw [hz]; simp⟩
  have nm1 : nameB (.str z) = true := by
    show nameL z.cps.toList = true
    rw [hz]
    cases a with
    | nil => exact absurd rfl ha
    | cons c r =>
      rw [List.cons_append, List.cons_append, nameL_cons, Bool.and_eq_true, Bool.and_eq_true]
      refine ⟨⟨decide_eq_true ?_, hl c (by simp)⟩, List.all_eq_true.mpr sg⟩
      simp at l ⊢
      omega
  unfold lab labB
  rw [nm1, Bool.true_and]
  have no : memD (.str z) RES = false := by
    cases q : memD (.str z) RES with
    | false => rfl
    | true =>
      exfalso
      unfold memD at q
      simp only [RES, List.any_cons, List.any_nil, deq_str, Bool.or_eq_true, beq_iff_eq, Bool.or_false] at q
      have m : 48 + i ∈ z.cps.toList := by rw [hz]; simp
      have key : ∀ w : Str, w.cps.toList.all (fun c => !figB c) = true → w = z → False := fun w hw e => by
        have := List.all_eq_true.mp hw (48 + i) (by rw [e]; exact m)
        rw [f] at this
        cases this
      rcases q with q | q | q | q | q | q | q | q | q | q | q <;> exact key _ (by decide +kernel) q
  rw [no]; rfl
theorem l26_let {x : Nat} (h : x ∈ LX.L26.cps.toList) : letB x = true := decide_eq_true h
theorem sl_len (l : List Nat) : (st l).length = l.length := by rw [len_lit, st_cps]
theorem ok_name (ds : List D) (M : Mh) (P : PQ) (h : sp_name ds M P) : b_name sp_pick { nx := fun _ M' => P .non M', rt := P } (startD 6 ds) M := by
  obtain ⟨Js, L, j, ix, rfl, H, hj, hi, k⟩ := h
  have sm : LX.L26.cps.toList.length = 26 := by decide +kernel
  have sm2 : ((("abcdefghijklmnopqrstuvwxyz" : String) : Str)).length = 26 := by decide +kernel
  have sm3 : LX.L26.length = 26 := sm2
  unfold b_name
  walk_at "s"
  walk_at "s"
  refine h_pick H hj (by decide) fun c M c0 c1 H => ?_
  obtain ⟨x, g1, g2, g3⟩ := atI_mem (ds := LX.L26.cps.toList) c0 (by rw [sm]; omega)
  refine v_ix_str (LX.sz (by omega)) g1 ?_
  walk_at "e"
  refine t_seq (t_for (t_rg1 (t_ac ?_)))
  refine h_gi H hj (gi_menu (n := 5) (T := IsI 0 6) (h := 4) ?_ ?_ (by decide) (LX.sz (by decide))) fun d M t2 H => ?_
  · walk_at "ga"
  · exact gi_pick (m := 5) (h := 5) rfl (gi_c ⟨_, rfl, by decide, by decide⟩) (by decide) (by decide)
  obtain ⟨s, rfl, s0, s1⟩ := t2
  refine t_an ⟨by omega, ?_⟩
  refine for_each (fun i ρ M => ∃ (l : List Nat) (w4 : Option D), ρ = [some (.ref j), some (.int ix), some (.str LX.L26), some (.str (st l)), w4, none] ∧ l.length = 1 + i ∧ (∀ c ∈ l, letB c = true) ∧ Held M Js L) ⟨[x], _, rfl, rfl, fun c hc => by rw [List.mem_singleton.mp hc]; exact l26_let g2, H⟩ (fun N i d ρ M hd hI hN => ?_) (fun ρ M hI => ?_)
  · obtain ⟨l, w4, rfl, hw, hs, H⟩ := hI
    obtain ⟨rfl, hlt⟩ := LX.rget hd
    refine ⟨trivial, ?_⟩
    walk_at "d"
    refine h_pick H hj (by decide) fun c M c0 c1 H => ?_
    obtain ⟨y, g1, g2, _⟩ := atI_mem (ds := LX.L26.cps.toList) c0 (by rw [sm]; omega)
    refine v_ix_str (LX.sz (by omega)) g1 ?_
    have ly : (⟨#[y]⟩ : Str).length = 1 := rfl
    refine v_add_str (LX.sz (by rw [sl_len, ly]; omega)) ?_
    walk_at "d"
    refine hN _ _ ⟨l ++ [y], _, by rw [show (st l ++ (⟨#[y]⟩ : Str)) = st (l ++ [y]) from st_app l [y]], by rw [List.length_append, hw]; rfl, fun c hc => ?_, H⟩
    rcases List.mem_append.mp hc with hc | hc
    · exact hs c hc
    · rw [List.mem_singleton.mp hc]; exact l26_let g2
  · obtain ⟨l, w4, rfl, hw, hs, H⟩ := hI
    rw [LX.rlen] at hw
    have wl := sl_len l
    refine ⟨trivial, ?_⟩
    walk_at "e"
    walk_at "s"
    refine h_pick H hj (by omega) fun c M c0 c1 H => ?_
    walk_at "e"
    obtain ⟨q1, q2⟩ := LX.str_small (show (0 : Int) ≤ ix by omega) (show (ix : Int) ≤ 999999 by omega)
    have ec : (1 + c : Int) = ((1 + c.toNat : Nat) : Int) := by omega
    rw [ec]
    have l1 := str_cut_len (st l) none (some ((1 + c.toNat : Nat) : Int))
    have l2 := str_cut_len (st l) (some ((1 + c.toNat : Nat) : Int)) none
    walk_at "d"
    refine ⟨q1, ?_⟩
    have e1 := str_app_len (cutS (st l) none (some ((1 + c.toNat : Nat) : Int))) (PySem.Str.ofString (toString (ix : Int)))
    refine v_add_str (LX.sz (by omega)) ?_
    walk_at "d"
    refine k _ _ ?_ H
    refine nmi_of (f := []) hi (a := l.take (1 + c.toNat)) (b := l.drop (1 + c.toNat)) (fun z => ?_) ?_ (by rw [List.take_append_drop]; omega) _ ?_
    · have := congrArg List.length z
      rw [List.length_take, List.length_nil] at this
      omega
    · rw [List.take_append_drop]; exact hs
    · rw [lit_app, lit_app, st_take, st_drop, st_cps, st_cps, fig_of ix hi]
def sp_names : DSp := fun ds M P => ∃ (Js : List Addr) (L : List (Addr × MO)) (j : Addr) (n : Nat), ds = [.ref j, .int n] ∧ Held M Js L ∧ j ∈ Js ∧ n ≤ 10 ∧ ∀ (p : Addr) (zs : List Str) M', zs.length = n → (∀ (i : Nat) z, zs[i]? = some z → NmI i z) → Held M' Js ((p, .lst (zs.map D.str)) :: L) → P (.ref p) M'
theorem ok_names (ds : List D) (M : Mh) (P : PQ) (h : sp_names ds M P) : b_names sp_name { nx := fun _ M' => P .non M', rt := P } (startD 3 ds) M := by
  obtain ⟨Js, L, j, n, rfl, H, hj, hn, k⟩ := h
  unfold b_names
  walk_at "d"
  refine ⟨by omega, ?_⟩
  refine h_lc (fun i acc => ∃ zs : List Str, acc = zs.map D.str ∧ zs.length = i ∧ ∀ (i : Nat) z, zs[i]? = some z → NmI i z) H (by rw [LX.rlen]; omega) ⟨[], rfl, rfl, by simp⟩ (fun _ _ => trivial) (fun R i d acc p M hd hI H kR => ?_) (fun p acc M hl hI H => ?_)
  · obtain ⟨zs, rfl, zl, hz⟩ := hI
    obtain ⟨rfl, hlt⟩ := LX.rget hd
    refine ⟨_, rfl, ?_⟩
    rw [Int.zero_add]
    walk_at "e"
    refine ⟨rfl, Js, _, j, i, rfl, H, hj, by omega, fun z M hq H => ?_⟩
    refine kR _ _ ⟨zs ++ [z], by rw [List.map_append]; rfl, by rw [List.length_append, zl]; rfl, fun i' y e => ?_⟩ H
    by_cases hi : i' < zs.length
    · rw [List.getElem?_append_left hi] at e
      exact hz i' y e
    · rw [List.getElem?_append_right (by omega)] at e
      have := (List.getElem?_eq_some_iff.mp e).1
      simp at this
      have e2 : i' = i := by omega
      subst e2
      rw [zl, Nat.sub_self] at e
      cases e
      exact hq
  · obtain ⟨zs, rfl, zl, hz⟩ := hI
    rw [LX.rlen, Int.toNat_natCast] at zl
    exact k p zs M zl hz H
end
end TM
/-! TMv: spans and moves as the laws of machines draw them. -/
namespace TM
open PySem DL L2 LW GR
-- where it stands in the row of things held
local macro_rules | `(tactic| walk_at "m") => `(tactic| first
  | assumption
  | exact List.mem_cons_self
  | (refine List.mem_cons_of_mem _ ?_; walk_at "m"))
-- what the heap holds at a place
local macro_rules | `(tactic| walk_at "h") => `(tactic| first
  | assumption
  | exact mup_same
  | exact Held.get (by assumption) (by walk_at "m")
  | (refine (mup_ne ?_).trans ?_ <;> first | assumption | (apply Ne.symm; assumption) | walk_at "h"))
-- small facts of numbers
local macro_rules | `(tactic| walk_at "n") => `(tactic| first
  | assumption
  | omega
  | decide
  | (exact CMul.r (by decide))
  | (exact CMul.l (by decide))
  | (refine ⟨?_, ?_⟩ <;> first | assumption | omega | decide))
-- lengths
local macro_rules | `(tactic| walk_at "l") => `(tactic| first
  | assumption
  | (rw [sizeLine_eq]; first | omega | decide | (simp; done) | (simp; omega) | decide +kernel))
-- one step
local macro_rules | `(tactic| walk_at "e1") => `(tactic| first
  | with_reducible refine t_nil ?_
  | ((with_reducible refine' t_var ?s ?_); (case s => first | exact rfl | assumption))
  | with_reducible refine t_c ?_
  | with_reducible refine t_bin ?_
  | with_reducible refine t_if ?_
  | with_reducible refine t_asg ?_
  | ((with_reducible refine' t_gN' ?e ?_); (case e => ((try simp only [List.set_cons_zero, List.set_cons_succ, startD, List.map_cons, List.map_nil, List.length_cons, List.length_nil, Nat.reduceAdd, Nat.reduceSub, List.replicate, List.cons_append, List.nil_append]); exact rfl)))
  | with_reducible refine t_ret ?_
  | with_reducible refine t_exp ?_
  | with_reducible refine t_bcmp ?_
  | with_reducible refine t_band ?_
  | with_reducible refine t_bor ?_
  | with_reducible refine t_bnot ?_
  | with_reducible refine t_btru ?_
  | with_reducible refine t_byes ?_
  | with_reducible refine t_an ?_
  | with_reducible refine t_ac ?_
  | with_reducible refine t_fn ?_
  | with_reducible refine t_call ?_
  | with_reducible refine t_cmp ?_
  | with_reducible refine t_and ?_
  | with_reducible refine t_or ?_
  | with_reducible refine t_not ?_
  | with_reducible refine t_ife ?_
  | with_reducible refine t_tupN ?_
  | ((with_reducible refine v_newT ?l ?_); (case l => exact Nat.le_of_ble_eq_true rfl))
  | with_reducible refine t_lstN ?_
  | with_reducible refine t_isi ?_
  | with_reducible refine t_sl ?_
  | with_reducible refine t_o0 ?_
  | with_reducible refine t_o1 ?_
  | with_reducible refine t_un ?_
  | with_reducible refine t_mt ?_
  | with_reducible refine t_gS ?_
  | with_reducible refine t_gsC ?_
  | with_reducible refine t_gsN ?_
  | ((with_reducible refine t_gT ?s ?_); (case s => first | assumption | exact rfl))
  | with_reducible refine t_retN ?_
  | with_reducible refine t_brk ?_
  | with_reducible refine t_cnt ?_
  | ((with_reducible refine' t_aug ?s ?_); (case s => first | exact rfl | assumption))
  | with_reducible refine t_for ?_
  | with_reducible refine t_seqi ?_
  | with_reducible refine t_rg1 ?_
  | with_reducible refine t_rg2 ?_
  | with_reducible refine t_lc ?_
  | with_reducible refine v_tru_bl ?_
  | with_reducible refine v_tru_int ?_
  | with_reducible refine v_tru_non ?_
  | with_reducible refine v_tru_tup ?_
  | with_reducible refine v_add_int ?_
  | ((with_reducible refine v_add_str ?l ?_); (case l => walk_at "l"))
  | ((with_reducible refine v_add_tup ?l ?_); (case l => walk_at "l"))
  | with_reducible refine v_iadd_int ?_
  | with_reducible refine v_sub ?_
  | ((with_reducible refine v_mul ?c ?_); (case c => walk_at "n"))
  | ((with_reducible refine v_div ?c ?_); (case c => walk_at "n"))
  | ((with_reducible refine v_mod ?c ?_); (case c => walk_at "n"))
  | ((with_reducible refine v_pow ?c ?_); (case c => exact ⟨by decide, by decide, by decide⟩))
  | with_reducible refine v_neg ?_
  | with_reducible exact trivial
  | with_reducible refine v_eq_int ?_
  | with_reducible refine v_eq_str ?_
  | with_reducible refine v_eq_bl ?_
  | with_reducible refine v_ne_int ?_
  | with_reducible refine v_ne_str ?_
  | with_reducible refine v_ne_bl ?_
  | with_reducible refine v_lt ?_
  | with_reducible refine v_lt_str ?_
  | with_reducible refine t_ks ?_
  | with_reducible refine t_rv ?_
  | with_reducible refine v_seq_ktp ?_
  | with_reducible refine v_le ?_
  | with_reducible refine v_gt ?_
  | with_reducible refine v_ge ?_
  | with_reducible refine v_isi_non ?_
  | with_reducible refine v_isi_bl ?_
  | with_reducible refine v_isi_int ?_
  | with_reducible refine v_isi_str ?_
  | with_reducible refine v_isi_tup ?_
  | with_reducible refine v_in_str ?_
  | with_reducible refine v_nin_str ?_
  | with_reducible refine v_len_tup ?_
  | with_reducible refine v_len_rol ?_
  | with_reducible refine v_len_ktp ?_
  | with_reducible refine v_tru_ktp ?_
  | with_reducible refine v_isi_ktp ?_
  | with_reducible refine v_tuple_ktp ?_
  | with_reducible refine t_zip ?_
  | with_reducible refine v_zip_tt ?_
  | with_reducible refine v_zip_tk ?_
  | with_reducible refine v_zip_kt ?_
  | with_reducible refine v_zip_kk ?_
  | ((with_reducible refine' v_zip_ll ?e ?f ?_); (case e => walk_at "h"); (case f => walk_at "h"))
  | with_reducible refine t_ix ?_
  | ((with_reducible refine' ⟨seqK_ref ?e, ?_⟩); (case e => walk_at "h"))
  | with_reducible refine t_lr ?_
  | ((with_reducible refine' v_ix_ktp ?f ?_); (case f => first | assumption | exact rfl))
  | ((with_reducible refine t_gTk ?s ?_); (case s => first | assumption | exact rfl))
  | ((with_reducible refine v_len_str ?l ?_); (case l => walk_at "l"))
  | ((with_reducible refine' v_len_ref ?e ?_); (case e => walk_at "h"))
  | with_reducible refine v_int_int ?_
  | with_reducible refine v_int_bl ?_
  | with_reducible refine v_max ?_
  | with_reducible refine v_min ?_
  | with_reducible refine v_tuple_tup ?_
  | ((with_reducible refine' v_tuple_ref ?e ?_); (case e => walk_at "h"))
  | ((with_reducible refine' v_ix_ref ?e ?f ?_); (case e => walk_at "h"); (case f => first | assumption | exact rfl))
  | ((with_reducible refine' v_ix_tup ?f ?_); (case f => first | assumption | exact rfl))
  | ((with_reducible refine v_sl_str ?l ?_); (case l => walk_at "l"))
  | with_reducible refine v_sl_tup ?_
  | with_reducible refine v_seq_tup ?_
  | with_reducible refine v_seq_str ?_
  | with_reducible refine v_seq_rol ?_
  | ((with_reducible refine' v_seq_ref ?e ?_); (case e => walk_at "h"))
  | ((with_reducible refine' ⟨v_ty_ref ?e, ?_⟩); (case e => walk_at "h")))
local macro_rules | `(tactic| walk_at "d1") => `(tactic| first | with_reducible refine t_seq ?_ | walk_at "e1")
local macro_rules | `(tactic| walk_at "d") => `(tactic| repeat walk_at "d1")
-- one statement
local macro_rules | `(tactic| walk_at "e") => `(tactic| ((repeat walk_at "e1"); try (with_reducible show sSeq _ _ _ _ _)))
local macro_rules | `(tactic| walk_at "s") => `(tactic| ((with_reducible refine t_seq ?_); walk_at "e"))
-- a drawn thing's small facts
local macro_rules | `(tactic| walk_at "gi") => `(tactic| first
  | exact gi_c trivial
  | exact gi_c ⟨_, rfl, by decide, by decide⟩
  | exact gi_c (show _ ≤ _ by decide)
  | exact gi_c (show _ ≤ _ by decide +kernel)
  | exact gi_v rfl trivial)
local macro_rules | `(tactic| walk_at "ga") => `(tactic| ((repeat (first | exact ga_nil | refine ga_cons2 ?_ ?_)); all_goals (try walk_at "gi")))
theorem h_menu {M : Mh} {Js : List Addr} {L : List (Addr × MO)} {Q : PQ} {as : List Int} {j : Addr} {ρ : Ev} {c : Int} (H : Held M Js L) (hj : j ∈ Js) (e0 : slot ρ 0 = some (.ref j)) (hc : c = as.length) (hn : 0 < as.length ∧ as.length ≤ 1000) (k : ∀ x, x ∈ as → ∀ M', Held M' Js L → Q (.int x) M') :
    NewL (as.map D.int) M fun x M1 => eFn 2 sp_pick (aCons (eVar 0) (aCons (eC (.int c)) aNil)) ρ M1 fun y M2 => ixD x y M2 Q := by
  refine h_new H (by rw [List.length_map]; omega) fun p M H => ?_
  refine t_fn (t_ac (t_var e0 (t_ac (t_c (t_an ?_)))))
  refine h_pick H hj (by omega) fun i M i0 i1 H => ?_
  exact h_ixm H List.mem_cons_self i0 (by omega) fun z hz _ => k z hz M H.tail
def sp_spans_row : DSp := fun ds M P => ∃ (Js : List Addr) (L : List (Addr × MO)) (j gl : Addr) (z : Str) (gs : List Int) (n : Nat), ds = [.ref j, .str z, .ref gl] ∧ Held M Js L ∧ j ∈ Js ∧ (gl, .lst (gs.map D.int)) ∈ L ∧ lab z ∧ 0 < gs.length ∧ gs.length ≤ 1000 ∧ (∀ g ∈ gs, 0 ≤ g ∧ g < (n : Int)) ∧
  ∀ (p : Addr) (ms : List Mo) M', ms ≠ [] → ms.length ≤ 3 → Row n ms → (∀ m ∈ ms, m.z = z) → Held M' Js ((p, .lst (ms.map Mo.d)) :: L) → P (.ref p) M'
structure SpR (n : Int) (z : Str) (low : Int) (ms : List Mo) : Prop where
  row : Row n ms
  z : ∀ m ∈ ms, m.z = z
  low : ∀ m ∈ ms, m.h < low
theorem SpR.add {n : Int} {z : Str} {low : Int} {ms : List Mo} {m : Mo} {low' : Int} (h : SpR n z low ms) (o : m.ok n) (e : m.z = z) (el : m.l = low) (hl : m.h < low') : SpR n z low' (ms ++ [m]) := by
  have := o.lh
  refine ⟨⟨fun x hx => ?_, List.pairwise_append.mpr ⟨h.row.asc, by simp, fun a ha b hb => ?_⟩⟩, fun x hx => ?_, fun x hx => ?_⟩
  · rcases List.mem_append.mp hx with hx | hx
    · exact h.row.ok x hx
    · rw [List.mem_singleton.mp hx]; exact o
  · rw [List.mem_singleton.mp hb]
    exact .inr ⟨(h.z a ha).trans e.symm, by rw [el]; exact h.low a ha⟩
  · rcases List.mem_append.mp hx with hx | hx
    · exact h.z x hx
    · rw [List.mem_singleton.mp hx]; exact e
  · rcases List.mem_append.mp hx with hx | hx
    · have := h.low x hx; omega
    · rw [List.mem_singleton.mp hx]; exact hl
theorem ok_spans_row (ds : List D) (M : Mh) (P : PQ) (h : sp_spans_row ds M P) : b_spans_row sp_pick { nx := fun _ M' => P .non M', rt := P } (startD 7 ds) M := by
  obtain ⟨Js, L, j, gl, z, gs, n, rfl, H, hj, mg, hz, g0, g1, hg, k⟩ := h
  unfold b_spans_row
  walk_at "s"
  refine h_new H (Nat.le_of_ble_eq_true rfl) fun p M H => ?_
  walk_at "e"
  refine t_seq (t_asg ?_)
  refine h_gi H hj (gi_menu (n := 7) (T := IsI 0 999994) (h := 6) ?_ ?_ (by decide) (LX.sz (by decide))) fun d M t2 H => ?_
  · walk_at "ga"
  · exact gi_pick (m := 7) (h := 7) rfl (gi_c ⟨_, rfl, by decide, by decide⟩) (by decide) (by decide)
  obtain ⟨low, rfl, s0, s1⟩ := t2
  walk_at "e"
  walk_at "s"
  refine h_pick H hj (by decide) fun c M c0 c1 H => ?_
  walk_at "e"
  refine ⟨by omega, ?_⟩
  refine for_each (fun i ρ M => ∃ (ms : List Mo) (low : Int) (w5 w6 : Option D), ρ = [some (.ref j), some (.str z), some (.ref gl), some (.ref p), some (.int low), w5, w6] ∧ 0 ≤ low ∧ (i = 0 → low ≤ 999999) ∧ (0 < i → ms ≠ []) ∧ ms.length ≤ i ∧ SpR n z low ms ∧ Held M Js ((p, .lst (ms.map Mo.d)) :: L))
    ⟨[], low, _, _, rfl, s0, fun _ => by omega, fun h => by omega, Nat.le_refl _, ⟨⟨by simp, by simp⟩, by simp, by simp⟩, H⟩ (fun N i d ρ M hd hI hN => ?_) (fun ρ M hI => ?_)
  · obtain ⟨ms, low, w5, w6, rfl, l0, l1, ne, ml, R, H⟩ := hI
    obtain ⟨rfl, hi⟩ := LX.rget hd
    refine ⟨trivial, ?_⟩
    walk_at "e"
    walk_at "s"
    refine t_ite (fun e => ?_) (fun e => ?_)
    · have e := of_decide_eq_true e
      walk_at "e"
      refine t_seq (t_asg ?_)
      walk_at "e"
      refine h_menu (as := [0, 0, 1, 2, 9, 400, 999999]) H hj rfl (by decide) (by decide) fun wd hwd M H => ?_
      have w0 : 0 ≤ wd ∧ wd ≤ 999999 := by
        have : ∀ x ∈ ([0, 0, 1, 2, 9, 400, 999999] : List Int), 0 ≤ x ∧ x ≤ 999999 := by decide
        exact this wd hwd
      walk_at "e"
      have hh : ∃ hi : Int, hi = (if low + wd < 999999 then low + wd else 999999) ∧ low ≤ hi ∧ hi ≤ 999999 := ⟨_, rfl, by split <;> omega, by split <;> omega⟩
      obtain ⟨hi', eh, h0, h1⟩ := hh
      rw [← eh]
      walk_at "e"
      have fl : (gs.map D.int).length = gs.length := List.length_map ..
      walk_at "s"
      rw [fl]
      refine h_pick H hj (by omega) fun x M x0 x1 H => ?_
      refine h_ixm H (List.mem_cons_of_mem _ mg) x0 x1 fun g hgm _ => ?_
      walk_at "e"
      refine h_appI 0 H rfl (by rw [List.length_map]; omega) fun M H => ?_
      have H : Held M Js ((p, .lst (ms.map Mo.d ++ [Mo.d ⟨z, low, hi', g⟩])) :: L) := H
      walk_at "e"
      walk_at "s"
      refine h_menu (as := [0, 0, 0, 1, 6]) H hj rfl (by decide) (by decide) fun wd2 hwd2 M H => ?_
      have w2 : 0 ≤ wd2 ∧ wd2 ≤ 6 := by
        have : ∀ x ∈ ([0, 0, 0, 1, 6] : List Int), 0 ≤ x ∧ x ≤ 6 := by decide
        exact this wd2 hwd2
      walk_at "d"
      have gr := hg g hgm
      exact hN _ _ ⟨ms ++ [⟨z, low, hi', g⟩], _, _, _, rfl, by omega, fun h => by omega, fun _ => by simp, by rw [List.length_append]; simp; omega, R.add ⟨hz, l0, h0, h1, gr.1, gr.2⟩ rfl rfl (show hi' < _ by omega), by rw [List.map_append]; exact H⟩
    · walk_at "d"
      have e := of_decide_eq_false e
      refine hN _ _ ⟨ms, low, _, _, rfl, l0, fun h => by omega, fun h => ?_, by omega, R, H⟩
      refine ne ?_
      rcases Nat.eq_zero_or_pos i with h | h
      · have := l1 h; omega
      · exact h
  · obtain ⟨ms, low, w5, w6, rfl, l0, l1, ne, ml, R, H⟩ := hI
    rw [LX.rlen] at ne ml
    refine ⟨trivial, ?_⟩
    walk_at "d"
    exact k p ms M (ne (by omega)) (by omega) R.row R.z H
/-! ### sorted moves -/
theorem mo_lt {a b : Mo} (h : a.lt b) (hl : a.l ≤ a.h) : eD (Mo.d a) < eD (Mo.d b) := by
  have e : ∀ m : Mo, eD (Mo.d m) = (m.z.cps.toList.map (fun n : Nat => (n : Int)) ++ [-1]) ++ [m.l, m.h, m.g] := fun m => by
    show (([.str m.z, .int m.l, .int m.h, .int m.g] : List D).flatMap eA) = _
    simp [eA, eS]
  rw [e, e, eS_lt]
  rcases h with h | ⟨h1, h2⟩
  · rw [if_neg (fun z => by unfold ltS at h; rw [z] at h; exact List.lt_irrefl _ h)]
    exact h
  · rw [if_pos (by rw [h1]), List.cons_lt_cons_iff]
    exact .inl (by omega)
def Dj (a b : Mo) : Prop := a.lt b ∨ b.lt a
theorem row_sorted {n : Int} {ms rs : List Mo} (ok : ∀ m ∈ ms, m.ok n) (dj : ms.Pairwise Dj) (p : rs.Perm ms) (s : (rs.map Mo.d).Pairwise fun a b => ¬ (eD b < eD a)) : Row n rs := by
  have ok' : ∀ m ∈ rs, m.ok n := fun m hm => ok m (p.mem_iff.mp hm)
  have dj' : rs.Pairwise Dj := (p.pairwise_iff (fun {a b} h => h.symm)).mpr dj
  refine ⟨ok', ?_⟩
  have s := List.pairwise_map.mp s
  refine (List.Pairwise.imp_of_mem (S := Mo.lt) (fun {a b} ha hb hab => ?_) (dj'.and s))
  rcases hab.1 with h | h
  · exact h
  · exact absurd (mo_lt h (ok' b hb).lh) hab.2
theorem cutD_from (ds : List D) (i : Nat) : cutD ds (some (i : Int)) none = ds.drop i := by
  unfold cutD
  have e : HT.sIx ds.length ds.length none = ds.length := by simp [HT.sIx]
  have e2 : HT.sIx ds.length 0 (some (i : Int)) = min i ds.length := by
    simp only [HT.sIx]
    rw [if_neg (by omega), Int.toNat_natCast]
  rw [e, e2]
  by_cases h : i ≤ ds.length
  · rw [Nat.min_eq_left h, List.take_of_length_le (by rw [List.length_drop]; omega)]
  · rw [Nat.min_eq_right (by omega), List.drop_of_length_le (Nat.le_refl _), List.drop_of_length_le (by omega), List.take_nil]
theorem cutD_to (ds : List D) (i : Nat) : cutD ds none (some (i : Int)) = ds.take i := by
  unfold cutD
  have e : HT.sIx ds.length 0 none = 0 := by simp [HT.sIx]
  have e2 : HT.sIx ds.length ds.length (some (i : Int)) = min i ds.length := by
    simp only [HT.sIx]
    rw [if_neg (by omega), Int.toNat_natCast]
  rw [e, e2, List.drop_zero, Nat.sub_zero]
  by_cases h : i ≤ ds.length
  · rw [Nat.min_eq_left h]
  · rw [Nat.min_eq_right (by omega), List.take_of_length_le (Nat.le_refl _), List.take_of_length_le (by omega)]
/-- the labels that a law of machines draws -/
structure Lbs (zs : List Str) : Prop where
  lab : ∀ z ∈ zs, lab z
  nd : zs.Nodup
theorem lbs_of {zs : List Str} (hl : zs.length ≤ 10) (h : ∀ (i : Nat) z, zs[i]? = some z → NmI i z) : Lbs zs := by
  refine ⟨fun z hz => ?_, List.pairwise_iff_getElem.mpr fun i k hi hk hik e => ?_⟩
  · obtain ⟨i, e⟩ := List.getElem?_of_mem hz
    exact (h i z e).lab
  · have := nmi_ne (by omega) (h i _ (List.getElem?_eq_getElem hi)) (h k _ (List.getElem?_eq_getElem hk)) e
    omega
theorem tri_lt {z y : Str} (h : z ≠ y) : ltS z y ∨ ltS y z := by
  by_cases q : ltS y z
  · exact .inr q
  · exact .inl (ltS_tri q h)
def sp_mixed_moves : DSp := fun ds M P => ∃ (Js : List Addr) (L : List (Addr × MO)) (j lb gl : Addr) (zs : List Str) (gs : List Int) (n : Nat), ds = [.ref j, .ref lb, .ref gl] ∧ Held M Js L ∧ j ∈ Js ∧ (lb, .lst (zs.map D.str)) ∈ L ∧ (gl, .lst (gs.map D.int)) ∈ L ∧ Lbs zs ∧ 0 < zs.length ∧ zs.length ≤ 3 ∧
  0 < gs.length ∧ gs.length ≤ 1000 ∧ (∀ g ∈ gs, 0 ≤ g ∧ g < (n : Int)) ∧ ∀ (ms : List Mo) M', ms ≠ [] → ms.length ≤ 9 → Row n ms → Held M' Js L → P (.tup (ms.map Mo.d)) M'
theorem ok_mixed_moves (ds : List D) (M : Mh) (P : PQ) (h : sp_mixed_moves ds M P) : b_mixed_moves sp_pick sp_spans_row { nx := fun _ M' => P .non M', rt := P } (startD 6 ds) M := by
  obtain ⟨Js, L, j, lb, gl, zs, gs, n, rfl, H, hj, ml, mg, hz, z0, z1, g0, g1, hg, k⟩ := h
  have zl : (zs.map D.str).length = zs.length := List.length_map ..
  unfold b_mixed_moves
  walk_at "s"
  refine h_new H (Nat.le_of_ble_eq_true rfl) fun p M H => ?_
  walk_at "e"
  walk_at "s"
  rw [zl]
  refine h_pick H hj (by omega) fun c M c0 c1 H => ?_
  walk_at "e"
  refine t_seq ?_
  walk_at "e"
  refine h_sl H (List.mem_cons_of_mem _ ml) fun q M H => ?_
  walk_at "e"
  refine h_sl H (List.mem_cons_of_mem _ (List.mem_cons_of_mem _ ml)) fun u M H => ?_
  walk_at "e"
  obtain ⟨cn, rfl⟩ : ∃ cn : Nat, c = (cn : Int) := ⟨c.toNat, by omega⟩
  rw [cutD_to, cutD_from, ← List.map_drop, ← List.map_take] at H
  refine h_add H (List.mem_cons_of_mem _ List.mem_cons_self) List.mem_cons_self (by rw [List.length_map, List.length_map, List.length_drop, List.length_take]; omega) fun v M H => ?_
  rw [← List.map_append] at H
  have pz : (zs.drop cn ++ zs.take cn).Perm zs := by
    have := List.perm_append_comm (l₁ := zs.drop cn) (l₂ := zs.take cn)
    rwa [List.take_append_drop] at this
  have ynd : (zs.drop cn ++ zs.take cn).Nodup := pz.nodup_iff.mpr hz.nd
  have ylb : ∀ z ∈ zs.drop cn ++ zs.take cn, lab z := fun z h => hz.lab z (pz.mem_iff.mp h)
  have yl := pz.length_eq
  generalize zs.drop cn ++ zs.take cn = ys at H ynd ylb yl
  have H : Held M Js ((p, .lst []) :: (v, .lst (ys.map D.str)) :: L) := by
    exact H.fourth.sub (List.Sublist.cons₂ _ (List.Sublist.cons₂ _ (List.Sublist.cons _ (List.Sublist.cons _ (List.Sublist.refl _)))))
  walk_at "e"
  refine for_each (fun i ρ M => ∃ (ms : List Mo) (w5 : Option D), ρ = [some (.ref j), some (.ref lb), some (.ref gl), some (.ref p), some (.int cn), w5] ∧ (0 < i → ms ≠ []) ∧ ms.length ≤ 3 * i ∧ (∀ m ∈ ms, m.ok n ∧ m.z ∈ ys.take i) ∧ ms.Pairwise Dj ∧ Held M Js ((p, .lst (ms.map Mo.d)) :: (v, .lst (ys.map D.str)) :: L))
    ⟨[], _, rfl, fun h => by omega, Nat.le_refl _, by simp, by simp, H⟩ (fun N i d ρ M hd hI hN => ?_) (fun ρ M hI => ?_)
  · obtain ⟨ms, w5, rfl, ne, ml', ok, dj, H⟩ := hI
    rw [List.getElem?_map] at hd
    obtain ⟨y, hy, rfl⟩ := Option.map_eq_some_iff.mp hd
    have il := (List.getElem?_eq_some_iff.mp hy).1
    have fl : (ms.map Mo.d).length = ms.length := List.length_map ..
    have yni : y ∉ ys.take i := fun h => by
      obtain ⟨k, hk⟩ := List.getElem?_of_mem h
      have kl := (List.getElem?_eq_some_iff.mp hk).1
      rw [List.length_take] at kl
      rw [List.getElem?_take, if_pos (by omega)] at hk
      have := nd_inj ynd hk hy
      omega
    refine ⟨H.get (by walk_at "m"), ?_⟩
    walk_at "d"
    rw [fl]
    refine t_ite (fun e => ?_) (fun e => ?_)
    · walk_at "d"
      refine ⟨v_ty_ref (H.get List.mem_cons_self), ?_⟩
      walk_at "d"
      refine ⟨rfl, Js, _, j, gl, y, gs, n, rfl, H, hj, by exact List.mem_cons_of_mem _ (List.mem_cons_of_mem _ mg), ylb y (List.mem_of_getElem? hy), g0, g1, hg, fun x rs M rne rl R rz H => ?_⟩
      walk_at "d"
      refine h_extI 1 H rfl (by walk_at "m") (by rw [List.length_map, List.length_map]; omega) fun M H => ?_
      have H : Held M Js ((x, .lst (rs.map Mo.d)) :: (p, .lst (ms.map Mo.d ++ rs.map Mo.d)) :: (v, .lst (ys.map D.str)) :: L) := H
      refine hN _ _ ⟨ms ++ rs, _, rfl, fun _ z => rne (List.append_eq_nil_iff.mp z).2, by rw [List.length_append]; omega, fun m hm => ?_, ?_, by rw [List.map_append]; exact H.tail⟩
      · rw [tk_snoc hy]
        rcases List.mem_append.mp hm with hm | hm
        · exact ⟨(ok m hm).1, List.mem_append_left _ (ok m hm).2⟩
        · exact ⟨R.ok m hm, by rw [rz m hm]; simp⟩
      · refine List.pairwise_append.mpr ⟨dj, R.asc.imp fun {a b} h => .inl h, fun a ha b hb => ?_⟩
        have az := (ok a ha).2
        have bz := rz b hb
        have ne2 : a.z ≠ b.z := fun e => yni (by rw [← bz, ← e]; exact az)
        exact (tri_lt ne2).imp .inl .inl
    · walk_at "d"
      refine h_pick H hj (by decide) fun x M x0 x1 H => ?_
      walk_at "d"
      refine t_ite (fun e2 => ?_) (fun e2 => ?_)
      · walk_at "d"
        refine ⟨rfl, Js, _, j, gl, y, gs, n, rfl, H, hj, by exact List.mem_cons_of_mem _ (List.mem_cons_of_mem _ mg), ylb y (List.mem_of_getElem? hy), g0, g1, hg, fun x rs M rne rl R rz H => ?_⟩
        walk_at "d"
        refine h_extI 1 H rfl (by walk_at "m") (by rw [List.length_map, List.length_map]; omega) fun M H => ?_
        have H : Held M Js ((x, .lst (rs.map Mo.d)) :: (p, .lst (ms.map Mo.d ++ rs.map Mo.d)) :: (v, .lst (ys.map D.str)) :: L) := H
        refine hN _ _ ⟨ms ++ rs, _, rfl, fun _ z => rne (List.append_eq_nil_iff.mp z).2, by rw [List.length_append]; omega, fun m hm => ?_, ?_, by rw [List.map_append]; exact H.tail⟩
        · rw [tk_snoc hy]
          rcases List.mem_append.mp hm with hm | hm
          · exact ⟨(ok m hm).1, List.mem_append_left _ (ok m hm).2⟩
          · exact ⟨R.ok m hm, by rw [rz m hm]; simp⟩
        · refine List.pairwise_append.mpr ⟨dj, R.asc.imp fun {a b} h => .inl h, fun a ha b hb => ?_⟩
          have az := (ok a ha).2
          have bz := rz b hb
          have ne2 : a.z ≠ b.z := fun e => yni (by rw [← bz, ← e]; exact az)
          exact (tri_lt ne2).imp .inl .inl
      · walk_at "d"
        refine hN _ _ ⟨ms, _, rfl, fun _ z => ?_, by omega, fun m hm => ?_, dj, H⟩
        · rw [z] at e; simp at e
        · rw [tk_snoc hy]; exact ⟨(ok m hm).1, List.mem_append_left _ (ok m hm).2⟩
  · obtain ⟨ms, w5, rfl, ne, ml', ok, dj, H⟩ := hI
    rw [List.length_map] at ne ml'
    refine ⟨H.get (by walk_at "m"), ?_⟩
    walk_at "d"
    refine h_sorted H List.mem_cons_self (.inr (.inr ⟨.str, [.int, .int, .int], fun d hd => ?_⟩)) fun rs x M hrs hpw H => ?_
    · obtain ⟨m, _, rfl⟩ := List.mem_map.mp hd
      exact ⟨_, rfl, .cons ⟨_, rfl⟩ (.cons ⟨_, rfl⟩ (.cons ⟨_, rfl⟩ (.cons ⟨_, rfl⟩ .nil)))⟩
    obtain ⟨rs', p1, rfl⟩ := perm_map_inv hrs ms rfl
    walk_at "d"
    have pl := p1.length_eq
    refine k rs' M (fun z => ?_) (by omega) (row_sorted (fun m hm => (ok m hm).1) dj p1 hpw) H.tail.tail.tail
    rw [z] at p1
    exact ne (by omega) (List.nil_perm.mp p1)
end TM
/-! K23b: the bodies of the defs, printed by gen.py -/
namespace K23
open PySem DL

/-- slots: 0 moves 1 result 2 move 3 label 4 lo 5 hi 6 goal 7 last -/
def b_merged : DS :=
  (sSeq (sAsg (eLst aNil) (gN 1))
  (sSeq (sFor (iSeq (eVar 0)) (gN 2)
   (sSeq (sAsg (eVar 2) (gT 4 (gsC (gN 3) (gsC (gN 4) (gsC (gN 5) (gsC (gN 6) gsN))))))
   (sSeq (sIf (bCmp gtD (eCall lenD (aCons (eVar 1) aNil)) (eC (.int 0)))
    (sSeq (sAsg (eBin ixD (eVar 1) (eUn negD (eC (.int 1)))) (gN 7))
    (sSeq (sIf (bAnd (bCmp eqD (eBin ixD (eVar 7) (eC (.int 0))) (eVar 3)) (bAnd (bCmp eqD (eBin addD (eBin ixD (eVar 7) (eC (.int 2))) (eC (.int 1))) (eVar 4)) (bCmp eqD (eBin ixD (eVar 7) (eC (.int 3))) (eVar 6))))
     (sSeq (sAsg (eTup (aCons (eVar 3) (aCons (eBin ixD (eVar 7) (eC (.int 1))) (aCons (eVar 5) (aCons (eVar 6) aNil))))) (gS (eVar 1) (eUn negD (eC (.int 1)))))
     (sSeq sCnt
     sNil))
     sNil)
    sNil))
    sNil)
   (sSeq (sExp (eMt "list" appendD (eVar 1) (aCons (eVar 2) aNil)))
   sNil))))
  (sSeq (sRet (eCall tupleD (aCons (eVar 1) aNil)))
  sNil)))
/-- slots: 0 standing -/
def b_moves_of : DS :=
  (sSeq (sIf (bCmp eqD (eBin ixD (eVar 0) (eC (.int 0))) (eC (.str "end")))
   (sSeq (sRet (eTup aNil))
   sNil)
   sNil)
  (sSeq (sRet (eBin ixD (eVar 0) (eC (.int 2))))
  sNil))
/-- slots: 0 kind -/
def b_flipped_word : DS :=
  (sSeq (sIf (bCmp eqD (eVar 0) (eC (.str "say")))
   (sSeq (sRet (eC (.str "hear")))
   sNil)
   sNil)
  (sSeq (sRet (eC (.str "say")))
  sNil))
/-- slots: 0 standing -/
def b_flipped_standing (c_flipped_word : List D → Mh → PQ → Prop) : DS :=
  (sSeq (sIf (bCmp eqD (eBin ixD (eVar 0) (eC (.int 0))) (eC (.str "end")))
   (sSeq (sRet (eVar 0))
   sNil)
   sNil)
  (sSeq (sRet (eTup (aCons (eFn 1 c_flipped_word (aCons (eBin ixD (eVar 0) (eC (.int 0))) aNil)) (aCons (eBin ixD (eVar 0) (eC (.int 1))) (aCons (eBin ixD (eVar 0) (eC (.int 2))) aNil)))))
  sNil))
/-- slots: 0 machine 1 standing -/
def b_flipped (c_flipped_standing : List D → Mh → PQ → Prop) : DS :=
  (sSeq (sRet (eCall tupleD (aCons (eLC (iSeq (eVar 0)) (.nm 1) bYes (eFn 1 c_flipped_standing (aCons (eVar 1) aNil)) [1]) aNil)))
  sNil)
/-- slots: 0 machine 1 start 2 found 3 seen 4 at 5 move -/
def b_standings_from (c_moves_of : List D → Mh → PQ → Prop) : DS :=
  (sSeq (sAsg (eLst (aCons (eVar 1) aNil)) (gN 2))
  (sSeq (sAsg (eD1 (eVar 1) (eC (.bl true))) (gN 3))
  (sSeq (sAsg (eC (.int 0)) (gN 4))
  (sSeq (sWh (bCmp ltD (eVar 4) (eCall lenD (aCons (eVar 2) aNil)))
   (sSeq (sFor (iSeq (eFn 1 c_moves_of (aCons (eBin ixD (eVar 0) (eBin ixD (eVar 2) (eVar 4))) aNil))) (gN 5)
    (sSeq (sIf (bCmp ninD (eBin ixD (eVar 5) (eC (.int 3))) (eVar 3))
     (sSeq (sAsg (eC (.bl true)) (gS (eVar 3) (eBin ixD (eVar 5) (eC (.int 3)))))
     (sSeq (sExp (eMt "list" appendD (eVar 2) (aCons (eBin ixD (eVar 5) (eC (.int 3))) aNil)))
     sNil))
     sNil)
    sNil))
   (sSeq (sAug 4 iaddD (eC (.int 1)))
   sNil)))
  (sSeq (sRet (eVar 2))
  sNil)))))
/-- slots: 0 standing 1 numbers 2 moves 3 move -/
def b_renumbered (c_merged : List D → Mh → PQ → Prop) : DS :=
  (sSeq (sIf (bCmp eqD (eBin ixD (eVar 0) (eC (.int 0))) (eC (.str "end")))
   (sSeq (sRet (eVar 0))
   sNil)
   sNil)
  (sSeq (sAsg (eLC (iSeq (eFn 1 c_merged (aCons (eBin ixD (eVar 0) (eC (.int 2))) aNil))) (.nm 3) bYes (eTup (aCons (eBin ixD (eVar 3) (eC (.int 0))) (aCons (eBin ixD (eVar 3) (eC (.int 1))) (aCons (eBin ixD (eVar 3) (eC (.int 2))) (aCons (eBin ixD (eVar 1) (eBin ixD (eVar 3) (eC (.int 3)))) aNil))))) [3]) (gN 2))
  (sSeq (sRet (eTup (aCons (eBin ixD (eVar 0) (eC (.int 0))) (aCons (eBin ixD (eVar 0) (eC (.int 1))) (aCons (eCall tupleD (aCons (eVar 2) aNil)) aNil)))))
  sNil)))
/-- slots: 0 machine 1 start 2 found 3 numbers 4 at 5 standing -/
def b_trimmed_from (c_renumbered : List D → Mh → PQ → Prop) (c_standings_from : List D → Mh → PQ → Prop) : DS :=
  (sSeq (sAsg (eFn 2 c_standings_from (aCons (eVar 0) (aCons (eVar 1) aNil))) (gN 2))
  (sSeq (sAsg eDct (gN 3))
  (sSeq (sFor (iRg1 (aCons (eCall lenD (aCons (eVar 2) aNil)) aNil)) (gN 4)
   (sSeq (sAsg (eVar 4) (gS (eVar 3) (eBin ixD (eVar 2) (eVar 4))))
   sNil))
  (sSeq (sRet (eCall tupleD (aCons (eLC (iSeq (eVar 2)) (.nm 5) bYes (eFn 2 c_renumbered (aCons (eBin ixD (eVar 0) (eVar 5)) (aCons (eVar 3) aNil))) [5]) aNil)))
  sNil))))
/-- slots: 0 machine -/
def b_trimmed (c_trimmed_from : List D → Mh → PQ → Prop) : DS :=
  (sSeq (sRet (eFn 2 c_trimmed_from (aCons (eVar 0) (aCons (eC (.int 0)) aNil))))
  sNil)
/-- slots: 0 script 1 place -/
def b__law_cell : DS :=
  (sSeq (sIf (bCmp ltD (eVar 1) (eCall lenD (aCons (eVar 0) aNil)))
   (sSeq (sRet (eBin ixD (eVar 0) (eVar 1)))
   sNil)
   sNil)
  (sSeq (sRet (eBin addD (eBin addD (eBin mulD (eBin modD (eCall intD (aCons (eCall sumD (aCons (eSl (eVar 0) none (some (eC (.int 1)))) aNil)) aNil)) (eC (.int 1000003))) (eC (.int 7919))) (eBin mulD (eVar 1) (eC (.int 104729)))) (eC (.int 12345))))
  sNil))
/-- slots: 0 script 1 place 2 cell 3 number -/
def b__law_jar (c__law_cell : List D → Mh → PQ → Prop) : DS :=
  (sSeq (sAsg (eFn 2 c__law_cell (aCons (eVar 0) (aCons (eVar 1) aNil))) (gN 2))
  (sSeq (sAsg (eVar 2) (gN 3))
  (sSeq (sIf (bCmp ltD (eVar 2) (eC (.int 0)))
   (sSeq (sAsg (eBin subD (eC (.int 1)) (eBin mulD (eC (.int 3)) (eVar 2))) (gN 3))
   sNil)
   sNil)
  (sSeq (sIf (bCmp geD (eVar 3) (eBin powD (eC (.int 10)) (eC (.int 18))))
   (sSeq (sRet (eLst (aCons (eVar 3) (aCons (eC (.int 1)) (aCons (eVar 1) aNil)))))
   sNil)
   sNil)
  (sSeq (sRet (eLst (aCons (eBin addD (eBin modD (eCall intD (aCons (eVar 3) aNil)) (eC (.int 2147483646))) (eC (.int 1))) (aCons (eC (.int 0)) (aCons (eVar 1) aNil)))))
  sNil)))))
/-- slots: 0 jar 1 many 2 found -/
def b__law_pick : DS :=
  (sSeq (sIf (bAnd (bCmp eqD (eBin ixD (eVar 0) (eC (.int 1))) (eC (.int 1))) (bCmp gtD (eBin ixD (eVar 0) (eC (.int 0))) (eC (.int 0))))
   (sSeq (sAsg (eBin modD (eCall intD (aCons (eBin ixD (eVar 0) (eC (.int 0))) aNil)) (eVar 1)) (gN 2))
   (sSeq (sAsg (eBin divD (eBin ixD (eVar 0) (eC (.int 0))) (eVar 1)) (gS (eVar 0) (eC (.int 0))))
   (sSeq (sRet (eVar 2))
   sNil)))
   sNil)
  (sSeq (sIf (bCmp eqD (eBin ixD (eVar 0) (eC (.int 1))) (eC (.int 1)))
   (sSeq (sAsg (eC (.int 0)) (gS (eVar 0) (eC (.int 1))))
   (sSeq (sAsg (eBin addD (eC (.int 1234567)) (eBin mulD (eBin ixD (eVar 0) (eC (.int 2))) (eC (.int 7907)))) (gS (eVar 0) (eC (.int 0))))
   sNil))
   sNil)
  (sSeq (sAsg (eBin addD (eBin ixD (eVar 0) (eC (.int 2))) (eC (.int 1))) (gS (eVar 0) (eC (.int 2))))
  (sSeq (sAsg (eBin modD (eCall intD (aCons (eBin addD (eBin mulD (eBin ixD (eVar 0) (eC (.int 0))) (eC (.int 48271))) (eBin mulD (eBin ixD (eVar 0) (eC (.int 2))) (eC (.int 69621)))) aNil)) (eC (.int 2147483647))) (gS (eVar 0) (eC (.int 0))))
  (sSeq (sRet (eBin modD (eCall intD (aCons (eBin divD (eBin ixD (eVar 0) (eC (.int 0))) (eC (.int 977))) aNil)) (eVar 1)))
  sNil)))))
/-- slots: 0 jar 1 index 2 letters 3 word 4 count 5 at -/
def b__law_name (c__law_pick : List D → Mh → PQ → Prop) : DS :=
  (sSeq (sAsg (eC (.str "abcdefghijklmnopqrstuvwxyz")) (gN 2))
  (sSeq (sAsg (eBin ixD (eVar 2) (eFn 2 c__law_pick (aCons (eVar 0) (aCons (eC (.int 26)) aNil)))) (gN 3))
  (sSeq (sFor (iRg1 (aCons (eBin ixD (eLst (aCons (eC (.int 0)) (aCons (eC (.int 0)) (aCons (eC (.int 1)) (aCons (eC (.int 2)) (aCons (eC (.int 6)) aNil)))))) (eFn 2 c__law_pick (aCons (eVar 0) (aCons (eC (.int 5)) aNil)))) aNil)) (gN 4)
   (sSeq (sAsg (eBin addD (eVar 3) (eBin ixD (eVar 2) (eFn 2 c__law_pick (aCons (eVar 0) (aCons (eC (.int 26)) aNil))))) (gN 3))
   sNil))
  (sSeq (sAsg (eBin addD (eC (.int 1)) (eFn 2 c__law_pick (aCons (eVar 0) (aCons (eCall lenD (aCons (eVar 3) aNil)) aNil)))) (gN 5))
  (sSeq (sRet (eBin addD (eBin addD (eSl (eVar 3) none (some (eVar 5))) (eCall strD (aCons (eVar 1) aNil))) (eSl (eVar 3) (some (eVar 5)) none)))
  sNil)))))
/-- slots: 0 jar 1 many 2 index -/
def b__law_names (c__law_name : List D → Mh → PQ → Prop) : DS :=
  (sSeq (sRet (eLC (iRg1 (aCons (eVar 1) aNil)) (.nm 2) bYes (eFn 2 c__law_name (aCons (eVar 0) (aCons (eVar 2) aNil))) [2]))
  sNil)
/-- slots: 0 moves 1 label 2 value 3 move -/
def b__law_goal : DS :=
  (sSeq (sFor (iSeq (eVar 0)) (gN 3)
   (sSeq (sIf (bAnd (bCmp eqD (eBin ixD (eVar 3) (eC (.int 0))) (eVar 1)) (bAnd (bCmp leD (eBin ixD (eVar 3) (eC (.int 1))) (eVar 2)) (bCmp leD (eVar 2) (eBin ixD (eVar 3) (eC (.int 2))))))
    (sSeq (sRet (eBin ixD (eVar 3) (eC (.int 3))))
    sNil)
    sNil)
   sNil))
  (sSeq (sRet (eC .non))
  sNil))
/-- slots: 0 rows 1 found 2 moves 3 move 4 value -/
def b__law_marks : DS :=
  (sSeq (sAsg (eLst aNil) (gN 1))
  (sSeq (sFor (iSeq (eVar 0)) (gN 2)
   (sSeq (sFor (iSeq (eVar 2)) (gN 3)
    (sSeq (sFor (iSeq (eLst (aCons (eBin ixD (eVar 3) (eC (.int 1))) (aCons (eBin addD (eBin ixD (eVar 3) (eC (.int 2))) (eC (.int 1))) aNil)))) (gN 4)
     (sSeq (sIf (bAnd (bCmp leD (eVar 4) (eC (.int 999999))) (bCmp ninD (eTup (aCons (eBin ixD (eVar 3) (eC (.int 0))) (aCons (eVar 4) aNil))) (eVar 1)))
      (sSeq (sExp (eMt "list" appendD (eVar 1) (aCons (eTup (aCons (eBin ixD (eVar 3) (eC (.int 0))) (aCons (eVar 4) aNil))) aNil)))
      sNil)
      sNil)
     sNil))
    sNil))
   sNil))
  (sSeq (sRet (eCall sortedD (aCons (eVar 1) aNil)))
  sNil)))
/-- slots: 0 one 1 other -/
def b__law_same_kind : DS :=
  (sSeq (sIf (bCmp neD (eBin ixD (eVar 0) (eC (.int 0))) (eBin ixD (eVar 1) (eC (.int 0))))
   (sSeq (sRet (eC (.bl false)))
   sNil)
   sNil)
  (sSeq (sRet (eOr (eCmp eqD (eBin ixD (eVar 0) (eC (.int 0))) (eC (.str "end"))) (eCmp eqD (eBin ixD (eVar 0) (eC (.int 1))) (eBin ixD (eVar 1) (eC (.int 1))))))
  sNil))
/-- slots: 0 thing -/
def b__law_is_number : DS :=
  (sSeq (sRet (eAnd (eIsi "int" (eVar 0)) (eNot (eIsi "bool" (eVar 0)))))
  sNil)
/-- slots: 0 thing 1 letters 2 sign -/
def b__law_is_name : DS :=
  (sSeq (sIf (bOr (bNot (bTru (eIsi "str" (eVar 0)))) (bOr (bCmp ltD (eCall lenD (aCons (eVar 0) aNil)) (eC (.int 1))) (bCmp gtD (eCall lenD (aCons (eVar 0) aNil)) (eC (.int 8)))))
   (sSeq (sRet (eC (.bl false)))
   sNil)
   sNil)
  (sSeq (sAsg (eC (.str "abcdefghijklmnopqrstuvwxyz")) (gN 1))
  (sSeq (sIf (bCmp ninD (eBin ixD (eVar 0) (eC (.int 0))) (eVar 1))
   (sSeq (sRet (eC (.bl false)))
   sNil)
   sNil)
  (sSeq (sRet (eCmp eqD (eCall lenD (aCons (eLC (iSeq (eVar 0)) (.nm 2) (bCmp ninD (eVar 2) (eBin addD (eVar 1) (eC (.str "0123456789")))) (eVar 2) [2]) aNil)) (eC (.int 0))))
  sNil))))
/-- slots: 0 thing 1 words -/
def b__law_is_label (c__law_is_name : List D → Mh → PQ → Prop) : DS :=
  (sSeq (sAsg (eLst (aCons (eC (.str "talk")) (aCons (eC (.str "roles")) (aCons (eC (.str "to")) (aCons (eC (.str "on")) (aCons (eC (.str "round")) (aCons (eC (.str "again")) (aCons (eC (.str "stop")) (aCons (eC (.str "machine")) (aCons (eC (.str "say")) (aCons (eC (.str "hear")) (aCons (eC (.str "end")) aNil)))))))))))) (gN 1))
  (sSeq (sRet (eAnd (eFn 1 c__law_is_name (aCons (eVar 0) aNil)) (eCmp ninD (eVar 0) (eVar 1))))
  sNil))
/-- slots: 0 thing 1 many 2 part -/
def b__law_is_move (c__law_is_number : List D → Mh → PQ → Prop) (c__law_is_label : List D → Mh → PQ → Prop) : DS :=
  (sSeq (sIf (bOr (bNot (bTru (eIsi "tuple" (eVar 0)))) (bOr (bCmp neD (eCall lenD (aCons (eVar 0) aNil)) (eC (.int 4))) (bNot (bTru (eFn 1 c__law_is_label (aCons (eBin ixD (eVar 0) (eC (.int 0))) aNil))))))
   (sSeq (sRet (eC (.bl false)))
   sNil)
   sNil)
  (sSeq (sIf (bCmp gtD (eCall lenD (aCons (eLC (iSeq (eSl (eVar 0) (some (eC (.int 1))) none)) (.nm 2) (bNot (bTru (eFn 1 c__law_is_number (aCons (eVar 2) aNil)))) (eVar 2) [2]) aNil)) (eC (.int 0)))
   (sSeq (sRet (eC (.bl false)))
   sNil)
   sNil)
  (sSeq (sRet (eAnd (eCmp leD (eC (.int 0)) (eBin ixD (eVar 0) (eC (.int 1)))) (eAnd (eCmp leD (eBin ixD (eVar 0) (eC (.int 1))) (eBin ixD (eVar 0) (eC (.int 2)))) (eAnd (eCmp leD (eBin ixD (eVar 0) (eC (.int 2))) (eC (.int 999999))) (eAnd (eCmp leD (eC (.int 0)) (eBin ixD (eVar 0) (eC (.int 3)))) (eCmp ltD (eBin ixD (eVar 0) (eC (.int 3))) (eVar 1)))))))
  sNil)))
/-- slots: 0 thing 1 many 2 move 3 at -/
def b__law_is_moves (c__law_is_move : List D → Mh → PQ → Prop) : DS :=
  (sSeq (sIf (bOr (bNot (bTru (eIsi "tuple" (eVar 0)))) (bCmp eqD (eCall lenD (aCons (eVar 0) aNil)) (eC (.int 0))))
   (sSeq (sRet (eC (.bl false)))
   sNil)
   sNil)
  (sSeq (sIf (bCmp gtD (eCall lenD (aCons (eLC (iSeq (eVar 0)) (.nm 2) (bNot (bTru (eFn 2 c__law_is_move (aCons (eVar 2) (aCons (eVar 1) aNil))))) (eVar 2) [2]) aNil)) (eC (.int 0)))
   (sSeq (sRet (eC (.bl false)))
   sNil)
   sNil)
  (sSeq (sFor (iRg2 (aCons (eC (.int 1)) (aCons (eCall lenD (aCons (eVar 0) aNil)) aNil))) (gN 3)
   (sSeq (sIf (bCmp ltD (eBin ixD (eBin ixD (eVar 0) (eVar 3)) (eC (.int 0))) (eBin ixD (eBin ixD (eVar 0) (eBin subD (eVar 3) (eC (.int 1)))) (eC (.int 0))))
    (sSeq (sRet (eC (.bl false)))
    sNil)
    sNil)
   (sSeq (sIf (bAnd (bCmp eqD (eBin ixD (eBin ixD (eVar 0) (eVar 3)) (eC (.int 0))) (eBin ixD (eBin ixD (eVar 0) (eBin subD (eVar 3) (eC (.int 1)))) (eC (.int 0)))) (bCmp leD (eBin ixD (eBin ixD (eVar 0) (eVar 3)) (eC (.int 1))) (eBin ixD (eBin ixD (eVar 0) (eBin subD (eVar 3) (eC (.int 1)))) (eC (.int 2)))))
    (sSeq (sRet (eC (.bl false)))
    sNil)
    sNil)
   sNil)))
  (sSeq (sRet (eC (.bl true)))
  sNil))))
/-- slots: 0 thing 1 standing -/
def b__law_is_machine (c__law_is_moves : List D → Mh → PQ → Prop) (c__law_is_label : List D → Mh → PQ → Prop) : DS :=
  (sSeq (sIf (bOr (bNot (bTru (eIsi "tuple" (eVar 0)))) (bCmp eqD (eCall lenD (aCons (eVar 0) aNil)) (eC (.int 0))))
   (sSeq (sRet (eC (.bl false)))
   sNil)
   sNil)
  (sSeq (sFor (iSeq (eVar 0)) (gN 1)
   (sSeq (sIf (bOr (bNot (bTru (eIsi "tuple" (eVar 1)))) (bOr (bCmp ninD (eCall lenD (aCons (eVar 1) aNil)) (eTup (aCons (eC (.int 1)) (aCons (eC (.int 3)) aNil)))) (bNot (bTru (eIsi "str" (eBin ixD (eVar 1) (eC (.int 0))))))))
    (sSeq (sRet (eC (.bl false)))
    sNil)
    sNil)
   (sSeq (sIf (bAnd (bCmp eqD (eCall lenD (aCons (eVar 1) aNil)) (eC (.int 1))) (bCmp neD (eBin ixD (eVar 1) (eC (.int 0))) (eC (.str "end"))))
    (sSeq (sRet (eC (.bl false)))
    sNil)
    sNil)
   (sSeq (sIf (bCmp eqD (eCall lenD (aCons (eVar 1) aNil)) (eC (.int 3)))
    (sSeq (sIf (bOr (bCmp ninD (eBin ixD (eVar 1) (eC (.int 0))) (eTup (aCons (eC (.str "say")) (aCons (eC (.str "hear")) aNil)))) (bNot (bTru (eFn 1 c__law_is_label (aCons (eBin ixD (eVar 1) (eC (.int 1))) aNil)))))
     (sSeq (sRet (eC (.bl false)))
     sNil)
     sNil)
    (sSeq (sIf (bNot (bTru (eFn 2 c__law_is_moves (aCons (eBin ixD (eVar 1) (eC (.int 2))) (aCons (eCall lenD (aCons (eVar 0) aNil)) aNil)))))
     (sSeq (sRet (eC (.bl false)))
     sNil)
     sNil)
    sNil))
    sNil)
   sNil))))
  (sSeq (sRet (eC (.bl true)))
  sNil)))
/-- slots: 0 jar 1 label 2 goals 3 found 4 low 5 count 6 high -/
def b__law_spans_row (c__law_pick : List D → Mh → PQ → Prop) : DS :=
  (sSeq (sAsg (eLst aNil) (gN 3))
  (sSeq (sAsg (eBin ixD (eLst (aCons (eC (.int 0)) (aCons (eC (.int 0)) (aCons (eC (.int 0)) (aCons (eC (.int 1)) (aCons (eC (.int 7)) (aCons (eC (.int 900)) (aCons (eC (.int 999994)) aNil)))))))) (eFn 2 c__law_pick (aCons (eVar 0) (aCons (eC (.int 7)) aNil)))) (gN 4))
  (sSeq (sFor (iRg1 (aCons (eBin addD (eC (.int 1)) (eFn 2 c__law_pick (aCons (eVar 0) (aCons (eC (.int 3)) aNil)))) aNil)) (gN 5)
   (sSeq (sIf (bCmp leD (eVar 4) (eC (.int 999999)))
    (sSeq (sAsg (eCall minD (aCons (eC (.int 999999)) (aCons (eBin addD (eVar 4) (eBin ixD (eLst (aCons (eC (.int 0)) (aCons (eC (.int 0)) (aCons (eC (.int 1)) (aCons (eC (.int 2)) (aCons (eC (.int 9)) (aCons (eC (.int 400)) (aCons (eC (.int 999999)) aNil)))))))) (eFn 2 c__law_pick (aCons (eVar 0) (aCons (eC (.int 7)) aNil))))) aNil))) (gN 6))
    (sSeq (sExp (eMt "list" appendD (eVar 3) (aCons (eTup (aCons (eVar 1) (aCons (eVar 4) (aCons (eVar 6) (aCons (eBin ixD (eVar 2) (eFn 2 c__law_pick (aCons (eVar 0) (aCons (eCall lenD (aCons (eVar 2) aNil)) aNil)))) aNil))))) aNil)))
    (sSeq (sAsg (eBin addD (eBin addD (eVar 6) (eC (.int 1))) (eBin ixD (eLst (aCons (eC (.int 0)) (aCons (eC (.int 0)) (aCons (eC (.int 0)) (aCons (eC (.int 1)) (aCons (eC (.int 6)) aNil)))))) (eFn 2 c__law_pick (aCons (eVar 0) (aCons (eC (.int 5)) aNil))))) (gN 4))
    sNil)))
    sNil)
   sNil))
  (sSeq (sRet (eVar 3))
  sNil))))
/-- slots: 0 jar 1 labels 2 goals 3 found 4 shift 5 label -/
def b__law_mixed_moves (c__law_pick : List D → Mh → PQ → Prop) (c__law_spans_row : List D → Mh → PQ → Prop) : DS :=
  (sSeq (sAsg (eLst aNil) (gN 3))
  (sSeq (sAsg (eFn 2 c__law_pick (aCons (eVar 0) (aCons (eCall lenD (aCons (eVar 1) aNil)) aNil))) (gN 4))
  (sSeq (sFor (iSeq (eBin addD (eSl (eVar 1) (some (eVar 4)) none) (eSl (eVar 1) none (some (eVar 4))))) (gN 5)
   (sSeq (sIf (bOr (bCmp eqD (eCall lenD (aCons (eVar 3) aNil)) (eC (.int 0))) (bCmp eqD (eFn 2 c__law_pick (aCons (eVar 0) (aCons (eC (.int 2)) aNil))) (eC (.int 0))))
    (sSeq (sExp (eMt "list" extendD (eVar 3) (aCons (eFn 3 c__law_spans_row (aCons (eVar 0) (aCons (eVar 5) (aCons (eVar 2) aNil)))) aNil)))
    sNil)
    sNil)
   sNil))
  (sSeq (sRet (eCall tupleD (aCons (eCall sortedD (aCons (eVar 3) aNil)) aNil)))
  sNil))))
/-- slots: 0 jar 1 partners 2 labels 3 many 4 found 5 at 6 goals 7 kind 8 partner -/
def b__law_loose (c__law_mixed_moves : List D → Mh → PQ → Prop) (c__law_pick : List D → Mh → PQ → Prop) : DS :=
  (sSeq (sAsg (eLst aNil) (gN 4))
  (sSeq (sFor (iRg1 (aCons (eVar 3) aNil)) (gN 5)
   (sSeq (sIf (bCmp eqD (eFn 2 c__law_pick (aCons (eVar 0) (aCons (eC (.int 8)) aNil))) (eC (.int 7)))
    (sSeq (sExp (eMt "list" appendD (eVar 4) (aCons (eTup (aCons (eC (.str "end")) aNil)) aNil)))
    (sSeq sCnt
    sNil))
    sNil)
   (sSeq (sAsg (eLst (aCons (eBin modD (eCall intD (aCons (eBin addD (eVar 5) (eC (.int 1))) aNil)) (eVar 3)) (aCons (eFn 2 c__law_pick (aCons (eVar 0) (aCons (eVar 3) aNil))) aNil))) (gN 6))
   (sSeq (sIf (bCmp eqD (eFn 2 c__law_pick (aCons (eVar 0) (aCons (eC (.int 3)) aNil))) (eC (.int 2)))
    (sSeq (sAsg (eLst (aCons (eFn 2 c__law_pick (aCons (eVar 0) (aCons (eVar 3) aNil))) (aCons (eFn 2 c__law_pick (aCons (eVar 0) (aCons (eVar 3) aNil))) aNil))) (gN 6))
    sNil)
    sNil)
   (sSeq (sAsg (eBin ixD (eLst (aCons (eC (.str "say")) (aCons (eC (.str "hear")) aNil))) (eFn 2 c__law_pick (aCons (eVar 0) (aCons (eC (.int 2)) aNil)))) (gN 7))
   (sSeq (sAsg (eBin ixD (eVar 1) (eFn 2 c__law_pick (aCons (eVar 0) (aCons (eCall lenD (aCons (eVar 1) aNil)) aNil)))) (gN 8))
   (sSeq (sExp (eMt "list" appendD (eVar 4) (aCons (eTup (aCons (eVar 7) (aCons (eVar 8) (aCons (eFn 3 c__law_mixed_moves (aCons (eVar 0) (aCons (eVar 2) (aCons (eVar 6) aNil)))) aNil)))) aNil)))
   sNil)))))))
  (sSeq (sRet (eCall tupleD (aCons (eVar 4) aNil)))
  sNil)))
/-- slots: 0 machine 1 found 2 count 3 move -/
def b__law_walk_order : DS :=
  (sSeq (sAsg (eLst (aCons (eC (.int 0)) aNil)) (gN 1))
  (sSeq (sFor (iRg1 (aCons (eCall lenD (aCons (eVar 0) aNil)) aNil)) (gN 2)
   (sSeq (sIf (bAnd (bCmp ltD (eVar 2) (eCall lenD (aCons (eVar 1) aNil))) (bCmp neD (eBin ixD (eBin ixD (eVar 0) (eBin ixD (eVar 1) (eVar 2))) (eC (.int 0))) (eC (.str "end"))))
    (sSeq (sFor (iSeq (eBin ixD (eBin ixD (eVar 0) (eBin ixD (eVar 1) (eVar 2))) (eC (.int 2)))) (gN 3)
     (sSeq (sIf (bCmp ninD (eBin ixD (eVar 3) (eC (.int 3))) (eVar 1))
      (sSeq (sExp (eMt "list" appendD (eVar 1) (aCons (eBin ixD (eVar 3) (eC (.int 3))) aNil)))
      sNil)
      sNil)
     sNil))
    sNil)
    sNil)
   sNil))
  (sSeq (sRet (eVar 1))
  sNil)))
/-- slots: 0 machine 1 row 2 at 3 one 4 two -/
def b__law_fewest : DS :=
  (sSeq (sFor (iSeq (eVar 0)) (gN 1)
   (sSeq (sIf (bCmp eqD (eBin ixD (eVar 1) (eC (.int 0))) (eC (.str "end")))
    (sSeq sCnt
    sNil)
    sNil)
   (sSeq (sFor (iRg2 (aCons (eC (.int 1)) (aCons (eCall lenD (aCons (eBin ixD (eVar 1) (eC (.int 2))) aNil)) aNil))) (gN 2)
    (sSeq (sAsg (eBin ixD (eBin ixD (eVar 1) (eC (.int 2))) (eBin subD (eVar 2) (eC (.int 1)))) (gN 3))
    (sSeq (sAsg (eBin ixD (eBin ixD (eVar 1) (eC (.int 2))) (eVar 2)) (gN 4))
    (sSeq (sIf (bAnd (bCmp eqD (eBin ixD (eVar 3) (eC (.int 0))) (eBin ixD (eVar 4) (eC (.int 0)))) (bAnd (bCmp eqD (eBin addD (eBin ixD (eVar 3) (eC (.int 2))) (eC (.int 1))) (eBin ixD (eVar 4) (eC (.int 1)))) (bCmp eqD (eBin ixD (eVar 3) (eC (.int 3))) (eBin ixD (eVar 4) (eC (.int 3))))))
     (sSeq (sRet (eC (.bl false)))
     sNil)
     sNil)
    sNil))))
   sNil)))
  (sSeq (sRet (eC (.bl true)))
  sNil))
/-- slots: 0 machine 1 answer 2 mates 3 at 4 mine 5 theirs 6 mark 7 one 8 two -/
def b__law_side_by_side (c__law_marks : List D → Mh → PQ → Prop) (c__law_goal : List D → Mh → PQ → Prop) (c__law_same_kind : List D → Mh → PQ → Prop) : DS :=
  (sSeq (sAsg (eD1 (eC (.int 0)) (eC (.int 0))) (gN 2))
  (sSeq (sFor (iRg1 (aCons (eCall lenD (aCons (eVar 1) aNil)) aNil)) (gN 3)
   (sSeq (sIf (bOr (bCmp ninD (eVar 3) (eVar 2)) (bNot (bTru (eFn 2 c__law_same_kind (aCons (eBin ixD (eVar 0) (eBin ixD (eVar 2) (eVar 3))) (aCons (eBin ixD (eVar 1) (eVar 3)) aNil))))))
    (sSeq (sRet (eC (.bl false)))
    sNil)
    sNil)
   (sSeq (sIf (bCmp eqD (eBin ixD (eBin ixD (eVar 1) (eVar 3)) (eC (.int 0))) (eC (.str "end")))
    (sSeq sCnt
    sNil)
    sNil)
   (sSeq (sAsg (eBin ixD (eBin ixD (eVar 0) (eBin ixD (eVar 2) (eVar 3))) (eC (.int 2))) (gN 4))
   (sSeq (sAsg (eBin ixD (eBin ixD (eVar 1) (eVar 3)) (eC (.int 2))) (gN 5))
   (sSeq (sFor (iSeq (eFn 1 c__law_marks (aCons (eLst (aCons (eVar 4) (aCons (eVar 5) aNil))) aNil))) (gN 6)
    (sSeq (sAsg (eFn 3 c__law_goal (aCons (eVar 4) (aCons (eBin ixD (eVar 6) (eC (.int 0))) (aCons (eBin ixD (eVar 6) (eC (.int 1))) aNil)))) (gN 7))
    (sSeq (sAsg (eFn 3 c__law_goal (aCons (eVar 5) (aCons (eBin ixD (eVar 6) (eC (.int 0))) (aCons (eBin ixD (eVar 6) (eC (.int 1))) aNil)))) (gN 8))
    (sSeq (sIf (bOr (bCmp isD (eVar 7) (eC .non)) (bCmp isD (eVar 8) (eC .non)))
     (sSeq (sIf (bOr (bCmp isnD (eVar 7) (eC .non)) (bCmp isnD (eVar 8) (eC .non)))
      (sSeq (sRet (eC (.bl false)))
      sNil)
      sNil)
     sNil)
     (sSeq (sIf (bCmp inD (eVar 8) (eVar 2))
      (sSeq (sIf (bCmp neD (eBin ixD (eVar 2) (eVar 8)) (eVar 7))
       (sSeq (sRet (eC (.bl false)))
       sNil)
       sNil)
      sNil)
      (sSeq (sIf (bCmp inD (eVar 7) (eVs (eVar 2)))
       (sSeq (sRet (eC (.bl false)))
       sNil)
       sNil)
      (sSeq (sAsg (eVar 7) (gS (eVar 2) (eVar 8)))
      sNil)))
     sNil))
    sNil))))
   sNil))))))
  (sSeq (sRet (eCmp eqD (eCall lenD (aCons (eVar 2) aNil)) (eCall lenD (aCons (eVar 1) aNil))))
  sNil)))
/-- slots: 0 machine 1 answer -/
def b__law_is_trim_of (c__law_side_by_side : List D → Mh → PQ → Prop) (c__law_fewest : List D → Mh → PQ → Prop) (c__law_walk_order : List D → Mh → PQ → Prop) (c__law_is_machine : List D → Mh → PQ → Prop) : DS :=
  (sSeq (sIf (bNot (bTru (eFn 1 c__law_is_machine (aCons (eVar 1) aNil))))
   (sSeq (sRet (eC (.bl false)))
   sNil)
   sNil)
  (sSeq (sIf (bCmp neD (eCall lenD (aCons (eVar 1) aNil)) (eCall lenD (aCons (eFn 1 c__law_walk_order (aCons (eVar 0) aNil)) aNil)))
   (sSeq (sRet (eC (.bl false)))
   sNil)
   sNil)
  (sSeq (sIf (bCmp neD (eFn 1 c__law_walk_order (aCons (eVar 1) aNil)) (eLr (eCall lenD (aCons (eVar 1) aNil))))
   (sSeq (sRet (eC (.bl false)))
   sNil)
   sNil)
  (sSeq (sRet (eAnd (eFn 1 c__law_fewest (aCons (eVar 1) aNil)) (eFn 2 c__law_side_by_side (aCons (eVar 0) (aCons (eVar 1) aNil)))))
  sNil))))
/-- slots: 0 machine 1 found 2 row -/
def b__law_turned : DS :=
  (sSeq (sAsg (eLst aNil) (gN 1))
  (sSeq (sFor (iSeq (eVar 0)) (gN 2)
   (sSeq (sIf (bCmp eqD (eBin ixD (eVar 2) (eC (.int 0))) (eC (.str "say")))
    (sSeq (sExp (eMt "list" appendD (eVar 1) (aCons (eTup (aCons (eC (.str "hear")) (aCons (eBin ixD (eVar 2) (eC (.int 1))) (aCons (eBin ixD (eVar 2) (eC (.int 2))) aNil)))) aNil)))
    sNil)
    (sSeq (sIf (bCmp eqD (eBin ixD (eVar 2) (eC (.int 0))) (eC (.str "hear")))
     (sSeq (sExp (eMt "list" appendD (eVar 1) (aCons (eTup (aCons (eC (.str "say")) (aCons (eBin ixD (eVar 2) (eC (.int 1))) (aCons (eBin ixD (eVar 2) (eC (.int 2))) aNil)))) aNil)))
     sNil)
     (sSeq (sExp (eMt "list" appendD (eVar 1) (aCons (eTup (aCons (eC (.str "end")) aNil)) aNil)))
     sNil))
    sNil))
   sNil))
  (sSeq (sRet (eCall tupleD (aCons (eVar 1) aNil)))
  sNil)))
/-- slots: 0 one 1 other -/
def b__law_equal : DS :=
  (sSeq (sRet (eAnd (eCmp eqD (eVar 0) (eVar 1)) (eCmp eqD (eCall reprD (aCons (eVar 0) aNil)) (eCall reprD (aCons (eVar 1) aNil)))))
  sNil)
/-- slots: 0 script 1 jar 2 ink 3 partners 4 labels 5 many 6 machine 7 other 8 first 9 second 10 again 11 turned -/
def b_law (c__law_equal : List D → Mh → PQ → Prop) (c__law_turned : List D → Mh → PQ → Prop) (c_trimmed : List D → Mh → PQ → Prop) (c_flipped : List D → Mh → PQ → Prop) (c__law_is_trim_of : List D → Mh → PQ → Prop) (c__law_loose : List D → Mh → PQ → Prop) (c__law_pick : List D → Mh → PQ → Prop) (c__law_jar : List D → Mh → PQ → Prop) (c__law_names : List D → Mh → PQ → Prop) : DS :=
  (sSeq (sAsg (eFn 2 c__law_jar (aCons (eVar 0) (aCons (eC (.int 0)) aNil))) (gN 1))
  (sSeq (sAsg (eFn 2 c__law_jar (aCons (eVar 0) (aCons (eC (.int 1)) aNil))) (gN 2))
  (sSeq (sAsg (eFn 2 c__law_names (aCons (eVar 2) (aCons (eBin addD (eC (.int 1)) (eFn 2 c__law_pick (aCons (eVar 1) (aCons (eC (.int 3)) aNil)))) aNil))) (gN 3))
  (sSeq (sAsg (eFn 2 c__law_names (aCons (eVar 2) (aCons (eC (.int 3)) aNil))) (gN 4))
  (sSeq (sAsg (eBin ixD (eLst (aCons (eC (.int 4)) (aCons (eC (.int 5)) (aCons (eC (.int 3)) (aCons (eC (.int 6)) (aCons (eC (.int 7)) (aCons (eC (.int 2)) (aCons (eC (.int 8)) (aCons (eC (.int 9)) (aCons (eC (.int 1)) (aCons (eC (.int 11)) (aCons (eC (.int 14)) (aCons (eC (.int 5)) (aCons (eC (.int 12)) (aCons (eC (.int 40)) (aCons (eC (.int 90)) aNil)))))))))))))))) (eFn 2 c__law_pick (aCons (eVar 1) (aCons (eC (.int 15)) aNil)))) (gN 5))
  (sSeq (sAsg (eFn 4 c__law_loose (aCons (eVar 1) (aCons (eVar 3) (aCons (eVar 4) (aCons (eVar 5) aNil))))) (gN 6))
  (sSeq (sAsg (eFn 4 c__law_loose (aCons (eFn 2 c__law_jar (aCons (eVar 0) (aCons (eC (.int 2)) aNil))) (aCons (eVar 3) (aCons (eVar 4) (aCons (eBin addD (eC (.int 1)) (eFn 2 c__law_pick (aCons (eVar 1) (aCons (eC (.int 8)) aNil)))) aNil))))) (gN 7))
  (sSeq (sAsg (eFn 1 c_trimmed (aCons (eVar 6) aNil)) (gN 8))
  (sSeq (sAsg (eFn 1 c_trimmed (aCons (eVar 7) aNil)) (gN 9))
  (sSeq (sAsg (eFn 1 c_trimmed (aCons (eVar 6) aNil)) (gN 10))
  (sSeq (sIf (bOr (bNot (bTru (eFn 2 c__law_is_trim_of (aCons (eVar 6) (aCons (eVar 8) aNil))))) (bNot (bTru (eFn 2 c__law_is_trim_of (aCons (eVar 7) (aCons (eVar 9) aNil))))))
   (sSeq (sRet (eC (.bl false)))
   sNil)
   sNil)
  (sSeq (sIf (bOr (bNot (bTru (eFn 2 c__law_equal (aCons (eVar 8) (aCons (eVar 10) aNil))))) (bNot (bTru (eFn 2 c__law_equal (aCons (eFn 1 c_trimmed (aCons (eVar 8) aNil)) (aCons (eVar 8) aNil))))))
   (sSeq (sRet (eC (.bl false)))
   sNil)
   sNil)
  (sSeq (sAsg (eFn 1 c__law_turned (aCons (eVar 6) aNil)) (gN 11))
  (sSeq (sIf (bOr (bNot (bTru (eFn 2 c__law_equal (aCons (eFn 1 c_flipped (aCons (eVar 6) aNil)) (aCons (eVar 11) aNil))))) (bNot (bTru (eFn 2 c__law_equal (aCons (eFn 1 c_flipped (aCons (eVar 7) aNil)) (aCons (eFn 1 c__law_turned (aCons (eVar 7) aNil)) aNil))))))
   (sSeq (sRet (eC (.bl false)))
   sNil)
   sNil)
  (sSeq (sIf (bNot (bTru (eFn 2 c__law_equal (aCons (eFn 1 c_flipped (aCons (eFn 1 c_flipped (aCons (eVar 6) aNil)) aNil)) (aCons (eVar 6) aNil)))))
   (sSeq (sRet (eC (.bl false)))
   sNil)
   sNil)
  (sSeq (sRet (eFn 2 c__law_equal (aCons (eFn 1 c_trimmed (aCons (eVar 11) aNil)) (aCons (eFn 1 c__law_turned (aCons (eVar 8) aNil)) aNil))))
  sNil))))))))))))))))
end K23
/-! K23d: that these bodies are those of the text, printed by gen.py -/
namespace K23
open PySem DL L2

def topS (i : Nat) : Stmt := PySem.Challenge.pw_swapwarrant_k23_machines_trimmed.main.body.getD i (.Pass ⟨0, 0, 0, 0⟩)
abbrev s_merged : Stmt := topS 1
theorem sc_merged : FnScope ["moves", "result", "move", "label", "lo", "hi", "goal", "last"] ["moves"] (defScope s_merged) := ⟨rfl, rfl, rfl, by decide +kernel, rfl, by decide +kernel, by decide +kernel⟩
theorem den_merged : dB (dR 24) 24 (gmOf ["moves", "result", "move", "label", "lo", "hi", "goal", "last"] (defScope s_merged) [] []) (defBody s_merged) = some (b_merged) := by kernel_rfl
abbrev s_moves_of : Stmt := topS 3
theorem sc_moves_of : FnScope ["standing"] ["standing"] (defScope s_moves_of) := ⟨rfl, rfl, rfl, by decide +kernel, rfl, by decide +kernel, by decide +kernel⟩
theorem den_moves_of : dB (dR 24) 24 (gmOf ["standing"] (defScope s_moves_of) [] []) (defBody s_moves_of) = some (b_moves_of) := by kernel_rfl
abbrev s_flipped_word : Stmt := topS 4
theorem sc_flipped_word : FnScope ["kind"] ["kind"] (defScope s_flipped_word) := ⟨rfl, rfl, rfl, by decide +kernel, rfl, by decide +kernel, by decide +kernel⟩
theorem den_flipped_word : dB (dR 24) 24 (gmOf ["kind"] (defScope s_flipped_word) [] []) (defBody s_flipped_word) = some (b_flipped_word) := by kernel_rfl
abbrev s_flipped_standing : Stmt := topS 5
theorem sc_flipped_standing : FnScope ["standing"] ["standing"] (defScope s_flipped_standing) := ⟨rfl, rfl, rfl, by decide +kernel, rfl, by decide +kernel, by decide +kernel⟩
theorem den_flipped_standing (c_flipped_word : DSp) : dB (dR 24) 24 (gmOf ["standing"] (defScope s_flipped_standing) [("flipped_word", 1, c_flipped_word)] []) (defBody s_flipped_standing) = some (b_flipped_standing c_flipped_word) := by kernel_rfl
abbrev s_flipped : Stmt := topS 6
theorem sc_flipped : FnScope ["machine", "standing"] ["machine"] (defScope s_flipped) := ⟨rfl, rfl, rfl, by decide +kernel, rfl, by decide +kernel, by decide +kernel⟩
theorem den_flipped (c_flipped_standing : DSp) : dB (dR 24) 24 (gmOf ["machine", "standing"] (defScope s_flipped) [("flipped_standing", 1, c_flipped_standing)] []) (defBody s_flipped) = some (b_flipped c_flipped_standing) := by kernel_rfl
abbrev s_standings_from : Stmt := topS 7
theorem sc_standings_from : FnScope ["machine", "start", "found", "seen", "at", "move"] ["machine", "start"] (defScope s_standings_from) := ⟨rfl, rfl, rfl, by decide +kernel, rfl, by decide +kernel, by decide +kernel⟩
theorem den_standings_from (c_moves_of : DSp) : dB (dR 24) 24 (gmOf ["machine", "start", "found", "seen", "at", "move"] (defScope s_standings_from) [("moves_of", 1, c_moves_of)] []) (defBody s_standings_from) = some (b_standings_from c_moves_of) := by kernel_rfl
abbrev s_renumbered : Stmt := topS 8
theorem sc_renumbered : FnScope ["standing", "numbers", "moves", "move"] ["standing", "numbers"] (defScope s_renumbered) := ⟨rfl, rfl, rfl, by decide +kernel, rfl, by decide +kernel, by decide +kernel⟩
theorem den_renumbered (c_merged : DSp) : dB (dR 24) 24 (gmOf ["standing", "numbers", "moves", "move"] (defScope s_renumbered) [("merged", 1, c_merged)] []) (defBody s_renumbered) = some (b_renumbered c_merged) := by kernel_rfl
abbrev s_trimmed_from : Stmt := topS 9
theorem sc_trimmed_from : FnScope ["machine", "start", "found", "numbers", "at", "standing"] ["machine", "start"] (defScope s_trimmed_from) := ⟨rfl, rfl, rfl, by decide +kernel, rfl, by decide +kernel, by decide +kernel⟩
theorem den_trimmed_from (c_renumbered : DSp) (c_standings_from : DSp) : dB (dR 24) 24 (gmOf ["machine", "start", "found", "numbers", "at", "standing"] (defScope s_trimmed_from) [("renumbered", 2, c_renumbered), ("standings_from", 2, c_standings_from)] []) (defBody s_trimmed_from) = some (b_trimmed_from c_renumbered c_standings_from) := by kernel_rfl
abbrev s_trimmed : Stmt := topS 10
theorem sc_trimmed : FnScope ["machine"] ["machine"] (defScope s_trimmed) := ⟨rfl, rfl, rfl, by decide +kernel, rfl, by decide +kernel, by decide +kernel⟩
theorem den_trimmed (c_trimmed_from : DSp) : dB (dR 24) 24 (gmOf ["machine"] (defScope s_trimmed) [("trimmed_from", 2, c_trimmed_from)] []) (defBody s_trimmed) = some (b_trimmed c_trimmed_from) := by kernel_rfl
abbrev s__law_cell : Stmt := topS 12
theorem sc__law_cell : FnScope ["script", "place"] ["script", "place"] (defScope s__law_cell) := ⟨rfl, rfl, rfl, by decide +kernel, rfl, by decide +kernel, by decide +kernel⟩
theorem den__law_cell : dB (dR 24) 24 (gmOf ["script", "place"] (defScope s__law_cell) [] []) (defBody s__law_cell) = some (b__law_cell) := by kernel_rfl
abbrev s__law_jar : Stmt := topS 13
theorem sc__law_jar : FnScope ["script", "place", "cell", "number"] ["script", "place"] (defScope s__law_jar) := ⟨rfl, rfl, rfl, by decide +kernel, rfl, by decide +kernel, by decide +kernel⟩
theorem den__law_jar (c__law_cell : DSp) : dB (dR 24) 24 (gmOf ["script", "place", "cell", "number"] (defScope s__law_jar) [("_law_cell", 2, c__law_cell)] []) (defBody s__law_jar) = some (b__law_jar c__law_cell) := by kernel_rfl
abbrev s__law_pick : Stmt := topS 14
theorem sc__law_pick : FnScope ["jar", "many", "found"] ["jar", "many"] (defScope s__law_pick) := ⟨rfl, rfl, rfl, by decide +kernel, rfl, by decide +kernel, by decide +kernel⟩
theorem den__law_pick : dB (dR 24) 24 (gmOf ["jar", "many", "found"] (defScope s__law_pick) [] []) (defBody s__law_pick) = some (b__law_pick) := by kernel_rfl
abbrev s__law_name : Stmt := topS 15
theorem sc__law_name : FnScope ["jar", "index", "letters", "word", "count", "at"] ["jar", "index"] (defScope s__law_name) := ⟨rfl, rfl, rfl, by decide +kernel, rfl, by decide +kernel, by decide +kernel⟩
theorem den__law_name (c__law_pick : DSp) : dB (dR 24) 24 (gmOf ["jar", "index", "letters", "word", "count", "at"] (defScope s__law_name) [("_law_pick", 2, c__law_pick)] []) (defBody s__law_name) = some (b__law_name c__law_pick) := by kernel_rfl
abbrev s__law_names : Stmt := topS 16
theorem sc__law_names : FnScope ["jar", "many", "index"] ["jar", "many"] (defScope s__law_names) := ⟨rfl, rfl, rfl, by decide +kernel, rfl, by decide +kernel, by decide +kernel⟩
theorem den__law_names (c__law_name : DSp) : dB (dR 24) 24 (gmOf ["jar", "many", "index"] (defScope s__law_names) [("_law_name", 2, c__law_name)] []) (defBody s__law_names) = some (b__law_names c__law_name) := by kernel_rfl
abbrev s__law_goal : Stmt := topS 17
theorem sc__law_goal : FnScope ["moves", "label", "value", "move"] ["moves", "label", "value"] (defScope s__law_goal) := ⟨rfl, rfl, rfl, by decide +kernel, rfl, by decide +kernel, by decide +kernel⟩
theorem den__law_goal : dB (dR 24) 24 (gmOf ["moves", "label", "value", "move"] (defScope s__law_goal) [] []) (defBody s__law_goal) = some (b__law_goal) := by kernel_rfl
abbrev s__law_marks : Stmt := topS 18
theorem sc__law_marks : FnScope ["rows", "found", "moves", "move", "value"] ["rows"] (defScope s__law_marks) := ⟨rfl, rfl, rfl, by decide +kernel, rfl, by decide +kernel, by decide +kernel⟩
theorem den__law_marks : dB (dR 24) 24 (gmOf ["rows", "found", "moves", "move", "value"] (defScope s__law_marks) [] []) (defBody s__law_marks) = some (b__law_marks) := by kernel_rfl
abbrev s__law_same_kind : Stmt := topS 19
theorem sc__law_same_kind : FnScope ["one", "other"] ["one", "other"] (defScope s__law_same_kind) := ⟨rfl, rfl, rfl, by decide +kernel, rfl, by decide +kernel, by decide +kernel⟩
theorem den__law_same_kind : dB (dR 24) 24 (gmOf ["one", "other"] (defScope s__law_same_kind) [] []) (defBody s__law_same_kind) = some (b__law_same_kind) := by kernel_rfl
abbrev s__law_is_number : Stmt := topS 20
theorem sc__law_is_number : FnScope ["thing"] ["thing"] (defScope s__law_is_number) := ⟨rfl, rfl, rfl, by decide +kernel, rfl, by decide +kernel, by decide +kernel⟩
theorem den__law_is_number : dB (dR 24) 24 (gmOf ["thing"] (defScope s__law_is_number) [] []) (defBody s__law_is_number) = some (b__law_is_number) := by kernel_rfl
abbrev s__law_is_name : Stmt := topS 21
theorem sc__law_is_name : FnScope ["thing", "letters", "sign"] ["thing"] (defScope s__law_is_name) := ⟨rfl, rfl, rfl, by decide +kernel, rfl, by decide +kernel, by decide +kernel⟩
theorem den__law_is_name : dB (dR 24) 24 (gmOf ["thing", "letters", "sign"] (defScope s__law_is_name) [] []) (defBody s__law_is_name) = some (b__law_is_name) := by kernel_rfl
abbrev s__law_is_label : Stmt := topS 22
theorem sc__law_is_label : FnScope ["thing", "words"] ["thing"] (defScope s__law_is_label) := ⟨rfl, rfl, rfl, by decide +kernel, rfl, by decide +kernel, by decide +kernel⟩
theorem den__law_is_label (c__law_is_name : DSp) : dB (dR 24) 24 (gmOf ["thing", "words"] (defScope s__law_is_label) [("_law_is_name", 1, c__law_is_name)] []) (defBody s__law_is_label) = some (b__law_is_label c__law_is_name) := by kernel_rfl
abbrev s__law_is_move : Stmt := topS 23
theorem sc__law_is_move : FnScope ["thing", "many", "part"] ["thing", "many"] (defScope s__law_is_move) := ⟨rfl, rfl, rfl, by decide +kernel, rfl, by decide +kernel, by decide +kernel⟩
theorem den__law_is_move (c__law_is_number : DSp) (c__law_is_label : DSp) : dB (dR 24) 24 (gmOf ["thing", "many", "part"] (defScope s__law_is_move) [("_law_is_number", 1, c__law_is_number), ("_law_is_label", 1, c__law_is_label)] []) (defBody s__law_is_move) = some (b__law_is_move c__law_is_number c__law_is_label) := by kernel_rfl
abbrev s__law_is_moves : Stmt := topS 24
theorem sc__law_is_moves : FnScope ["thing", "many", "move", "at"] ["thing", "many"] (defScope s__law_is_moves) := ⟨rfl, rfl, rfl, by decide +kernel, rfl, by decide +kernel, by decide +kernel⟩
theorem den__law_is_moves (c__law_is_move : DSp) : dB (dR 24) 24 (gmOf ["thing", "many", "move", "at"] (defScope s__law_is_moves) [("_law_is_move", 2, c__law_is_move)] []) (defBody s__law_is_moves) = some (b__law_is_moves c__law_is_move) := by kernel_rfl
abbrev s__law_is_machine : Stmt := topS 25
theorem sc__law_is_machine : FnScope ["thing", "standing"] ["thing"] (defScope s__law_is_machine) := ⟨rfl, rfl, rfl, by decide +kernel, rfl, by decide +kernel, by decide +kernel⟩
theorem den__law_is_machine (c__law_is_moves : DSp) (c__law_is_label : DSp) : dB (dR 24) 24 (gmOf ["thing", "standing"] (defScope s__law_is_machine) [("_law_is_moves", 2, c__law_is_moves), ("_law_is_label", 1, c__law_is_label)] []) (defBody s__law_is_machine) = some (b__law_is_machine c__law_is_moves c__law_is_label) := by kernel_rfl
abbrev s__law_spans_row : Stmt := topS 26
theorem sc__law_spans_row : FnScope ["jar", "label", "goals", "found", "low", "count", "high"] ["jar", "label", "goals"] (defScope s__law_spans_row) := ⟨rfl, rfl, rfl, by decide +kernel, rfl, by decide +kernel, by decide +kernel⟩
theorem den__law_spans_row (c__law_pick : DSp) : dB (dR 24) 24 (gmOf ["jar", "label", "goals", "found", "low", "count", "high"] (defScope s__law_spans_row) [("_law_pick", 2, c__law_pick)] []) (defBody s__law_spans_row) = some (b__law_spans_row c__law_pick) := by kernel_rfl
abbrev s__law_mixed_moves : Stmt := topS 27
theorem sc__law_mixed_moves : FnScope ["jar", "labels", "goals", "found", "shift", "label"] ["jar", "labels", "goals"] (defScope s__law_mixed_moves) := ⟨rfl, rfl, rfl, by decide +kernel, rfl, by decide +kernel, by decide +kernel⟩
theorem den__law_mixed_moves (c__law_pick : DSp) (c__law_spans_row : DSp) : dB (dR 24) 24 (gmOf ["jar", "labels", "goals", "found", "shift", "label"] (defScope s__law_mixed_moves) [("_law_pick", 2, c__law_pick), ("_law_spans_row", 3, c__law_spans_row)] []) (defBody s__law_mixed_moves) = some (b__law_mixed_moves c__law_pick c__law_spans_row) := by kernel_rfl
abbrev s__law_loose : Stmt := topS 28
theorem sc__law_loose : FnScope ["jar", "partners", "labels", "many", "found", "at", "goals", "kind", "partner"] ["jar", "partners", "labels", "many"] (defScope s__law_loose) := ⟨rfl, rfl, rfl, by decide +kernel, rfl, by decide +kernel, by decide +kernel⟩
theorem den__law_loose (c__law_mixed_moves : DSp) (c__law_pick : DSp) : dB (dR 24) 24 (gmOf ["jar", "partners", "labels", "many", "found", "at", "goals", "kind", "partner"] (defScope s__law_loose) [("_law_mixed_moves", 3, c__law_mixed_moves), ("_law_pick", 2, c__law_pick)] []) (defBody s__law_loose) = some (b__law_loose c__law_mixed_moves c__law_pick) := by kernel_rfl
abbrev s__law_walk_order : Stmt := topS 29
theorem sc__law_walk_order : FnScope ["machine", "found", "count", "move"] ["machine"] (defScope s__law_walk_order) := ⟨rfl, rfl, rfl, by decide +kernel, rfl, by decide +kernel, by decide +kernel⟩
theorem den__law_walk_order : dB (dR 24) 24 (gmOf ["machine", "found", "count", "move"] (defScope s__law_walk_order) [] []) (defBody s__law_walk_order) = some (b__law_walk_order) := by kernel_rfl
abbrev s__law_fewest : Stmt := topS 30
theorem sc__law_fewest : FnScope ["machine", "row", "at", "one", "two"] ["machine"] (defScope s__law_fewest) := ⟨rfl, rfl, rfl, by decide +kernel, rfl, by decide +kernel, by decide +kernel⟩
theorem den__law_fewest : dB (dR 24) 24 (gmOf ["machine", "row", "at", "one", "two"] (defScope s__law_fewest) [] []) (defBody s__law_fewest) = some (b__law_fewest) := by kernel_rfl
abbrev s__law_side_by_side : Stmt := topS 31
theorem sc__law_side_by_side : FnScope ["machine", "answer", "mates", "at", "mine", "theirs", "mark", "one", "two"] ["machine", "answer"] (defScope s__law_side_by_side) := ⟨rfl, rfl, rfl, by decide +kernel, rfl, by decide +kernel, by decide +kernel⟩
theorem den__law_side_by_side (c__law_marks : DSp) (c__law_goal : DSp) (c__law_same_kind : DSp) : dB (dR 24) 24 (gmOf ["machine", "answer", "mates", "at", "mine", "theirs", "mark", "one", "two"] (defScope s__law_side_by_side) [("_law_marks", 1, c__law_marks), ("_law_goal", 3, c__law_goal), ("_law_same_kind", 2, c__law_same_kind)] []) (defBody s__law_side_by_side) = some (b__law_side_by_side c__law_marks c__law_goal c__law_same_kind) := by kernel_rfl
abbrev s__law_is_trim_of : Stmt := topS 32
theorem sc__law_is_trim_of : FnScope ["machine", "answer"] ["machine", "answer"] (defScope s__law_is_trim_of) := ⟨rfl, rfl, rfl, by decide +kernel, rfl, by decide +kernel, by decide +kernel⟩
theorem den__law_is_trim_of (c__law_side_by_side : DSp) (c__law_fewest : DSp) (c__law_walk_order : DSp) (c__law_is_machine : DSp) : dB (dR 24) 24 (gmOf ["machine", "answer"] (defScope s__law_is_trim_of) [("_law_side_by_side", 2, c__law_side_by_side), ("_law_fewest", 1, c__law_fewest), ("_law_walk_order", 1, c__law_walk_order), ("_law_is_machine", 1, c__law_is_machine)] []) (defBody s__law_is_trim_of) = some (b__law_is_trim_of c__law_side_by_side c__law_fewest c__law_walk_order c__law_is_machine) := by kernel_rfl
abbrev s__law_turned : Stmt := topS 33
theorem sc__law_turned : FnScope ["machine", "found", "row"] ["machine"] (defScope s__law_turned) := ⟨rfl, rfl, rfl, by decide +kernel, rfl, by decide +kernel, by decide +kernel⟩
theorem den__law_turned : dB (dR 24) 24 (gmOf ["machine", "found", "row"] (defScope s__law_turned) [] []) (defBody s__law_turned) = some (b__law_turned) := by kernel_rfl
abbrev s__law_equal : Stmt := topS 34
theorem sc__law_equal : FnScope ["one", "other"] ["one", "other"] (defScope s__law_equal) := ⟨rfl, rfl, rfl, by decide +kernel, rfl, by decide +kernel, by decide +kernel⟩
theorem den__law_equal : dB (dR 24) 24 (gmOf ["one", "other"] (defScope s__law_equal) [] []) (defBody s__law_equal) = some (b__law_equal) := by kernel_rfl
abbrev s_law : Stmt := topS 35
theorem sc_law : FnScope ["script", "jar", "ink", "partners", "labels", "many", "machine", "other", "first", "second", "again", "turned"] ["script"] (defScope s_law) := ⟨rfl, rfl, rfl, by decide +kernel, rfl, by decide +kernel, by decide +kernel⟩
theorem den_law (c__law_equal : DSp) (c__law_turned : DSp) (c_trimmed : DSp) (c_flipped : DSp) (c__law_is_trim_of : DSp) (c__law_loose : DSp) (c__law_pick : DSp) (c__law_jar : DSp) (c__law_names : DSp) : dB (dR 24) 24 (gmOf ["script", "jar", "ink", "partners", "labels", "many", "machine", "other", "first", "second", "again", "turned"] (defScope s_law) [("_law_equal", 2, c__law_equal), ("_law_turned", 1, c__law_turned), ("trimmed", 1, c_trimmed), ("flipped", 1, c_flipped), ("_law_is_trim_of", 2, c__law_is_trim_of), ("_law_loose", 4, c__law_loose), ("_law_pick", 2, c__law_pick), ("_law_jar", 2, c__law_jar), ("_law_names", 2, c__law_names)] []) (defBody s_law) = some (b_law c__law_equal c__law_turned c_trimmed c_flipped c__law_is_trim_of c__law_loose c__law_pick c__law_jar c__law_names) := by kernel_rfl
end K23
/-! K23m: a machine and what it is trimmed to, side by side: plain mathematics. -/
namespace K23
open PySem DL L2 LW TM
def goalOf (ms : List Mo) (z : Str) (v : Int) : Option Int := (K02.nexts ms z v).head?
theorem nexts_re (fs : List Int) (ms : List Mo) (z : Str) (v : Int) : K02.nexts (ms.map (reM fs)) z v = (K02.nexts ms z v).map (ix fs) := by
  unfold K02.nexts
  rw [List.filter_map, List.map_map, List.map_map]
  rfl
theorem goal_re {n : Int} {ms : List Mo} (h : Row n ms) (fs : List Int) (z : Str) (v : Int) : goalOf ((mrgL ms).map (reM fs)) z v = (goalOf ms z v).map (ix fs) := by
  unfold goalOf
  rw [nexts_re, (mrg_ok ms h).nx]
  cases K02.nexts ms z v <;> rfl
theorem goal_mem {ms : List Mo} {z : Str} {v g : Int} (h : goalOf ms z v = some g) : g ∈ ms.map Mo.g := by
  unfold goalOf K02.nexts at h
  have := List.mem_of_mem_head? h
  obtain ⟨m, hm, rfl⟩ := List.mem_map.mp this
  exact List.mem_map.mpr ⟨m, (List.mem_filter.mp hm).1, rfl⟩
theorem goal_own {n : Int} {ms : List Mo} (h : Row n ms) {m : Mo} (hm : m ∈ ms) : goalOf ms m.z m.l = some m.g := by
  have lh := (h.ok m hm).lh
  have im : K02.ins m.z m.l m = true := K02.ins_iff.mpr ⟨rfl, Int.le_refl _, lh⟩
  have hf : m ∈ ms.filter (K02.ins m.z m.l) := List.mem_filter.mpr ⟨hm, im⟩
  unfold goalOf K02.nexts
  cases q : ms.filter (K02.ins m.z m.l) with
  | nil => rw [q] at hf; cases hf
  | cons x r =>
    have hx : x ∈ ms.filter (K02.ins m.z m.l) := by rw [q]; exact List.mem_cons_self
    obtain ⟨x1, x2⟩ := List.mem_filter.mp hx
    have e : x = m := by
      obtain ⟨i, hi⟩ := List.getElem?_of_mem x1
      obtain ⟨k, hk⟩ := List.getElem?_of_mem hm
      obtain ⟨il, ie⟩ := List.getElem?_eq_some_iff.mp hi
      obtain ⟨kl, ke⟩ := List.getElem?_eq_some_iff.mp hk
      have p := List.pairwise_iff_getElem.mp h.asc
      rcases Nat.lt_trichotomy i k with c | c | c
      · have := p i k il kl c
        rw [ie, ke] at this
        exact absurd im (K02.lt_not_both this x2)
      · subst c
        exact ie.symm.trans ke
      · have := p k i kl il c
        rw [ie, ke] at this
        exact absurd x2 (K02.lt_not_both this im)
    show some x.g = some m.g
    rw [e]

/-! ### who goes with whom -/
def fAt (fs : List Int) (k : Int) : Int := (fs[k.toNat]?).getD 0
def mates (fs ks : List Int) : List (Key × D) := ks.map fun k => (Sum.inl k, .int (fAt fs k))
theorem fat_of {fs : List Int} {i : Nat} {b : Int} (h : fs[i]? = some b) : fAt fs (i : Nat) = b := by
  unfold fAt
  rw [Int.toNat_natCast, h]; rfl
theorem fat_ix {fs : List Int} {g : Int} (h : g ∈ fs) : fAt fs (ix fs g) = g := by
  unfold fAt
  rw [at_ix h]; rfl
theorem mates_keys (fs ks : List Int) : (mates fs ks).map (·.1) = ks.map Sum.inl := by
  unfold mates
  rw [List.map_map]; rfl
theorem mates_vals (fs ks : List Int) : (mates fs ks).map (·.2) = (ks.map (fAt fs)).map D.int := by
  unfold mates
  rw [List.map_map, List.map_map]; rfl
theorem mates_val {fs : List Int} {k : Int} : ∀ {ks : List Int}, k ∈ ks → valD (mates fs ks) (Sum.inl k) = some (.int (fAt fs k))
  | [], h => by cases h
  | x :: r, h => by
    show valD ((Sum.inl x, .int (fAt fs x)) :: mates fs r) (Sum.inl k) = _
    by_cases e : x = k
    · rw [valD_pos (show (Sum.inl x : Key) = Sum.inl k by rw [e]), e]
    · rw [valD_neg (show ¬ (Sum.inl x : Key) = Sum.inl k from fun z => e (Sum.inl.inj z))]
      exact mates_val ((List.mem_cons.mp h).resolve_left fun z => e z.symm)
theorem mates_none {fs : List Int} {k : Int} : ∀ {ks : List Int}, k ∉ ks → valD (mates fs ks) (Sum.inl k) = none
  | [], _ => rfl
  | x :: r, h => by
    show valD ((Sum.inl x, .int (fAt fs x)) :: mates fs r) (Sum.inl k) = _
    rw [valD_neg (show ¬ (Sum.inl x : Key) = Sum.inl k from fun z => h (by rw [Sum.inl.inj z]; exact List.mem_cons_self))]
    exact mates_none fun z => h (List.mem_cons_of_mem _ z)
theorem mates_put {fs ks : List Int} {g : Int} (hg : g ∈ fs) (h : ix fs g ∉ ks) : putD (mates fs ks) (Sum.inl (ix fs g)) (.int g) = mates fs (ks ++ [ix fs g]) := by
  rw [putD_new _ (mates_none h)]
  unfold mates
  rw [List.map_append, List.map_singleton, fat_ix hg]
/-- what is known of the pairs so far -/
structure Pairs (sts : Sts) (fs : List Int) (i : Nat) (ks : List Int) : Prop where
  nd : ks.Nodup
  rng : ∀ k ∈ ks, 0 ≤ k ∧ k < fs.length
  zero : 0 ∈ ks
  done : ∀ (a : Nat) (b : Int), a < i → fs[a]? = some b → ∀ c ∈ gsAt sts b, ix fs c ∈ ks
theorem Pairs.add {sts : Sts} {fs ks : List Int} {i : Nat} {g : Int} (P : Pairs sts fs i ks) (hg : g ∈ fs) (h : ix fs g ∉ ks) : Pairs sts fs i (ks ++ [ix fs g]) := by
  refine ⟨List.nodup_append.mpr ⟨P.nd, by simp, fun a ha b hb e => h (by rw [← List.mem_singleton.mp hb, ← e]; exact ha)⟩, fun k hk => ?_, List.mem_append_left _ P.zero, fun a b ha hb c hc => List.mem_append_left _ (P.done a b ha hb c hc)⟩
  rcases List.mem_append.mp hk with hk | hk
  · exact P.rng k hk
  · rw [List.mem_singleton.mp hk]; exact ix_rng hg
theorem Pairs.new {sts : Sts} {fs ks : List Int} {i : Nat} {g : Int} (P : Pairs sts fs i ks) (nd : fs.Nodup) (hg : g ∈ fs) (h : ix fs g ∉ ks) : g ∉ ks.map (fAt fs) := fun z => by
  obtain ⟨k, hk, rfl⟩ := List.mem_map.mp z
  have r := P.rng k hk
  have e := List.getElem?_eq_getElem (show k.toNat < fs.length by omega)
  have e2 : fAt fs k = fs[k.toNat]'(by omega) := by unfold fAt; rw [e]; rfl
  rw [e2, ix_at nd e] at h
  exact h (by rw [show ((k.toNat : Nat) : Int) = k by omega]; exact hk)
section
variable {n : Nat} {sts : Sts}
theorem pairs_at (h : MaOk n sts) {i : Nat} {ks : List Int} (P : Pairs sts (walk sts 0) i ks) (hi : i < (walk sts 0).length) : ((i : Nat) : Int) ∈ ks := by
  rcases Nat.eq_zero_or_pos i with z | z
  · rw [z]; exact P.zero
  · have e := List.getElem?_eq_getElem hi
    generalize (walk sts 0)[i] = b at e
    obtain ⟨k, c, k1, _, k2, k3⟩ := W_from (sts := sts) (a := 0) (i := sts.length) z e (Nat.le_refl _)
    have := P.done k c k1 k2 b k3
    rwa [ix_at (show (walk sts 0).Nodup from W_nd _) e] at this
theorem pairs_len (h : MaOk n sts) {ks : List Int} (P : Pairs sts (walk sts 0) (walk sts 0).length ks) : ks.length = (walk sts 0).length := by
  have h1 := nd_len P.nd P.rng
  have h2 : (rngL (walk sts 0).length).length ≤ ks.length := (rngL_nd _).length_le_of_subset fun k hk => by
    have r := rngL_mem.mp hk
    obtain ⟨kn, rfl⟩ : ∃ kn : Nat, k = (kn : Int) := ⟨k.toNat, by omega⟩
    have hl : kn < (walk sts 0).length := by omega
    exact pairs_at h (i := kn) ⟨P.nd, P.rng, P.zero, fun a b ha => P.done a b (by omega)⟩ hl
  rw [rngL_len] at h2
  omega
end
end K23
/-! K23p: machines drawn. -/
namespace K23
open PySem DL L2 LW GR TM
-- where it stands in the row of things held
local macro_rules | `(tactic| walk_at "m") => `(tactic| first
  | assumption
  | exact List.mem_cons_self
  | (refine List.mem_cons_of_mem _ ?_; walk_at "m"))
-- what the heap holds at a place
local macro_rules | `(tactic| walk_at "h") => `(tactic| first
  | assumption
  | exact mup_same
  | exact Held.get (by assumption) (by walk_at "m")
  | (refine (mup_ne ?_).trans ?_ <;> first | assumption | (apply Ne.symm; assumption) | walk_at "h"))
-- small facts of numbers
local macro_rules | `(tactic| walk_at "n") => `(tactic| first
  | assumption
  | omega
  | decide
  | (exact CMul.r (by decide))
  | (exact CMul.l (by decide))
  | (refine ⟨?_, ?_⟩ <;> first | assumption | omega | decide))
-- lengths
local macro_rules | `(tactic| walk_at "l") => `(tactic| first
  | assumption
  | (rw [sizeLine_eq]; first | omega | decide | (simp; done) | (simp; omega) | decide +kernel))
-- one step
local macro_rules | `(tactic| walk_at "e1") => `(tactic| first
  | with_reducible refine t_nil ?_
  | ((with_reducible refine' t_var ?s ?_); (case s => first | exact rfl | assumption))
  | with_reducible refine t_c ?_
  | with_reducible refine t_bin ?_
  | with_reducible refine t_if ?_
  | with_reducible refine t_asg ?_
  | ((with_reducible refine' t_gN' ?e ?_); (case e => ((try simp only [List.set_cons_zero, List.set_cons_succ, startD, List.map_cons, List.map_nil, List.length_cons, List.length_nil, Nat.reduceAdd, Nat.reduceSub, List.replicate, List.cons_append, List.nil_append]); exact rfl)))
  | with_reducible refine t_ret ?_
  | with_reducible refine t_exp ?_
  | with_reducible refine t_bcmp ?_
  | with_reducible refine t_band ?_
  | with_reducible refine t_bor ?_
  | with_reducible refine t_bnot ?_
  | with_reducible refine t_btru ?_
  | with_reducible refine t_byes ?_
  | with_reducible refine t_an ?_
  | with_reducible refine t_ac ?_
  | with_reducible refine t_fn ?_
  | with_reducible refine t_call ?_
  | with_reducible refine t_cmp ?_
  | with_reducible refine t_and ?_
  | with_reducible refine t_or ?_
  | with_reducible refine t_not ?_
  | with_reducible refine t_ife ?_
  | with_reducible refine t_tupN ?_
  | ((with_reducible refine v_newT ?l ?_); (case l => exact Nat.le_of_ble_eq_true rfl))
  | with_reducible refine t_lstN ?_
  | with_reducible refine t_isi ?_
  | with_reducible refine t_sl ?_
  | with_reducible refine t_o0 ?_
  | with_reducible refine t_o1 ?_
  | with_reducible refine t_un ?_
  | with_reducible refine t_mt ?_
  | with_reducible refine t_gS ?_
  | with_reducible refine t_gsC ?_
  | with_reducible refine t_gsN ?_
  | ((with_reducible refine t_gT ?s ?_); (case s => first | assumption | exact rfl))
  | with_reducible refine t_retN ?_
  | with_reducible refine t_brk ?_
  | with_reducible refine t_cnt ?_
  | ((with_reducible refine' t_aug ?s ?_); (case s => first | exact rfl | assumption))
  | with_reducible refine t_for ?_
  | with_reducible refine t_seqi ?_
  | with_reducible refine t_rg1 ?_
  | with_reducible refine t_rg2 ?_
  | with_reducible refine t_lc ?_
  | with_reducible refine v_tru_bl ?_
  | with_reducible refine v_tru_int ?_
  | with_reducible refine v_tru_non ?_
  | with_reducible refine v_tru_tup ?_
  | with_reducible refine v_add_int ?_
  | ((with_reducible refine v_add_str ?l ?_); (case l => walk_at "l"))
  | ((with_reducible refine v_add_tup ?l ?_); (case l => walk_at "l"))
  | with_reducible refine v_iadd_int ?_
  | with_reducible refine v_sub ?_
  | ((with_reducible refine v_mul ?c ?_); (case c => walk_at "n"))
  | ((with_reducible refine v_div ?c ?_); (case c => walk_at "n"))
  | ((with_reducible refine v_mod ?c ?_); (case c => walk_at "n"))
  | ((with_reducible refine v_pow ?c ?_); (case c => exact ⟨by decide, by decide, by decide⟩))
  | with_reducible refine v_neg ?_
  | with_reducible exact trivial
  | with_reducible refine v_eq_int ?_
  | with_reducible refine v_eq_str ?_
  | with_reducible refine v_eq_bl ?_
  | with_reducible refine v_ne_int ?_
  | with_reducible refine v_ne_str ?_
  | with_reducible refine v_ne_bl ?_
  | with_reducible refine v_lt ?_
  | with_reducible refine v_lt_str ?_
  | with_reducible refine t_ks ?_
  | with_reducible refine t_rv ?_
  | with_reducible refine v_seq_ktp ?_
  | with_reducible refine v_le ?_
  | with_reducible refine v_gt ?_
  | with_reducible refine v_ge ?_
  | with_reducible refine v_isi_non ?_
  | with_reducible refine v_isi_bl ?_
  | with_reducible refine v_isi_int ?_
  | with_reducible refine v_isi_str ?_
  | with_reducible refine v_isi_tup ?_
  | with_reducible refine v_in_str ?_
  | with_reducible refine v_nin_str ?_
  | with_reducible refine v_len_tup ?_
  | with_reducible refine v_len_rol ?_
  | with_reducible refine v_len_ktp ?_
  | with_reducible refine v_tru_ktp ?_
  | with_reducible refine v_isi_ktp ?_
  | with_reducible refine v_tuple_ktp ?_
  | with_reducible refine t_zip ?_
  | with_reducible refine v_zip_tt ?_
  | with_reducible refine v_zip_tk ?_
  | with_reducible refine v_zip_kt ?_
  | with_reducible refine v_zip_kk ?_
  | ((with_reducible refine' v_zip_ll ?e ?f ?_); (case e => walk_at "h"); (case f => walk_at "h"))
  | with_reducible refine t_ix ?_
  | ((with_reducible refine' ⟨seqK_ref ?e, ?_⟩); (case e => walk_at "h"))
  | with_reducible refine t_lr ?_
  | ((with_reducible refine' v_ix_ktp ?f ?_); (case f => first | assumption | exact rfl))
  | ((with_reducible refine t_gTk ?s ?_); (case s => first | assumption | exact rfl))
  | ((with_reducible refine v_len_str ?l ?_); (case l => walk_at "l"))
  | ((with_reducible refine' v_len_ref ?e ?_); (case e => walk_at "h"))
  | with_reducible refine v_int_int ?_
  | with_reducible refine v_int_bl ?_
  | with_reducible refine v_max ?_
  | with_reducible refine v_min ?_
  | with_reducible refine v_tuple_tup ?_
  | ((with_reducible refine' v_tuple_ref ?e ?_); (case e => walk_at "h"))
  | ((with_reducible refine' v_ix_ref ?e ?f ?_); (case e => walk_at "h"); (case f => first | assumption | exact rfl))
  | ((with_reducible refine' v_ix_tup ?f ?_); (case f => first | assumption | exact rfl))
  | ((with_reducible refine v_sl_str ?l ?_); (case l => walk_at "l"))
  | with_reducible refine v_sl_tup ?_
  | with_reducible refine v_seq_tup ?_
  | with_reducible refine v_seq_str ?_
  | with_reducible refine v_seq_rol ?_
  | ((with_reducible refine' v_seq_ref ?e ?_); (case e => walk_at "h"))
  | ((with_reducible refine' ⟨v_ty_ref ?e, ?_⟩); (case e => walk_at "h")))
local macro_rules | `(tactic| walk_at "d1") => `(tactic| first | with_reducible refine t_seq ?_ | walk_at "e1")
local macro_rules | `(tactic| walk_at "d") => `(tactic| repeat walk_at "d1")
-- one statement
local macro_rules | `(tactic| walk_at "e") => `(tactic| ((repeat walk_at "e1"); try (with_reducible show sSeq _ _ _ _ _)))
local macro_rules | `(tactic| walk_at "s") => `(tactic| ((with_reducible refine t_seq ?_); walk_at "e"))
-- a drawn thing's small facts
local macro_rules | `(tactic| walk_at "gi") => `(tactic| first
  | exact gi_c trivial
  | exact gi_c ⟨_, rfl, by decide, by decide⟩
  | exact gi_c (show _ ≤ _ by decide)
  | exact gi_c (show _ ≤ _ by decide +kernel)
  | exact gi_v rfl trivial)
local macro_rules | `(tactic| walk_at "ga") => `(tactic| ((repeat (first | exact ga_nil | refine ga_cons2 ?_ ?_)); all_goals (try walk_at "gi")))
def sp_loose : DSp := fun ds M P => ∃ (Js : List Addr) (L : List (Addr × MO)) (j pa lb : Addr) (ps zs : List Str) (n : Nat), ds = [.ref j, .ref pa, .ref lb, .int n] ∧ Held M Js L ∧ j ∈ Js ∧ (pa, .lst (ps.map D.str)) ∈ L ∧ (lb, .lst (zs.map D.str)) ∈ L ∧ (∀ z ∈ ps, lab z) ∧ 0 < ps.length ∧ ps.length ≤ 10 ∧ Lbs zs ∧ 0 < zs.length ∧ zs.length ≤ 3 ∧
  1 ≤ n ∧ n ≤ 100 ∧ ∀ (sts : Sts) M', MaOk n sts → Held M' Js L → P (machD sts) M'
theorem ok_loose (ds : List D) (M : Mh) (P : PQ) (h : sp_loose ds M P) : b__law_loose sp_mixed_moves sp_pick { nx := fun _ M' => P .non M', rt := P } (startD 9 ds) M := by
  obtain ⟨Js, L, j, pa, lb, ps, zs, n, rfl, H, hj, mp, ml, hp, p0, p1, hz, z0, z1, n0, n1, k⟩ := h
  have pl : (ps.map D.str).length = ps.length := List.length_map ..
  unfold b__law_loose
  walk_at "s"
  refine h_new H (Nat.le_of_ble_eq_true rfl) fun p M H => ?_
  walk_at "e"
  walk_at "s"
  refine ⟨by omega, ?_⟩
  refine for_each (fun i ρ M => ∃ (sts : Sts) (w5 w6 w7 w8 : Option D), ρ = [some (.ref j), some (.ref pa), some (.ref lb), some (.int n), some (.ref p), w5, w6, w7, w8] ∧ sts.length = i ∧ (∀ s, some s ∈ sts → SdOk n s) ∧ Held M Js ((p, .lst (sts.map stD)) :: L))
    ⟨[], _, _, _, _, rfl, rfl, by simp, H⟩ (fun N i d ρ M hd hI hN => ?_) (fun ρ M hI => ?_)
  · obtain ⟨sts, w5, w6, w7, w8, rfl, sl, ok, H⟩ := hI
    obtain ⟨rfl, hi⟩ := LX.rget hd
    have fl : (sts.map stD).length = sts.length := List.length_map ..
    refine ⟨trivial, ?_⟩
    rw [Int.zero_add]
    walk_at "e"
    walk_at "s"
    refine h_pick H hj (by decide) fun c M c0 c1 H => ?_
    walk_at "e"
    refine t_ite (fun e => ?_) (fun e => ?_)
    · walk_at "d"
      refine h_appI 0 H rfl (by omega) fun M H => ?_
      walk_at "d"
      refine hN _ _ ⟨sts ++ [none], _, _, _, _, rfl, by rw [List.length_append, sl]; rfl, fun s hs => ?_, by rw [List.map_append]; exact H⟩
      rcases List.mem_append.mp hs with hs | hs
      · exact ok s hs
      · cases List.mem_singleton.mp hs
    · walk_at "d"
      refine h_pick H hj (by omega) fun x M x0 x1 H => ?_
      walk_at "d"
      refine h_new H (Nat.le_of_ble_eq_true rfl) fun gl M H => ?_
      have md : 0 ≤ (((i : Int) + 1) % (n : Int)) ∧ (((i : Int) + 1) % (n : Int)) < n := ⟨Int.emod_nonneg _ (by omega), Int.emod_lt_of_pos _ (by omega)⟩
      walk_at "e"
      refine t_cut (fun ρ M => ∃ (gl : Addr) (a b : Int) (w7 w8 : Option D), ρ = [some (.ref j), some (.ref pa), some (.ref lb), some (.int n), some (.ref p), some (.int i), some (.ref gl), w7, w8] ∧ (0 ≤ a ∧ a < n) ∧ (0 ≤ b ∧ b < n) ∧ Held M Js ((gl, .lst ([a, b].map D.int)) :: (p, .lst (sts.map stD)) :: L)) (fun N3 hN3 => ?_) ?_
      · walk_at "e"
        refine h_pick H hj (by decide) fun y M y0 y1 H => ?_
        walk_at "e"
        refine t_ite (fun e2 => ?_) (fun e2 => ?_)
        · walk_at "d"
          refine h_pick H hj (by omega) fun a M a0 a1 H => ?_
          walk_at "d"
          refine h_pick H hj (by omega) fun b M b0 b1 H => ?_
          walk_at "d"
          refine h_new H (Nat.le_of_ble_eq_true rfl) fun gl2 M H => ?_
          walk_at "d"
          exact hN3 _ _ ⟨gl2, a, b, _, _, rfl, ⟨a0, a1⟩, ⟨b0, b1⟩, H.tail2⟩
        · walk_at "d"
          exact hN3 _ _ ⟨gl, _, x, _, _, rfl, md, ⟨x0, x1⟩, H⟩
      · rintro ρ M ⟨gl, a, b, w7, w8, rfl, ga, gb, H⟩
        walk_at "e"
        refine t_seq ?_
        walk_at "e"
        refine h_new H (Nat.le_of_ble_eq_true rfl) fun q M H => ?_
        walk_at "e"
        refine h_pick H hj (by decide) fun kd M k0 k1 H => ?_
        have H : Held M Js ((q, .lst ((["say", "hear"] : List Str).map D.str)) :: (gl, .lst ([a, b].map D.int)) :: (p, .lst (sts.map stD)) :: L) := H
        refine h_ixm H List.mem_cons_self k0 k1 fun kind hk _ => ?_
        have H := H.tail
        walk_at "e"
        walk_at "s"
        rw [pl]
        refine h_pick H hj (by omega) fun pd' M d0 d1 H => ?_
        refine h_ixm H (List.mem_cons_of_mem _ (List.mem_cons_of_mem _ mp)) d0 d1 fun who hw _ => ?_
        walk_at "e"
        walk_at "s"
        refine ⟨rfl, Js, _, j, lb, gl, zs, [a, b], n, rfl, H, hj, List.mem_cons_of_mem _ (List.mem_cons_of_mem _ ml), List.mem_cons_self, hz, z0, z1, by simp, by simp, fun g hg => ?_, fun ms M mne ml2 R H => ?_⟩
        · simp only [List.mem_cons, List.not_mem_nil, or_false] at hg
          rcases hg with rfl | rfl
          · exact ga
          · exact gb
        walk_at "e"
        refine h_appI 1 H rfl (by omega) fun M H => ?_
        have H : Held M Js ((gl, .lst ([a, b].map D.int)) :: (p, .lst (sts.map stD ++ [stD (some ⟨kind, who, ms⟩)])) :: L) := H
        walk_at "d"
        refine hN _ _ ⟨sts ++ [some ⟨kind, who, ms⟩], _, _, _, _, rfl, by rw [List.length_append, sl]; rfl, fun s hs => ?_, by rw [List.map_append]; exact H.tail⟩
        rcases List.mem_append.mp hs with hs | hs
        · exact ok s hs
        · cases List.mem_singleton.mp hs
          exact ⟨by simpa using hk, hp who hw, mne, ml2, R⟩
  · obtain ⟨sts, w5, w6, w7, w8, rfl, sl, ok, H⟩ := hI
    rw [LX.rlen, Int.toNat_natCast] at sl
    refine ⟨trivial, ?_⟩
    walk_at "d"
    exact k sts M ⟨sl, by omega, n1, ok⟩ H.tail
end K23
/-! K23q: the law's judge of what is trimmed. -/
namespace K23
open PySem DL L2 LW GR TM
-- where it stands in the row of things held
local macro_rules | `(tactic| walk_at "m") => `(tactic| first
  | assumption
  | exact List.mem_cons_self
  | (refine List.mem_cons_of_mem _ ?_; walk_at "m"))
-- what the heap holds at a place
local macro_rules | `(tactic| walk_at "h") => `(tactic| first
  | assumption
  | exact mup_same
  | exact Held.get (by assumption) (by walk_at "m")
  | (refine (mup_ne ?_).trans ?_ <;> first | assumption | (apply Ne.symm; assumption) | walk_at "h"))
-- small facts of numbers
local macro_rules | `(tactic| walk_at "n") => `(tactic| first
  | assumption
  | omega
  | decide
  | (exact CMul.r (by decide))
  | (exact CMul.l (by decide))
  | (refine ⟨?_, ?_⟩ <;> first | assumption | omega | decide))
-- lengths
local macro_rules | `(tactic| walk_at "l") => `(tactic| first
  | assumption
  | (rw [sizeLine_eq]; first | omega | decide | (simp; done) | (simp; omega) | decide +kernel))
-- one step
local macro_rules | `(tactic| walk_at "e1") => `(tactic| first
  | with_reducible refine t_nil ?_
  | ((with_reducible refine' t_var ?s ?_); (case s => first | exact rfl | assumption))
  | with_reducible refine t_c ?_
  | with_reducible refine t_bin ?_
  | with_reducible refine t_if ?_
  | with_reducible refine t_asg ?_
  | ((with_reducible refine' t_gN' ?e ?_); (case e => ((try simp only [List.set_cons_zero, List.set_cons_succ, startD, List.map_cons, List.map_nil, List.length_cons, List.length_nil, Nat.reduceAdd, Nat.reduceSub, List.replicate, List.cons_append, List.nil_append]); exact rfl)))
  | with_reducible refine t_ret ?_
  | with_reducible refine t_exp ?_
  | with_reducible refine t_bcmp ?_
  | with_reducible refine t_band ?_
  | with_reducible refine t_bor ?_
  | with_reducible refine t_bnot ?_
  | with_reducible refine t_btru ?_
  | with_reducible refine t_byes ?_
  | with_reducible refine t_an ?_
  | with_reducible refine t_ac ?_
  | with_reducible refine t_fn ?_
  | with_reducible refine t_call ?_
  | with_reducible refine t_cmp ?_
  | with_reducible refine t_and ?_
  | with_reducible refine t_or ?_
  | with_reducible refine t_not ?_
  | with_reducible refine t_ife ?_
  | with_reducible refine t_tupN ?_
  | ((with_reducible refine v_newT ?l ?_); (case l => exact Nat.le_of_ble_eq_true rfl))
  | with_reducible refine t_lstN ?_
  | with_reducible refine t_isi ?_
  | with_reducible refine t_sl ?_
  | with_reducible refine t_o0 ?_
  | with_reducible refine t_o1 ?_
  | with_reducible refine t_un ?_
  | with_reducible refine t_mt ?_
  | with_reducible refine t_gS ?_
  | with_reducible refine t_gsC ?_
  | with_reducible refine t_gsN ?_
  | ((with_reducible refine t_gT ?s ?_); (case s => first | assumption | exact rfl))
  | with_reducible refine t_retN ?_
  | with_reducible refine t_brk ?_
  | with_reducible refine t_cnt ?_
  | ((with_reducible refine' t_aug ?s ?_); (case s => first | exact rfl | assumption))
  | with_reducible refine t_for ?_
  | with_reducible refine t_seqi ?_
  | with_reducible refine t_rg1 ?_
  | with_reducible refine t_rg2 ?_
  | with_reducible refine t_lc ?_
  | with_reducible refine v_tru_bl ?_
  | with_reducible refine v_tru_int ?_
  | with_reducible refine v_tru_non ?_
  | with_reducible refine v_tru_tup ?_
  | with_reducible refine v_add_int ?_
  | ((with_reducible refine v_add_str ?l ?_); (case l => walk_at "l"))
  | ((with_reducible refine v_add_tup ?l ?_); (case l => walk_at "l"))
  | with_reducible refine v_iadd_int ?_
  | with_reducible refine v_sub ?_
  | ((with_reducible refine v_mul ?c ?_); (case c => walk_at "n"))
  | ((with_reducible refine v_div ?c ?_); (case c => walk_at "n"))
  | ((with_reducible refine v_mod ?c ?_); (case c => walk_at "n"))
  | ((with_reducible refine v_pow ?c ?_); (case c => exact ⟨by decide, by decide, by decide⟩))
  | with_reducible refine v_neg ?_
  | with_reducible exact trivial
  | with_reducible refine v_eq_int ?_
  | with_reducible refine v_eq_str ?_
  | with_reducible refine v_eq_bl ?_
  | with_reducible refine v_ne_int ?_
  | with_reducible refine v_ne_str ?_
  | with_reducible refine v_ne_bl ?_
  | with_reducible refine v_lt ?_
  | with_reducible refine v_lt_str ?_
  | with_reducible refine t_ks ?_
  | with_reducible refine t_rv ?_
  | with_reducible refine v_seq_ktp ?_
  | with_reducible refine v_le ?_
  | with_reducible refine v_gt ?_
  | with_reducible refine v_ge ?_
  | with_reducible refine v_isi_non ?_
  | with_reducible refine v_isi_bl ?_
  | with_reducible refine v_isi_int ?_
  | with_reducible refine v_isi_str ?_
  | with_reducible refine v_isi_tup ?_
  | with_reducible refine v_in_str ?_
  | with_reducible refine v_nin_str ?_
  | with_reducible refine v_len_tup ?_
  | with_reducible refine v_len_rol ?_
  | with_reducible refine v_len_ktp ?_
  | with_reducible refine v_tru_ktp ?_
  | with_reducible refine v_isi_ktp ?_
  | with_reducible refine v_tuple_ktp ?_
  | with_reducible refine t_zip ?_
  | with_reducible refine v_zip_tt ?_
  | with_reducible refine v_zip_tk ?_
  | with_reducible refine v_zip_kt ?_
  | with_reducible refine v_zip_kk ?_
  | ((with_reducible refine' v_zip_ll ?e ?f ?_); (case e => walk_at "h"); (case f => walk_at "h"))
  | with_reducible refine t_ix ?_
  | ((with_reducible refine' ⟨seqK_ref ?e, ?_⟩); (case e => walk_at "h"))
  | with_reducible refine t_lr ?_
  | ((with_reducible refine' v_ix_ktp ?f ?_); (case f => first | assumption | exact rfl))
  | ((with_reducible refine t_gTk ?s ?_); (case s => first | assumption | exact rfl))
  | ((with_reducible refine v_len_str ?l ?_); (case l => walk_at "l"))
  | ((with_reducible refine' v_len_ref ?e ?_); (case e => walk_at "h"))
  | with_reducible refine v_int_int ?_
  | with_reducible refine v_int_bl ?_
  | with_reducible refine v_max ?_
  | with_reducible refine v_min ?_
  | with_reducible refine v_tuple_tup ?_
  | ((with_reducible refine' v_tuple_ref ?e ?_); (case e => walk_at "h"))
  | ((with_reducible refine' v_ix_ref ?e ?f ?_); (case e => walk_at "h"); (case f => first | assumption | exact rfl))
  | ((with_reducible refine' v_ix_tup ?f ?_); (case f => first | assumption | exact rfl))
  | ((with_reducible refine v_sl_str ?l ?_); (case l => walk_at "l"))
  | with_reducible refine v_sl_tup ?_
  | with_reducible refine v_seq_tup ?_
  | with_reducible refine v_seq_str ?_
  | with_reducible refine v_seq_rol ?_
  | ((with_reducible refine' v_seq_ref ?e ?_); (case e => walk_at "h"))
  | ((with_reducible refine' ⟨v_ty_ref ?e, ?_⟩); (case e => walk_at "h")))
local macro_rules | `(tactic| walk_at "d1") => `(tactic| first | with_reducible refine t_seq ?_ | walk_at "e1")
local macro_rules | `(tactic| walk_at "d") => `(tactic| repeat walk_at "d1")
-- one statement
local macro_rules | `(tactic| walk_at "e") => `(tactic| ((repeat walk_at "e1"); try (with_reducible show sSeq _ _ _ _ _)))
local macro_rules | `(tactic| walk_at "s") => `(tactic| ((with_reducible refine t_seq ?_); walk_at "e"))
-- a drawn thing's small facts
local macro_rules | `(tactic| walk_at "gi") => `(tactic| first
  | exact gi_c trivial
  | exact gi_c ⟨_, rfl, by decide, by decide⟩
  | exact gi_c (show _ ≤ _ by decide)
  | exact gi_c (show _ ≤ _ by decide +kernel)
  | exact gi_v rfl trivial)
local macro_rules | `(tactic| walk_at "ga") => `(tactic| ((repeat (first | exact ga_nil | refine ga_cons2 ?_ ?_)); all_goals (try walk_at "gi")))
def sp_turned : DSp := fun ds M P => ∃ (Js : List Addr) (L : List (Addr × MO)) (n : Nat) (sts : Sts), ds = [machD sts] ∧ Held M Js L ∧ MaOk n sts ∧ ∀ M', Held M' Js L → P (machD (sts.map flipS)) M'
theorem ok_turned (ds : List D) (M : Mh) (P : PQ) (h : sp_turned ds M P) : b__law_turned { nx := fun _ M' => P .non M', rt := P } (startD 3 ds) M := by
  obtain ⟨Js, L, n, sts, rfl, H, hm, k⟩ := h
  have hml := hm.le
  have hsl := hm.len
  unfold b__law_turned machD
  walk_at "s"
  refine h_new H (Nat.le_of_ble_eq_true rfl) fun p M H => ?_
  walk_at "e"
  walk_at "s"
  refine for_each (fun i ρ M => ∃ (w2 : Option D), ρ = [some (.tup (sts.map stD)), some (.ref p), w2] ∧ Held M Js ((p, .lst (((sts.take i).map flipS).map stD)) :: L)) ⟨_, rfl, H⟩ (fun N i d ρ M hd hI hN => ?_) (fun ρ M hI => ?_)
  · obtain ⟨w2, rfl, H⟩ := hI
    rw [List.getElem?_map] at hd
    obtain ⟨o, ho, rfl⟩ := Option.map_eq_some_iff.mp hd
    have fl : (((sts.take i).map flipS).map stD).length ≤ 100 := by rw [List.length_map, List.length_map, List.length_take]; omega
    have nx : ((sts.take (i + 1)).map flipS).map stD = ((sts.take i).map flipS).map stD ++ [stD (flipS o)] := by rw [tk_snoc ho, List.map_append, List.map_append]; rfl
    refine ⟨trivial, ?_⟩
    cases o with
    | none =>
      rw [st_none]
      walk_at "d"
      refine t_if0 (by decide +kernel) ?_
      walk_at "d"
      refine t_if0 (by decide +kernel) ?_
      walk_at "d"
      refine h_appI 0 H rfl (by omega) fun M H => ?_
      exact hN _ _ ⟨_, rfl, by rw [nx]; exact H⟩
    | some s =>
      have q := hm.st s (List.mem_of_getElem? ho)
      rw [st_some]
      rcases q.kind with e | e
      · rw [e]
        walk_at "d"
        refine t_if1 (by decide +kernel) ?_
        walk_at "d"
        refine h_appI 0 H rfl (by omega) fun M H => ?_
        have f : stD (flipS (some s)) = .tup [.str "hear", .str s.who, .tup (s.ms.map Mo.d)] := by
          show D.tup [.str (flipW s.kind), _, _] = _
          rw [e, show flipW "say" = "hear" by decide +kernel]
        exact hN _ _ ⟨_, rfl, by rw [nx, f]; exact H⟩
      · rw [e]
        walk_at "d"
        refine t_if0 (by decide +kernel) ?_
        walk_at "d"
        refine t_if1 (by decide +kernel) ?_
        walk_at "d"
        refine h_appI 0 H rfl (by omega) fun M H => ?_
        have f : stD (flipS (some s)) = .tup [.str "say", .str s.who, .tup (s.ms.map Mo.d)] := by
          show D.tup [.str (flipW s.kind), _, _] = _
          rw [e, show flipW "hear" = "say" by decide +kernel]
        exact hN _ _ ⟨_, rfl, by rw [nx, f]; exact H⟩
  · obtain ⟨w2, rfl, H⟩ := hI
    rw [List.length_map, List.take_length] at H
    refine ⟨trivial, ?_⟩
    walk_at "d"
    exact k _ H.tail
def sp_fewest : DSp := fun ds M P => ∃ (n : Nat) (sts : Sts), ds = [machD sts] ∧ MaOk n sts ∧ (∀ s, some s ∈ sts → apart s.ms) ∧ P (.bl true) M
theorem ok_fewest (ds : List D) (M : Mh) (P : PQ) (h : sp_fewest ds M P) : b__law_fewest { nx := fun _ M' => P .non M', rt := P } (startD 5 ds) M := by
  obtain ⟨n, sts, rfl, hm, ap, k⟩ := h
  unfold b__law_fewest machD
  walk_at "s"
  refine for_each (fun i ρ M' => M' = M ∧ ∃ (w1 w2 w3 w4 : Option D), ρ = [some (.tup (sts.map stD)), w1, w2, w3, w4]) ⟨rfl, _, _, _, _, rfl⟩ (fun N i d ρ M' hd hI hN => ?_) (fun ρ M' hI => ?_)
  · obtain ⟨rfl, w1, w2, w3, w4, rfl⟩ := hI
    rw [List.getElem?_map] at hd
    obtain ⟨o, ho, rfl⟩ := Option.map_eq_some_iff.mp hd
    refine ⟨trivial, ?_⟩
    cases o with
    | none =>
      rw [st_none]
      walk_at "d"
      refine t_if1 (by decide +kernel) ?_
      walk_at "d"
      exact hN _ _ ⟨rfl, _, _, _, _, rfl⟩
    | some s =>
      have om := List.mem_of_getElem? ho
      have q := hm.st s om
      have ap := ap s om
      have ql := q.len
      have fl : (s.ms.map Mo.d).length = s.ms.length := List.length_map ..
      rw [st_some]
      walk_at "d"
      refine t_if0 (kind_end q.kind) ?_
      walk_at "d"
      rw [fl]
      refine ⟨by omega, ?_⟩
      refine for_each (fun i ρ M2 => M2 = M' ∧ ∃ (w2 w3 w4 : Option D), ρ = [some (.tup (sts.map stD)), some (.tup [.str s.kind, .str s.who, .tup (s.ms.map Mo.d)]), w2, w3, w4]) ⟨rfl, _, _, _, rfl⟩ (fun N2 i d ρ M2 hd hI hN2 => ?_) (fun ρ M2 hI => ?_)
      · obtain ⟨rfl, w2, w3, w4, rfl⟩ := hI
        obtain ⟨rfl, hi⟩ := LX.rget hd
        have l1 : i < s.ms.length := by omega
        have l2 : i + 1 < s.ms.length := by omega
        have e1 := List.getElem?_eq_getElem l1
        have e2 := List.getElem?_eq_getElem l2
        generalize s.ms[i] = a at e1
        generalize s.ms[i + 1] = b at e2
        have a1 : atI (s.ms.map Mo.d) (1 + (i : Int) - 1) = some (.tup [.str a.z, .int a.l, .int a.h, .int a.g]) := by
          rw [show (1 + (i : Int) - 1) = ((i : Nat) : Int) by omega]
          exact atI_get? (by omega) (by rw [Int.toNat_natCast, List.getElem?_map, e1]; rfl)
        have a2 : atI (s.ms.map Mo.d) (1 + (i : Int)) = some (.tup [.str b.z, .int b.l, .int b.h, .int b.g]) :=
          atI_get? (by omega) (by rw [show (1 + (i : Int)).toNat = i + 1 by omega, List.getElem?_map, e2]; rfl)
        have nj := ap i a b e1 e2
        refine ⟨trivial, ?_⟩
        walk_at "d"
        refine t_ite (fun c1 => ?_) (fun c1 => ?_)
        · walk_at "d"
          refine t_ite (fun c2 => ?_) (fun c2 => ?_)
          · walk_at "d"
            refine t_if0 ?_ ?_
            · cases c3 : (a.g == b.g) with
              | false => rfl
              | true => exact absurd ⟨eq_of_beq c1, eq_of_beq c2, eq_of_beq c3⟩ nj
            walk_at "d"
            exact hN2 _ _ ⟨rfl, _, _, _, rfl⟩
          · refine t_if0 rfl ?_
            walk_at "d"
            exact hN2 _ _ ⟨rfl, _, _, _, rfl⟩
        · refine t_if0 rfl ?_
          walk_at "d"
          exact hN2 _ _ ⟨rfl, _, _, _, rfl⟩
      · obtain ⟨rfl, w2, w3, w4, rfl⟩ := hI
        refine ⟨trivial, ?_⟩
        walk_at "d"
        exact hN _ _ ⟨rfl, _, _, _, _, rfl⟩
  · obtain ⟨rfl, w1, w2, w3, w4, rfl⟩ := hI
    refine ⟨trivial, ?_⟩
    walk_at "d"
    exact k
end K23
/-! K23r: the machine and the answer side by side. -/
namespace K23
open PySem DL L2 LW GR TM
-- where it stands in the row of things held
local macro_rules | `(tactic| walk_at "m") => `(tactic| first
  | assumption
  | exact List.mem_cons_self
  | (refine List.mem_cons_of_mem _ ?_; walk_at "m"))
-- what the heap holds at a place
local macro_rules | `(tactic| walk_at "h") => `(tactic| first
  | assumption
  | exact mup_same
  | exact Held.get (by assumption) (by walk_at "m")
  | (refine (mup_ne ?_).trans ?_ <;> first | assumption | (apply Ne.symm; assumption) | walk_at "h"))
-- small facts of numbers
local macro_rules | `(tactic| walk_at "n") => `(tactic| first
  | assumption
  | omega
  | decide
  | (exact CMul.r (by decide))
  | (exact CMul.l (by decide))
  | (refine ⟨?_, ?_⟩ <;> first | assumption | omega | decide))
-- lengths
local macro_rules | `(tactic| walk_at "l") => `(tactic| first
  | assumption
  | (rw [sizeLine_eq]; first | omega | decide | (simp; done) | (simp; omega) | decide +kernel))
-- one step
local macro_rules | `(tactic| walk_at "e1") => `(tactic| first
  | with_reducible refine t_nil ?_
  | ((with_reducible refine' t_var ?s ?_); (case s => first | exact rfl | assumption))
  | with_reducible refine t_c ?_
  | with_reducible refine t_bin ?_
  | with_reducible refine t_if ?_
  | with_reducible refine t_asg ?_
  | ((with_reducible refine' t_gN' ?e ?_); (case e => ((try simp only [List.set_cons_zero, List.set_cons_succ, startD, List.map_cons, List.map_nil, List.length_cons, List.length_nil, Nat.reduceAdd, Nat.reduceSub, List.replicate, List.cons_append, List.nil_append]); exact rfl)))
  | with_reducible refine t_ret ?_
  | with_reducible refine t_exp ?_
  | with_reducible refine t_bcmp ?_
  | with_reducible refine t_band ?_
  | with_reducible refine t_bor ?_
  | with_reducible refine t_bnot ?_
  | with_reducible refine t_btru ?_
  | with_reducible refine t_byes ?_
  | with_reducible refine t_an ?_
  | with_reducible refine t_ac ?_
  | with_reducible refine t_fn ?_
  | with_reducible refine t_call ?_
  | with_reducible refine t_cmp ?_
  | with_reducible refine t_and ?_
  | with_reducible refine t_or ?_
  | with_reducible refine t_not ?_
  | with_reducible refine t_ife ?_
  | with_reducible refine t_tupN ?_
  | ((with_reducible refine v_newT ?l ?_); (case l => exact Nat.le_of_ble_eq_true rfl))
  | with_reducible refine t_lstN ?_
  | with_reducible refine t_isi ?_
  | with_reducible refine t_sl ?_
  | with_reducible refine t_o0 ?_
  | with_reducible refine t_o1 ?_
  | with_reducible refine t_un ?_
  | with_reducible refine t_mt ?_
  | with_reducible refine t_gS ?_
  | with_reducible refine t_gsC ?_
  | with_reducible refine t_gsN ?_
  | ((with_reducible refine t_gT ?s ?_); (case s => first | assumption | exact rfl))
  | with_reducible refine t_retN ?_
  | with_reducible refine t_brk ?_
  | with_reducible refine t_cnt ?_
  | ((with_reducible refine' t_aug ?s ?_); (case s => first | exact rfl | assumption))
  | with_reducible refine t_for ?_
  | with_reducible refine t_seqi ?_
  | with_reducible refine t_rg1 ?_
  | with_reducible refine t_rg2 ?_
  | with_reducible refine t_lc ?_
  | with_reducible refine v_tru_bl ?_
  | with_reducible refine v_tru_int ?_
  | with_reducible refine v_tru_non ?_
  | with_reducible refine v_tru_tup ?_
  | with_reducible refine v_add_int ?_
  | ((with_reducible refine v_add_str ?l ?_); (case l => walk_at "l"))
  | ((with_reducible refine v_add_tup ?l ?_); (case l => walk_at "l"))
  | with_reducible refine v_iadd_int ?_
  | with_reducible refine v_sub ?_
  | ((with_reducible refine v_mul ?c ?_); (case c => walk_at "n"))
  | ((with_reducible refine v_div ?c ?_); (case c => walk_at "n"))
  | ((with_reducible refine v_mod ?c ?_); (case c => walk_at "n"))
  | ((with_reducible refine v_pow ?c ?_); (case c => exact ⟨by decide, by decide, by decide⟩))
  | with_reducible refine v_neg ?_
  | with_reducible exact trivial
  | with_reducible refine v_eq_int ?_
  | with_reducible refine v_eq_str ?_
  | with_reducible refine v_eq_bl ?_
  | with_reducible refine v_ne_int ?_
  | with_reducible refine v_ne_str ?_
  | with_reducible refine v_ne_bl ?_
  | with_reducible refine v_lt ?_
  | with_reducible refine v_lt_str ?_
  | with_reducible refine t_ks ?_
  | with_reducible refine t_rv ?_
  | with_reducible refine v_seq_ktp ?_
  | with_reducible refine v_le ?_
  | with_reducible refine v_gt ?_
  | with_reducible refine v_ge ?_
  | with_reducible refine v_isi_non ?_
  | with_reducible refine v_isi_bl ?_
  | with_reducible refine v_isi_int ?_
  | with_reducible refine v_isi_str ?_
  | with_reducible refine v_isi_tup ?_
  | with_reducible refine v_in_str ?_
  | with_reducible refine v_nin_str ?_
  | with_reducible refine v_len_tup ?_
  | with_reducible refine v_len_rol ?_
  | with_reducible refine v_len_ktp ?_
  | with_reducible refine v_tru_ktp ?_
  | with_reducible refine v_isi_ktp ?_
  | with_reducible refine v_tuple_ktp ?_
  | with_reducible refine t_zip ?_
  | with_reducible refine v_zip_tt ?_
  | with_reducible refine v_zip_tk ?_
  | with_reducible refine v_zip_kt ?_
  | with_reducible refine v_zip_kk ?_
  | ((with_reducible refine' v_zip_ll ?e ?f ?_); (case e => walk_at "h"); (case f => walk_at "h"))
  | with_reducible refine t_ix ?_
  | ((with_reducible refine' ⟨seqK_ref ?e, ?_⟩); (case e => walk_at "h"))
  | with_reducible refine t_lr ?_
  | ((with_reducible refine' v_ix_ktp ?f ?_); (case f => first | assumption | exact rfl))
  | ((with_reducible refine t_gTk ?s ?_); (case s => first | assumption | exact rfl))
  | ((with_reducible refine v_len_str ?l ?_); (case l => walk_at "l"))
  | ((with_reducible refine' v_len_ref ?e ?_); (case e => walk_at "h"))
  | with_reducible refine v_int_int ?_
  | with_reducible refine v_int_bl ?_
  | with_reducible refine v_max ?_
  | with_reducible refine v_min ?_
  | with_reducible refine v_tuple_tup ?_
  | ((with_reducible refine' v_tuple_ref ?e ?_); (case e => walk_at "h"))
  | ((with_reducible refine' v_ix_ref ?e ?f ?_); (case e => walk_at "h"); (case f => first | assumption | exact rfl))
  | ((with_reducible refine' v_ix_tup ?f ?_); (case f => first | assumption | exact rfl))
  | ((with_reducible refine v_sl_str ?l ?_); (case l => walk_at "l"))
  | with_reducible refine v_sl_tup ?_
  | with_reducible refine v_seq_tup ?_
  | with_reducible refine v_seq_str ?_
  | with_reducible refine v_seq_rol ?_
  | ((with_reducible refine' v_seq_ref ?e ?_); (case e => walk_at "h"))
  | ((with_reducible refine' ⟨v_ty_ref ?e, ?_⟩); (case e => walk_at "h")))
local macro_rules | `(tactic| walk_at "d1") => `(tactic| first | with_reducible refine t_seq ?_ | walk_at "e1")
local macro_rules | `(tactic| walk_at "d") => `(tactic| repeat walk_at "d1")
-- one statement
local macro_rules | `(tactic| walk_at "e") => `(tactic| ((repeat walk_at "e1"); try (with_reducible show sSeq _ _ _ _ _)))
local macro_rules | `(tactic| walk_at "s") => `(tactic| ((with_reducible refine t_seq ?_); walk_at "e"))
-- a drawn thing's small facts
local macro_rules | `(tactic| walk_at "gi") => `(tactic| first
  | exact gi_c trivial
  | exact gi_c ⟨_, rfl, by decide, by decide⟩
  | exact gi_c (show _ ≤ _ by decide)
  | exact gi_c (show _ ≤ _ by decide +kernel)
  | exact gi_v rfl trivial)
local macro_rules | `(tactic| walk_at "ga") => `(tactic| ((repeat (first | exact ga_nil | refine ga_cons2 ?_ ?_)); all_goals (try walk_at "gi")))
theorem v_is {x : D} {M : Mh} {R : Bool → Prop} (h : R (isNon x)) : isD x .non M R := h
theorem v_isn {x : D} {M : Mh} {R : Bool → Prop} (h : R (!isNon x)) : isnD x .non M R := h
theorem ok_mono {k n : Int} {m : Mo} (h : m.ok k) (hk : k ≤ n) : m.ok n := ⟨h.lab, h.l0, h.lh, h.h1, h.g0, Int.lt_of_lt_of_le h.g1 hk⟩
theorem walk_zero {n : Nat} {sts : Sts} : (walk sts 0)[0]? = some 0 := pre_at (W_pre (sts := sts) (a := 0) (Nat.zero_le sts.length)) rfl
theorem same_re (fs : List Int) (o : Option Sd) : sameK o (reS fs o) := by
  cases o with
  | none => trivial
  | some s => exact ⟨rfl, rfl⟩
def sp_side_by_side : DSp := fun ds M P => ∃ (Js : List Addr) (L : List (Addr × MO)) (n : Nat) (sts : Sts), ds = [machD sts, machD (trim sts)] ∧ Held M Js L ∧ MaOk n sts ∧ ∀ M', Held M' Js L → P (.bl true) M'
theorem ok_side_by_side (ds : List D) (M : Mh) (P : PQ) (h : sp_side_by_side ds M P) : b__law_side_by_side sp_marks sp_goal sp_same_kind { nx := fun _ M' => P .non M', rt := P } (startD 9 ds) M := by
  obtain ⟨Js, L, n, sts, rfl, H, hm, k⟩ := h
  have hml := hm.le
  have hsl := hm.len
  have n0 : (0 : Int) < n := by have := hm.pos; omega
  have hwl := walk_len hm (Int.le_refl 0) n0
  have hc := walk_clo hm (Int.le_refl 0) n0
  have hT := trim_ok hm hc
  have hr : ∀ b ∈ walk sts 0, 0 ≤ b ∧ b < (n : Int) := W_rng hm (Int.le_refl 0) n0 _
  have z0 : fAt (walk sts 0) 0 = 0 := fat_of (i := 0) (walk_zero (n := n))
  have hat : ∀ {i : Nat} {b : Int}, (walk sts 0)[i]? = some b → stAt (trimL sts (walk sts 0)) (i : Nat) = reS (walk sts 0) (stAt sts b) := fun e => trim_at e
  have hpa : ∀ {i : Nat} {ks : List Int}, Pairs sts (walk sts 0) i ks → i < (walk sts 0).length → ((i : Nat) : Int) ∈ ks := fun P hi => pairs_at hm P hi
  have hpl : ∀ {ks : List Int}, Pairs sts (walk sts 0) (walk sts 0).length ks → ks.length = (walk sts 0).length := fun P => pairs_len hm P
  have tl : ((trimL sts (walk sts 0)).map stD).length = (walk sts 0).length := by rw [List.length_map]; exact hT.len
  unfold b__law_side_by_side machD trim
  have nd := hc.nd
  generalize walk sts 0 = F at *
  refine t_seq (t_asg (t_d1H H fun q M H => ?_))
  walk_at "e"
  refine h_newD H rfl fun M H => ?_
  have H : Held M Js ((q, .dk (mates F [0])) :: L) := by
    have e : mates F [0] = [(Sum.inl 0, .int 0)] := by show [(_, D.int (fAt F 0))] = _; rw [z0]
    rw [e]; exact H
  walk_at "e"
  walk_at "s"
  rw [tl]
  refine ⟨by omega, ?_⟩
  refine for_each (fun i ρ M => ∃ (ks : List Int) (w3 w4 w5 w6 w7 w8 : Option D), ρ = [some (.tup (sts.map stD)), some (.tup ((trimL sts F).map stD)), some (.ref q), w3, w4, w5, w6, w7, w8] ∧ Pairs sts F i ks ∧ Held M Js ((q, .dk (mates F ks)) :: L))
    ⟨[0], _, _, _, _, _, _, rfl, ⟨by simp, fun k hk => by rw [List.mem_singleton.mp hk]; have := hc.pos; omega, by simp, fun a b ha => by omega⟩, H⟩ (fun N i d ρ M hd hI hN => ?_) (fun ρ M hI => ?_)
  · obtain ⟨ks, w3, w4, w5, w6, w7, w8, rfl, Pk, H⟩ := hI
    obtain ⟨rfl, hi⟩ := LX.rget hd
    have hi : i < F.length := by omega
    have hb := List.getElem?_eq_getElem hi
    generalize F[i] = b at hb
    have bm := List.mem_of_getElem? hb
    obtain ⟨b0, b1⟩ := hr b bm
    obtain ⟨o, e1, ho, e2, e3⟩ := hm.at b0 b1
    have ik := hpa Pk hi
    have iv : valD (mates F ks) (Sum.inl ((i : Nat) : Int)) = some (.int b) := by rw [mates_val ik, fat_of hb]
    obtain ⟨o', f1, fo, f2, f3⟩ := hT.at (a := ((i : Nat) : Int)) (by omega) (by omega)
    have f4 : o' = reS F o := by rw [← f3, hat hb, e3]
    subst f4
    have kl : (mates F ks).length ≤ 100 := by
      unfold mates
      rw [List.length_map]
      exact Nat.le_trans (nd_len Pk.nd Pk.rng) hc.le
    refine ⟨trivial, ?_⟩
    rw [Int.zero_add]
    walk_at "e"
    walk_at "s"
    refine h_nin H List.mem_cons_self rfl ?_
    rw [iv]
    refine t_if0 rfl ?_
    walk_at "e"
    refine h_ixd H List.mem_cons_self rfl iv ?_
    walk_at "e"
    refine ⟨rfl, o, _, rfl, same_re F o, kind_of hm ho, ?_⟩
    walk_at "e"
    refine t_if0 rfl ?_
    walk_at "e"
    have gs := gs_ms e3
    cases o with
    | none =>
      have f2 : atI ((trimL sts F).map stD) ((i : Nat) : Int) = some (.tup [.str "end"]) := f2
      walk_at "s"
      refine t_if1 (by decide +kernel) ?_
      walk_at "d"
      refine hN _ _ ⟨ks, _, _, _, _, _, _, rfl, ⟨Pk.nd, Pk.rng, Pk.zero, fun a c ha hc' x hx => ?_⟩, H⟩
      by_cases h : a < i
      · exact Pk.done a c h hc' x hx
      · have : a = i := by omega
        subst this
        rw [hb] at hc'
        cases hc'
        rw [gs] at hx
        cases hx
    | some s =>
      have q0 := hm.st s ho
      have f2 : atI ((trimL sts F).map stD) ((i : Nat) : Int) = some (.tup [.str s.kind, .str s.who, .tup (((mrgL s.ms).map (reM F)).map Mo.d)]) := f2
      have q1 := hT.st _ fo
      walk_at "s"
      refine t_if0 (kind_end q0.kind) ?_
      walk_at "e"
      refine t_seq ?_
      walk_at "e"
      refine h_ixd H List.mem_cons_self rfl iv ?_
      have e2 : atI (sts.map stD) b = some (.tup [.str s.kind, .str s.who, .tup (s.ms.map Mo.d)]) := e2
      walk_at "e"
      walk_at "s"
      walk_at "s"
      refine h_new H (Nat.le_of_ble_eq_true rfl) fun x M H => ?_
      have H : Held M Js ((x, .lst ([s.ms, (mrgL s.ms).map (reM F)].map fun ms => .tup (ms.map Mo.d))) :: (q, .dk (mates F ks)) :: L) := H
      walk_at "e"
      refine ⟨rfl, Js, _, x, _, n, rfl, H, List.mem_cons_self, by simp, fun ms hms => ?_, fun p mk M hmk H => ?_⟩
      · simp only [List.mem_cons, List.not_mem_nil, or_false] at hms
        rcases hms with rfl | rfl
        · exact ⟨by have := q0.len; omega, q0.row.ok⟩
        · exact ⟨by have : ((mrgL s.ms).map (reM F)).length ≤ 9 := q1.len; omega, fun m hm => ok_mono (q1.row.ok m hm) (by omega)⟩
      walk_at "e"
      have grow : ∀ z v, goalL ((mrgL s.ms).map (reM F)) z v = (goalL s.ms z v).map (ix F) := fun z v => goal_re q0.row F z v
      have gmem : ∀ {z v g}, goalL s.ms z v = some g → g ∈ F := fun h => hc.clo b bm _ (by rw [gs]; exact goal_mem h)
      have H : Held M Js ((q, .dk (mates F ks)) :: (p, .lst (mk.map mkD)) :: L) := by
        exact H.third.sub (List.Sublist.cons₂ _ (List.Sublist.cons₂ _ (List.Sublist.cons _ (List.Sublist.refl _))))
      refine for_each (fun j ρ M => ∃ (ks : List Int) (w6 w7 w8 : Option D), ρ = [some (.tup (sts.map stD)), some (.tup ((trimL sts F).map stD)), some (.ref q), some (.int i), some (.tup (s.ms.map Mo.d)), some (.tup (((mrgL s.ms).map (reM F)).map Mo.d)), w6, w7, w8] ∧ Pairs sts F i ks ∧ (∀ y ∈ mk.take j, ∀ g, goalL s.ms y.1 y.2 = some g → ix F g ∈ ks) ∧ Held M Js ((q, .dk (mates F ks)) :: (p, .lst (mk.map mkD)) :: L))
        ⟨ks, _, _, _, rfl, Pk, by simp, H⟩ (fun N2 j d ρ M hd hI hN2 => ?_) (fun ρ M hI => ?_)
      · obtain ⟨ks, w6, w7, w8, rfl, Pk, hk, H⟩ := hI
        have kl : (mates F ks).length ≤ 100 := by
          unfold mates
          rw [List.length_map]
          exact Nat.le_trans (nd_len Pk.nd Pk.rng) hc.le
        rw [List.getElem?_map] at hd
        obtain ⟨y, hy, rfl⟩ := Option.map_eq_some_iff.mp hd
        obtain ⟨yz, yv⟩ := y
        have same : (∀ g, goalL s.ms yz yv = some g → ix F g ∈ ks) → ∀ y ∈ mk.take (j + 1), ∀ g, goalL s.ms y.1 y.2 = some g → ix F g ∈ ks := fun h y hy2 g hg => by
          rw [tk_snoc hy] at hy2
          rcases List.mem_append.mp hy2 with hy2 | hy2
          · exact hk y hy2 g hg
          · rw [List.mem_singleton.mp hy2] at hg
            exact h g hg
        refine ⟨H.get (by walk_at "m"), ?_⟩
        rw [mk_d]
        walk_at "e"
        walk_at "s"
        refine ⟨rfl, _, _, _, rfl, ?_⟩
        walk_at "e"
        walk_at "s"
        refine ⟨rfl, _, _, _, rfl, ?_⟩
        walk_at "e"
        rw [grow]
        have grow' := grow yz yv
        cases eg : goalL s.ms yz yv with
        | none =>
          walk_at "s"
          refine v_is ?_
          refine t_if1 rfl (t_if1 rfl ?_)
          walk_at "s"
          refine v_isn ?_
          refine t_if0 rfl ?_
          walk_at "e"
          refine v_isn ?_
          refine t_if0 rfl ?_
          walk_at "d"
          exact hN2 _ _ ⟨ks, _, _, _, rfl, Pk, same fun g h => by rw [eg] at h; (cases h), H⟩
        | some g =>
          have gF := gmem eg
          show sSeq _ _ _ [_, _, _, _, _, _, _, some (.int g), some (.int (ix F g))] _
          walk_at "s"
          refine v_is ?_
          refine t_if0 rfl ?_
          walk_at "e"
          refine v_is ?_
          refine t_if0 rfl ?_
          walk_at "s"
          refine h_in H List.mem_cons_self rfl ?_
          by_cases hin : ix F g ∈ ks
          · rw [mates_val hin]
            refine t_if1 rfl ?_
            walk_at "s"
            refine h_ixd H List.mem_cons_self rfl (mates_val hin) ?_
            rw [fat_ix gF]
            walk_at "e"
            refine t_if0 (by simp) ?_
            walk_at "d"
            exact hN2 _ _ ⟨ks, _, _, _, rfl, Pk, same fun g' h => by rw [eg] at h; cases h; exact hin, H⟩
          · rw [mates_none hin]
            refine t_if0 rfl ?_
            walk_at "s"
            refine t_vs ?_
            walk_at "e"
            refine h_vals H (H.get List.mem_cons_self) fun r M H => ?_
            rw [mates_vals] at H
            refine v_in_ref (H.get List.mem_cons_self) (in_ints _ _) ?_
            have nw := Pk.new nd gF hin
            refine t_if0 ?_ ?_
            · cases q : memD (.int g) ((ks.map (fAt F)).map D.int) with
              | false => rfl
              | true => exact absurd (TM.memD_ints.mp q) nw
            walk_at "d"
            refine h_dput 1 H rfl rfl (by omega) fun M H => ?_
            have H : Held M Js ((r, .lst ((ks.map (fAt F)).map D.int)) :: (q, .dk (putD (mates F ks) (Sum.inl (ix F g)) (.int g))) :: (p, .lst (mk.map mkD)) :: L) := H
            rw [mates_put gF hin] at H
            refine hN2 _ _ ⟨ks ++ [ix F g], _, _, _, rfl, Pk.add gF hin, fun y hy2 g' hg => ?_, H.tail⟩
            rw [tk_snoc hy] at hy2
            rcases List.mem_append.mp hy2 with hy2 | hy2
            · exact List.mem_append_left _ (hk y hy2 g' hg)
            · rw [List.mem_singleton.mp hy2] at hg
              have : some g = some g' := eg.symm.trans hg
              cases this
              exact List.mem_append_right _ (by simp)
      · obtain ⟨ks, w6, w7, w8, rfl, Pk, hk, H⟩ := hI
        rw [List.length_map, List.take_length] at hk
        refine ⟨H.get (by walk_at "m"), ?_⟩
        walk_at "d"
        refine hN _ _ ⟨ks, _, _, _, _, _, _, rfl, ⟨Pk.nd, Pk.rng, Pk.zero, fun a c ha hc' y hy => ?_⟩, H.tail2⟩
        by_cases h : a < i
        · exact Pk.done a c h hc' y hy
        · have : a = i := by omega
          subst this
          rw [hb] at hc'
          cases hc'
          rw [gs] at hy
          obtain ⟨m, hm2, rfl⟩ := List.mem_map.mp hy
          have om := q0.row.ok m hm2
          refine hk (m.z, m.l) ((hmk _).mpr ⟨by have := om.lh; have := om.h1; show m.l ≤ 999999; omega, ?_⟩) m.g (goal_own q0.row hm2)
          rw [List.mem_flatMap]
          exact ⟨s.ms, by simp, List.mem_flatMap.mpr ⟨m, hm2, by simp [moS]⟩⟩
  · obtain ⟨ks, w3, w4, w5, w6, w7, w8, rfl, Pk, H⟩ := hI
    rw [LX.rlen, Int.toNat_natCast] at Pk
    have e := hpl Pk
    refine ⟨trivial, ?_⟩
    have ed : dictD (.ref q) M = some (.dk (mates F ks)) := by
      unfold dictD
      simp only [H.get List.mem_cons_self]
    walk_at "d"
    refine v_len_dict ed ?_
    walk_at "d"
    rw [tl]
    have es : dSize (.dk (mates F ks)) = F.length := by
      show (mates F ks).length = _
      unfold mates
      rw [List.length_map]; exact e
    rw [es, show (((F.length : Nat) : Int) == ((F.length : Nat) : Int)) = true by simp]
    exact k _ H.tail
def sp_is_trim_of : DSp := sp_side_by_side
theorem ok_is_trim_of (ds : List D) (M : Mh) (P : PQ) (h : sp_is_trim_of ds M P) : b__law_is_trim_of sp_side_by_side sp_fewest sp_walk_order sp_is_machine { nx := fun _ M' => P .non M', rt := P } (startD 2 ds) M := by
  obtain ⟨Js, L, n, sts, rfl, H, hm, k⟩ := h
  have n0 : (0 : Int) < n := by have := hm.pos; omega
  have hwl := walk_len hm (Int.le_refl 0) n0
  have hc := walk_clo hm (Int.le_refl 0) n0
  have hT := trim_ok hm hc
  have hap := trim_apart hm hc
  have hw := walk_trim hm (Int.le_refl 0) n0
  have hml := hm.le
  unfold b__law_is_trim_of
  walk_at "s"
  refine ⟨rfl, Js, L, _, _, rfl, H, hT, fun M H => ?_⟩
  walk_at "e"
  refine t_if0 rfl ?_
  have tl : ((trim sts).map stD).length = (walk sts 0).length := by rw [List.length_map]; exact hT.len
  unfold machD
  walk_at "d"
  rw [tl]
  refine ⟨rfl, Js, L, n, sts, rfl, H, hm, fun p M H => ?_⟩
  have wl : ((walk sts 0).map D.int).length = (walk sts 0).length := List.length_map ..
  walk_at "d"
  rw [wl]
  refine t_if0 (by simp) ?_
  walk_at "d"
  refine ⟨rfl, Js, _, _, _, rfl, H, hT, fun u M H => ?_⟩
  have hw : walk (trim sts) 0 = rngL (walk sts 0).length := hw
  walk_at "d"
  rw [tl]
  refine h_lr H (by omega) (by omega) fun v M H => ?_
  have er : rngI 0 (((walk sts 0).length : Nat) : Int).toNat = (rngL (walk sts 0).length).map D.int := by
    rw [Int.toNat_natCast]
    unfold rngI rngL
    rw [List.map_map]
    refine List.map_congr_left fun i _ => ?_
    show D.int (0 + (i : Int)) = D.int (i : Int)
    rw [Int.zero_add]
  rw [er] at H
  rw [hw] at H
  refine v_ne_ints (H.get (List.mem_cons_of_mem _ List.mem_cons_self)) (H.get List.mem_cons_self) ?_
  refine t_if0 (by simp) ?_
  walk_at "d"
  refine ⟨rfl, _, _, rfl, hT, hap, ?_⟩
  walk_at "d"
  refine t_if1 rfl ?_
  walk_at "d"
  refine ⟨rfl, Js, _, n, sts, rfl, H, hm, fun M H => ?_⟩
  exact k M H.tail.tail.tail
end K23
/-! K23s: the law. -/
namespace K23
open PySem DL L2 LW GR TM
-- where it stands in the row of things held
local macro_rules | `(tactic| walk_at "m") => `(tactic| first
  | assumption
  | exact List.mem_cons_self
  | (refine List.mem_cons_of_mem _ ?_; walk_at "m"))
-- what the heap holds at a place
local macro_rules | `(tactic| walk_at "h") => `(tactic| first
  | assumption
  | exact mup_same
  | exact Held.get (by assumption) (by walk_at "m")
  | (refine (mup_ne ?_).trans ?_ <;> first | assumption | (apply Ne.symm; assumption) | walk_at "h"))
-- small facts of numbers
local macro_rules | `(tactic| walk_at "n") => `(tactic| first
  | assumption
  | omega
  | decide
  | (exact CMul.r (by decide))
  | (exact CMul.l (by decide))
  | (refine ⟨?_, ?_⟩ <;> first | assumption | omega | decide))
-- lengths
local macro_rules | `(tactic| walk_at "l") => `(tactic| first
  | assumption
  | (rw [sizeLine_eq]; first | omega | decide | (simp; done) | (simp; omega) | decide +kernel))
-- one step
local macro_rules | `(tactic| walk_at "e1") => `(tactic| first
  | with_reducible refine t_nil ?_
  | ((with_reducible refine' t_var ?s ?_); (case s => first | exact rfl | assumption))
  | with_reducible refine t_c ?_
  | with_reducible refine t_bin ?_
  | with_reducible refine t_if ?_
  | with_reducible refine t_asg ?_
  | ((with_reducible refine' t_gN' ?e ?_); (case e => ((try simp only [List.set_cons_zero, List.set_cons_succ, startD, List.map_cons, List.map_nil, List.length_cons, List.length_nil, Nat.reduceAdd, Nat.reduceSub, List.replicate, List.cons_append, List.nil_append]); exact rfl)))
  | with_reducible refine t_ret ?_
  | with_reducible refine t_exp ?_
  | with_reducible refine t_bcmp ?_
  | with_reducible refine t_band ?_
  | with_reducible refine t_bor ?_
  | with_reducible refine t_bnot ?_
  | with_reducible refine t_btru ?_
  | with_reducible refine t_byes ?_
  | with_reducible refine t_an ?_
  | with_reducible refine t_ac ?_
  | with_reducible refine t_fn ?_
  | with_reducible refine t_call ?_
  | with_reducible refine t_cmp ?_
  | with_reducible refine t_and ?_
  | with_reducible refine t_or ?_
  | with_reducible refine t_not ?_
  | with_reducible refine t_ife ?_
  | with_reducible refine t_tupN ?_
  | ((with_reducible refine v_newT ?l ?_); (case l => exact Nat.le_of_ble_eq_true rfl))
  | with_reducible refine t_lstN ?_
  | with_reducible refine t_isi ?_
  | with_reducible refine t_sl ?_
  | with_reducible refine t_o0 ?_
  | with_reducible refine t_o1 ?_
  | with_reducible refine t_un ?_
  | with_reducible refine t_mt ?_
  | with_reducible refine t_gS ?_
  | with_reducible refine t_gsC ?_
  | with_reducible refine t_gsN ?_
  | ((with_reducible refine t_gT ?s ?_); (case s => first | assumption | exact rfl))
  | with_reducible refine t_retN ?_
  | with_reducible refine t_brk ?_
  | with_reducible refine t_cnt ?_
  | ((with_reducible refine' t_aug ?s ?_); (case s => first | exact rfl | assumption))
  | with_reducible refine t_for ?_
  | with_reducible refine t_seqi ?_
  | with_reducible refine t_rg1 ?_
  | with_reducible refine t_rg2 ?_
  | with_reducible refine t_lc ?_
  | with_reducible refine v_tru_bl ?_
  | with_reducible refine v_tru_int ?_
  | with_reducible refine v_tru_non ?_
  | with_reducible refine v_tru_tup ?_
  | with_reducible refine v_add_int ?_
  | ((with_reducible refine v_add_str ?l ?_); (case l => walk_at "l"))
  | ((with_reducible refine v_add_tup ?l ?_); (case l => walk_at "l"))
  | with_reducible refine v_iadd_int ?_
  | with_reducible refine v_sub ?_
  | ((with_reducible refine v_mul ?c ?_); (case c => walk_at "n"))
  | ((with_reducible refine v_div ?c ?_); (case c => walk_at "n"))
  | ((with_reducible refine v_mod ?c ?_); (case c => walk_at "n"))
  | ((with_reducible refine v_pow ?c ?_); (case c => exact ⟨by decide, by decide, by decide⟩))
  | with_reducible refine v_neg ?_
  | with_reducible exact trivial
  | with_reducible refine v_eq_int ?_
  | with_reducible refine v_eq_str ?_
  | with_reducible refine v_eq_bl ?_
  | with_reducible refine v_ne_int ?_
  | with_reducible refine v_ne_str ?_
  | with_reducible refine v_ne_bl ?_
  | with_reducible refine v_lt ?_
  | with_reducible refine v_lt_str ?_
  | with_reducible refine t_ks ?_
  | with_reducible refine t_rv ?_
  | with_reducible refine v_seq_ktp ?_
  | with_reducible refine v_le ?_
  | with_reducible refine v_gt ?_
  | with_reducible refine v_ge ?_
  | with_reducible refine v_isi_non ?_
  | with_reducible refine v_isi_bl ?_
  | with_reducible refine v_isi_int ?_
  | with_reducible refine v_isi_str ?_
  | with_reducible refine v_isi_tup ?_
  | with_reducible refine v_in_str ?_
  | with_reducible refine v_nin_str ?_
  | with_reducible refine v_len_tup ?_
  | with_reducible refine v_len_rol ?_
  | with_reducible refine v_len_ktp ?_
  | with_reducible refine v_tru_ktp ?_
  | with_reducible refine v_isi_ktp ?_
  | with_reducible refine v_tuple_ktp ?_
  | with_reducible refine t_zip ?_
  | with_reducible refine v_zip_tt ?_
  | with_reducible refine v_zip_tk ?_
  | with_reducible refine v_zip_kt ?_
  | with_reducible refine v_zip_kk ?_
  | ((with_reducible refine' v_zip_ll ?e ?f ?_); (case e => walk_at "h"); (case f => walk_at "h"))
  | with_reducible refine t_ix ?_
  | ((with_reducible refine' ⟨seqK_ref ?e, ?_⟩); (case e => walk_at "h"))
  | with_reducible refine t_lr ?_
  | ((with_reducible refine' v_ix_ktp ?f ?_); (case f => first | assumption | exact rfl))
  | ((with_reducible refine t_gTk ?s ?_); (case s => first | assumption | exact rfl))
  | ((with_reducible refine v_len_str ?l ?_); (case l => walk_at "l"))
  | ((with_reducible refine' v_len_ref ?e ?_); (case e => walk_at "h"))
  | with_reducible refine v_int_int ?_
  | with_reducible refine v_int_bl ?_
  | with_reducible refine v_max ?_
  | with_reducible refine v_min ?_
  | with_reducible refine v_tuple_tup ?_
  | ((with_reducible refine' v_tuple_ref ?e ?_); (case e => walk_at "h"))
  | ((with_reducible refine' v_ix_ref ?e ?f ?_); (case e => walk_at "h"); (case f => first | assumption | exact rfl))
  | ((with_reducible refine' v_ix_tup ?f ?_); (case f => first | assumption | exact rfl))
  | ((with_reducible refine v_sl_str ?l ?_); (case l => walk_at "l"))
  | with_reducible refine v_sl_tup ?_
  | with_reducible refine v_seq_tup ?_
  | with_reducible refine v_seq_str ?_
  | with_reducible refine v_seq_rol ?_
  | ((with_reducible refine' v_seq_ref ?e ?_); (case e => walk_at "h"))
  | ((with_reducible refine' ⟨v_ty_ref ?e, ?_⟩); (case e => walk_at "h")))
local macro_rules | `(tactic| walk_at "d1") => `(tactic| first | with_reducible refine t_seq ?_ | walk_at "e1")
local macro_rules | `(tactic| walk_at "d") => `(tactic| repeat walk_at "d1")
-- one statement
local macro_rules | `(tactic| walk_at "e") => `(tactic| ((repeat walk_at "e1"); try (with_reducible show sSeq _ _ _ _ _)))
local macro_rules | `(tactic| walk_at "s") => `(tactic| ((with_reducible refine t_seq ?_); walk_at "e"))
-- a drawn thing's small facts
local macro_rules | `(tactic| walk_at "gi") => `(tactic| first
  | exact gi_c trivial
  | exact gi_c ⟨_, rfl, by decide, by decide⟩
  | exact gi_c (show _ ≤ _ by decide)
  | exact gi_c (show _ ≤ _ by decide +kernel)
  | exact gi_v rfl trivial)
local macro_rules | `(tactic| walk_at "ga") => `(tactic| ((repeat (first | exact ga_nil | refine ga_cons2 ?_ ?_)); all_goals (try walk_at "gi")))
theorem ok_law (ds : List D) (M : Mh) (P : PQ) (h : lawSp ds M P) : b_law sp_equal sp_turned sp_trimmed sp_flipped sp_is_trim_of sp_loose sp_pick sp_jar sp_names { nx := fun _ M' => P .non M', rt := P } (startD 12 ds) M := by
  obtain ⟨ns, rfl, nl, k⟩ := h
  have H := Held.nil M
  unfold b_law
  walk_at "s"
  refine h_jar H (by decide) fun j M H => ?_
  walk_at "e"
  walk_at "s"
  refine h_jar H (by decide) fun j2 M H => ?_
  have jm : j ∈ [j2, j] := by simp
  have j2m : j2 ∈ [j2, j] := by simp
  walk_at "e"
  walk_at "s"
  refine h_pick H jm (by decide) fun c M c0 c1 H => ?_
  walk_at "e"
  obtain ⟨cn, rfl⟩ : ∃ cn : Nat, c = (cn : Int) := ⟨c.toNat, by omega⟩
  rw [show (1 + (cn : Int)) = ((1 + cn : Nat) : Int) by omega]
  refine ⟨rfl, _, _, j2, 1 + cn, rfl, H, j2m, by omega, fun pa ps M psl psn H => ?_⟩
  walk_at "e"
  walk_at "s"
  refine ⟨rfl, _, _, j2, 3, rfl, H, j2m, by omega, fun lb zs M zsl zsn H => ?_⟩
  have lb2 : Lbs zs := lbs_of (by omega) zsn
  have ps2 : Lbs ps := lbs_of (by omega) psn
  walk_at "e"
  refine t_seq ?_
  walk_at "e"
  refine h_new H (Nat.le_of_ble_eq_true rfl) fun x M H => ?_
  walk_at "e"
  refine h_pick H jm (by decide) fun y M y0 y1 H => ?_
  refine h_ixm (zs := [4, 5, 3, 6, 7, 2, 8, 9, 1, 11, 14, 5, 12, 40, 90]) (f := D.int) H List.mem_cons_self y0 (by exact y1) fun many hm _ => ?_
  have mb : 1 ≤ many ∧ many ≤ 90 := by
    have : ∀ x ∈ ([4, 5, 3, 6, 7, 2, 8, 9, 1, 11, 14, 5, 12, 40, 90] : List Int), 1 ≤ x ∧ x ≤ 90 := by decide
    exact this many hm
  obtain ⟨n, rfl⟩ : ∃ n : Nat, many = (n : Int) := ⟨many.toNat, by omega⟩
  have H := H.tail
  walk_at "e"
  walk_at "s"
  refine ⟨rfl, _, _, j, pa, lb, ps, zs, n, rfl, H, jm, by walk_at "m", by walk_at "m", ps2.lab, by omega, by omega, lb2, by omega, by omega, by omega, by omega, fun sts M hs H => ?_⟩
  walk_at "e"
  walk_at "s"
  refine h_jar H (by decide) fun j3 M H => ?_
  walk_at "e"
  refine h_pick H (List.mem_cons_of_mem _ jm) (by decide) fun d M d0 d1 H => ?_
  obtain ⟨dn, rfl⟩ : ∃ dn : Nat, d = (dn : Int) := ⟨d.toNat, by omega⟩
  walk_at "e"
  rw [show (1 + (dn : Int)) = ((1 + dn : Nat) : Int) by omega]
  refine ⟨rfl, _, _, j3, pa, lb, ps, zs, 1 + dn, rfl, H, by simp, by walk_at "m", by walk_at "m", ps2.lab, by omega, by omega, lb2, by omega, by omega, by omega, by omega, fun stt M ht H => ?_⟩
  have n0 : (0 : Int) < n := by omega
  have m0 : (0 : Int) < ((1 + dn : Nat) : Int) := by omega
  have hT := trim_ok hs (walk_clo hs (Int.le_refl 0) n0)
  have hU := trim_ok ht (walk_clo ht (Int.le_refl 0) m0)
  have hT : MaOk (walk sts 0).length (trim sts) := hT
  have hU : MaOk (walk stt 0).length (trim stt) := hU
  walk_at "e"
  walk_at "s"
  refine ⟨rfl, _, _, _, sts, rfl, H, hs, fun M H => ?_⟩
  walk_at "e"
  walk_at "s"
  refine ⟨rfl, _, _, _, stt, rfl, H, ht, fun M H => ?_⟩
  walk_at "e"
  walk_at "s"
  refine ⟨rfl, _, _, _, sts, rfl, H, hs, fun M H => ?_⟩
  walk_at "e"
  walk_at "s"
  refine ⟨rfl, _, _, _, sts, rfl, H, hs, fun M H => ?_⟩
  walk_at "d"
  refine t_if0 rfl ?_
  walk_at "d"
  refine ⟨rfl, _, _, _, stt, rfl, H, ht, fun M H => ?_⟩
  walk_at "d"
  refine t_if0 rfl ?_
  walk_at "d"
  refine ⟨rfl, _, rfl, lay_mach hT, rfl, ?_⟩
  walk_at "d"
  refine t_if0 rfl ?_
  walk_at "d"
  refine ⟨rfl, _, _, _, trim sts, rfl, H, hT, fun M H => ?_⟩
  rw [trim_trim hs]
  walk_at "d"
  refine ⟨rfl, _, rfl, lay_mach hT, rfl, ?_⟩
  walk_at "d"
  refine t_if0 rfl ?_
  walk_at "d"
  refine ⟨rfl, _, _, _, sts, rfl, H, hs, fun M H => ?_⟩
  walk_at "d"
  refine ⟨rfl, _, _, _, sts, rfl, H, hs, fun M H => ?_⟩
  walk_at "d"
  refine ⟨rfl, _, rfl, lay_mach (flip_ok hs), rfl, ?_⟩
  walk_at "d"
  refine t_if0 rfl ?_
  walk_at "d"
  refine ⟨rfl, _, _, _, stt, rfl, H, ht, fun M H => ?_⟩
  walk_at "d"
  refine ⟨rfl, _, _, _, stt, rfl, H, ht, fun M H => ?_⟩
  walk_at "d"
  refine ⟨rfl, _, rfl, lay_mach (flip_ok ht), rfl, ?_⟩
  walk_at "d"
  refine t_if0 rfl ?_
  walk_at "d"
  refine ⟨rfl, _, _, _, sts, rfl, H, hs, fun M H => ?_⟩
  walk_at "d"
  refine ⟨rfl, _, _, _, sts.map flipS, rfl, H, flip_ok hs, fun M H => ?_⟩
  rw [flip_flip hs]
  walk_at "d"
  refine ⟨rfl, _, rfl, lay_mach hs, rfl, ?_⟩
  walk_at "d"
  refine t_if0 rfl ?_
  walk_at "d"
  refine ⟨rfl, _, _, _, sts.map flipS, rfl, H, flip_ok hs, fun M H => ?_⟩
  rw [flip_trim]
  walk_at "d"
  refine ⟨rfl, _, _, _, trim sts, rfl, H, hT, fun M H => ?_⟩
  walk_at "d"
  exact ⟨rfl, _, rfl, lay_mach (flip_ok hT), rfl, k M⟩
end K23
/-! K23z: the defs joined, and the law; printed by gen.py -/
namespace K23
open PySem PySem.Spec DL L2 LW TM
open PyProof.Rows hiding St
theorem all_mk {l : PySem.W.OpenLaw} {w : World} {K : PySem.W.Frag} {h : Heap} {mg : Str → Option Value} {fa : Addr} (X : K.In h) (G : h.Ns mainGlobals mg) (hfa : mg "law" = some (.ref fa))
    (e0 : DefAt K "_law_equal" s__law_equal)
    (e1 : DefAt K "_law_turned" s__law_turned)
    (e2 : DefAt K "merged" s_merged)
    (e3 : DefAt K "renumbered" s_renumbered)
    (e4 : DefAt K "moves_of" s_moves_of)
    (e5 : DefAt K "standings_from" s_standings_from)
    (e6 : DefAt K "trimmed_from" s_trimmed_from)
    (e7 : DefAt K "trimmed" s_trimmed)
    (e8 : DefAt K "flipped_word" s_flipped_word)
    (e9 : DefAt K "flipped_standing" s_flipped_standing)
    (e10 : DefAt K "flipped" s_flipped)
    (e11 : DefAt K "_law_marks" s__law_marks)
    (e12 : DefAt K "_law_goal" s__law_goal)
    (e13 : DefAt K "_law_same_kind" s__law_same_kind)
    (e14 : DefAt K "_law_side_by_side" s__law_side_by_side)
    (e15 : DefAt K "_law_fewest" s__law_fewest)
    (e16 : DefAt K "_law_walk_order" s__law_walk_order)
    (e17 : DefAt K "_law_is_number" s__law_is_number)
    (e18 : DefAt K "_law_is_name" s__law_is_name)
    (e19 : DefAt K "_law_is_label" s__law_is_label)
    (e20 : DefAt K "_law_is_move" s__law_is_move)
    (e21 : DefAt K "_law_is_moves" s__law_is_moves)
    (e22 : DefAt K "_law_is_machine" s__law_is_machine)
    (e23 : DefAt K "_law_is_trim_of" s__law_is_trim_of)
    (e24 : DefAt K "_law_pick" s__law_pick)
    (e25 : DefAt K "_law_spans_row" s__law_spans_row)
    (e26 : DefAt K "_law_mixed_moves" s__law_mixed_moves)
    (e27 : DefAt K "_law_loose" s__law_loose)
    (e28 : DefAt K "_law_cell" s__law_cell)
    (e29 : DefAt K "_law_jar" s__law_jar)
    (e30 : DefAt K "_law_name" s__law_name)
    (e31 : DefAt K "_law_names" s__law_names)
    (e32 : DefAt K "law" s_law)
    (n_len : PySem.W.nsIn K mainGlobals "len" = some none) (n_int : PySem.W.nsIn K mainGlobals "int" = some none) (n_str : PySem.W.nsIn K mainGlobals "str" = some none) (n_tuple : PySem.W.nsIn K mainGlobals "tuple" = some none) (n_list : PySem.W.nsIn K mainGlobals "list" = some none) (n_sum : PySem.W.nsIn K mainGlobals "sum" = some none) (n_abs : PySem.W.nsIn K mainGlobals "abs" = some none) (n_max : PySem.W.nsIn K mainGlobals "max" = some none) (n_min : PySem.W.nsIn K mainGlobals "min" = some none) (n_range : PySem.W.nsIn K mainGlobals "range" = some none) (n_isinstance : PySem.W.nsIn K mainGlobals "isinstance" = some none) (n_bool : PySem.W.nsIn K mainGlobals "bool" = some none) (n_dict : PySem.W.nsIn K mainGlobals "dict" = some none) (n_sorted : PySem.W.nsIn K mainGlobals "sorted" = some none) (n_zip : PySem.W.nsIn K mainGlobals "zip" = some none) (n_enumerate : PySem.W.nsIn K mainGlobals "enumerate" = some none) (n_reversed : PySem.W.nsIn K mainGlobals "reversed" = some none) (n_repr : PySem.W.nsIn K mainGlobals "repr" = some none) :
    ∃ fd : FuncData, (∀ (s : Shared) (v : Value), BindsTo s fd ⟨[v], []⟩ [("script", v)]) ∧ ∀ base : Heap, K.In base → base.Ns mainGlobals mg → FnG l.prog w K mg base CX0 7 fa fd ["script"] (upF K 1 lawSp) := by
  have bl : BltOk mg := blt_of X G (by
    intro x hx
    simp only [bltNames, List.mem_cons, List.not_mem_nil, or_false] at hx
    rcases hx with rfl | rfl | rfl | rfl | rfl | rfl | rfl | rfl | rfl | rfl | rfl | rfl | rfl | rfl | rfl | rfl | rfl | rfl
    · exact n_len
    · exact n_int
    · exact n_str
    · exact n_tuple
    · exact n_list
    · exact n_sum
    · exact n_abs
    · exact n_max
    · exact n_min
    · exact n_range
    · exact n_isinstance
    · exact n_bool
    · exact n_dict
    · exact n_sorted
    · exact n_zip
    · exact n_enumerate
    · exact n_reversed
    · exact n_repr
    )
  obtain ⟨f0, fd0, F0, m0, B0, T0⟩ := e0.get (ps := ["one", "other"]) X G fun _ _ _ _ _ _ us hl => match us, hl with | [_, _], _ => rfl
  obtain ⟨f1, fd1, F1, m1, B1, T1⟩ := e1.get (ps := ["machine"]) X G fun _ _ _ _ _ _ us hl => match us, hl with | [_], _ => rfl
  obtain ⟨f2, fd2, F2, m2, B2, T2⟩ := e2.get (ps := ["moves"]) X G fun _ _ _ _ _ _ us hl => match us, hl with | [_], _ => rfl
  obtain ⟨f3, fd3, F3, m3, B3, T3⟩ := e3.get (ps := ["standing", "numbers"]) X G fun _ _ _ _ _ _ us hl => match us, hl with | [_, _], _ => rfl
  obtain ⟨f4, fd4, F4, m4, B4, T4⟩ := e4.get (ps := ["standing"]) X G fun _ _ _ _ _ _ us hl => match us, hl with | [_], _ => rfl
  obtain ⟨f5, fd5, F5, m5, B5, T5⟩ := e5.get (ps := ["machine", "start"]) X G fun _ _ _ _ _ _ us hl => match us, hl with | [_, _], _ => rfl
  obtain ⟨f6, fd6, F6, m6, B6, T6⟩ := e6.get (ps := ["machine", "start"]) X G fun _ _ _ _ _ _ us hl => match us, hl with | [_, _], _ => rfl
  obtain ⟨f7, fd7, F7, m7, B7, T7⟩ := e7.get (ps := ["machine"]) X G fun _ _ _ _ _ _ us hl => match us, hl with | [_], _ => rfl
  obtain ⟨f8, fd8, F8, m8, B8, T8⟩ := e8.get (ps := ["kind"]) X G fun _ _ _ _ _ _ us hl => match us, hl with | [_], _ => rfl
  obtain ⟨f9, fd9, F9, m9, B9, T9⟩ := e9.get (ps := ["standing"]) X G fun _ _ _ _ _ _ us hl => match us, hl with | [_], _ => rfl
  obtain ⟨f10, fd10, F10, m10, B10, T10⟩ := e10.get (ps := ["machine"]) X G fun _ _ _ _ _ _ us hl => match us, hl with | [_], _ => rfl
  obtain ⟨f11, fd11, F11, m11, B11, T11⟩ := e11.get (ps := ["rows"]) X G fun _ _ _ _ _ _ us hl => match us, hl with | [_], _ => rfl
  obtain ⟨f12, fd12, F12, m12, B12, T12⟩ := e12.get (ps := ["moves", "label", "value"]) X G fun _ _ _ _ _ _ us hl => match us, hl with | [_, _, _], _ => rfl
  obtain ⟨f13, fd13, F13, m13, B13, T13⟩ := e13.get (ps := ["one", "other"]) X G fun _ _ _ _ _ _ us hl => match us, hl with | [_, _], _ => rfl
  obtain ⟨f14, fd14, F14, m14, B14, T14⟩ := e14.get (ps := ["machine", "answer"]) X G fun _ _ _ _ _ _ us hl => match us, hl with | [_, _], _ => rfl
  obtain ⟨f15, fd15, F15, m15, B15, T15⟩ := e15.get (ps := ["machine"]) X G fun _ _ _ _ _ _ us hl => match us, hl with | [_], _ => rfl
  obtain ⟨f16, fd16, F16, m16, B16, T16⟩ := e16.get (ps := ["machine"]) X G fun _ _ _ _ _ _ us hl => match us, hl with | [_], _ => rfl
  obtain ⟨f17, fd17, F17, m17, B17, T17⟩ := e17.get (ps := ["thing"]) X G fun _ _ _ _ _ _ us hl => match us, hl with | [_], _ => rfl
  obtain ⟨f18, fd18, F18, m18, B18, T18⟩ := e18.get (ps := ["thing"]) X G fun _ _ _ _ _ _ us hl => match us, hl with | [_], _ => rfl
  obtain ⟨f19, fd19, F19, m19, B19, T19⟩ := e19.get (ps := ["thing"]) X G fun _ _ _ _ _ _ us hl => match us, hl with | [_], _ => rfl
  obtain ⟨f20, fd20, F20, m20, B20, T20⟩ := e20.get (ps := ["thing", "many"]) X G fun _ _ _ _ _ _ us hl => match us, hl with | [_, _], _ => rfl
  obtain ⟨f21, fd21, F21, m21, B21, T21⟩ := e21.get (ps := ["thing", "many"]) X G fun _ _ _ _ _ _ us hl => match us, hl with | [_, _], _ => rfl
  obtain ⟨f22, fd22, F22, m22, B22, T22⟩ := e22.get (ps := ["thing"]) X G fun _ _ _ _ _ _ us hl => match us, hl with | [_], _ => rfl
  obtain ⟨f23, fd23, F23, m23, B23, T23⟩ := e23.get (ps := ["machine", "answer"]) X G fun _ _ _ _ _ _ us hl => match us, hl with | [_, _], _ => rfl
  obtain ⟨f24, fd24, F24, m24, B24, T24⟩ := e24.get (ps := ["jar", "many"]) X G fun _ _ _ _ _ _ us hl => match us, hl with | [_, _], _ => rfl
  obtain ⟨f25, fd25, F25, m25, B25, T25⟩ := e25.get (ps := ["jar", "label", "goals"]) X G fun _ _ _ _ _ _ us hl => match us, hl with | [_, _, _], _ => rfl
  obtain ⟨f26, fd26, F26, m26, B26, T26⟩ := e26.get (ps := ["jar", "labels", "goals"]) X G fun _ _ _ _ _ _ us hl => match us, hl with | [_, _, _], _ => rfl
  obtain ⟨f27, fd27, F27, m27, B27, T27⟩ := e27.get (ps := ["jar", "partners", "labels", "many"]) X G fun _ _ _ _ _ _ us hl => match us, hl with | [_, _, _, _], _ => rfl
  obtain ⟨f28, fd28, F28, m28, B28, T28⟩ := e28.get (ps := ["script", "place"]) X G fun _ _ _ _ _ _ us hl => match us, hl with | [_, _], _ => rfl
  obtain ⟨f29, fd29, F29, m29, B29, T29⟩ := e29.get (ps := ["script", "place"]) X G fun _ _ _ _ _ _ us hl => match us, hl with | [_, _], _ => rfl
  obtain ⟨f30, fd30, F30, m30, B30, T30⟩ := e30.get (ps := ["jar", "index"]) X G fun _ _ _ _ _ _ us hl => match us, hl with | [_, _], _ => rfl
  obtain ⟨f31, fd31, F31, m31, B31, T31⟩ := e31.get (ps := ["jar", "many"]) X G fun _ _ _ _ _ _ us hl => match us, hl with | [_, _], _ => rfl
  obtain ⟨f32, fd32, F32, m32, B32, T32⟩ := e32.get (ps := ["script"]) X G fun _ _ _ _ _ _ us hl => match us, hl with | [_], _ => rfl
  have ef := hfa.symm.trans m32
  cases ef
  refine ⟨fd32, fun s v => T32 s [v] rfl, fun base XB GB => ?_⟩
  have g0 : Dfn l.prog w K mg base 1 "_law_equal" 2 sp_equal := dfn_of F0 sc__law_equal m0 (by rfl) B0 (k := 0) .nil .nil bl (den__law_equal ) ok_equal
  have g1 : Dfn l.prog w K mg base 1 "_law_turned" 1 sp_turned := dfn_of F1 sc__law_turned m1 (by rfl) B1 (k := 0) .nil .nil bl (den__law_turned ) ok_turned
  have g2 : Dfn l.prog w K mg base 1 "merged" 1 sp_merged := dfn_of F2 sc_merged m2 (by rfl) B2 (k := 0) .nil .nil bl (den_merged ) ok_merged
  have g3 : Dfn l.prog w K mg base 2 "renumbered" 2 sp_renumbered := dfn_of F3 sc_renumbered m3 (by rfl) B3 (k := 1) (.cons (g2.mono (by decide)) .nil) .nil bl (den_renumbered sp_merged) ok_renumbered
  have g4 : Dfn l.prog w K mg base 1 "moves_of" 1 sp_moves_of := dfn_of F4 sc_moves_of m4 (by rfl) B4 (k := 0) .nil .nil bl (den_moves_of ) ok_moves_of
  have g5 : Dfn l.prog w K mg base 2 "standings_from" 2 sp_standings_from := dfn_of F5 sc_standings_from m5 (by rfl) B5 (k := 1) (.cons (g4.mono (by decide)) .nil) .nil bl (den_standings_from sp_moves_of) ok_standings_from
  have g6 : Dfn l.prog w K mg base 3 "trimmed_from" 2 sp_trimmed_from := dfn_of F6 sc_trimmed_from m6 (by rfl) B6 (k := 2) (.cons (g3.mono (by decide)) (.cons (g5.mono (by decide)) .nil)) .nil bl (den_trimmed_from sp_renumbered sp_standings_from) ok_trimmed_from
  have g7 : Dfn l.prog w K mg base 4 "trimmed" 1 sp_trimmed := dfn_of F7 sc_trimmed m7 (by rfl) B7 (k := 3) (.cons (g6.mono (by decide)) .nil) .nil bl (den_trimmed sp_trimmed_from) ok_trimmed
  have g8 : Dfn l.prog w K mg base 1 "flipped_word" 1 sp_flipped_word := dfn_of F8 sc_flipped_word m8 (by rfl) B8 (k := 0) .nil .nil bl (den_flipped_word ) ok_flipped_word
  have g9 : Dfn l.prog w K mg base 2 "flipped_standing" 1 sp_flipped_standing := dfn_of F9 sc_flipped_standing m9 (by rfl) B9 (k := 1) (.cons (g8.mono (by decide)) .nil) .nil bl (den_flipped_standing sp_flipped_word) ok_flipped_standing
  have g10 : Dfn l.prog w K mg base 3 "flipped" 1 sp_flipped := dfn_of F10 sc_flipped m10 (by rfl) B10 (k := 2) (.cons (g9.mono (by decide)) .nil) .nil bl (den_flipped sp_flipped_standing) ok_flipped
  have g11 : Dfn l.prog w K mg base 1 "_law_marks" 1 sp_marks := dfn_of F11 sc__law_marks m11 (by rfl) B11 (k := 0) .nil .nil bl (den__law_marks ) ok_marks
  have g12 : Dfn l.prog w K mg base 1 "_law_goal" 3 sp_goal := dfn_of F12 sc__law_goal m12 (by rfl) B12 (k := 0) .nil .nil bl (den__law_goal ) ok_goal
  have g13 : Dfn l.prog w K mg base 1 "_law_same_kind" 2 sp_same_kind := dfn_of F13 sc__law_same_kind m13 (by rfl) B13 (k := 0) .nil .nil bl (den__law_same_kind ) ok_same_kind
  have g14 : Dfn l.prog w K mg base 2 "_law_side_by_side" 2 sp_side_by_side := dfn_of F14 sc__law_side_by_side m14 (by rfl) B14 (k := 1) (.cons (g11.mono (by decide)) (.cons (g12.mono (by decide)) (.cons (g13.mono (by decide)) .nil))) .nil bl (den__law_side_by_side sp_marks sp_goal sp_same_kind) ok_side_by_side
  have g15 : Dfn l.prog w K mg base 1 "_law_fewest" 1 sp_fewest := dfn_of F15 sc__law_fewest m15 (by rfl) B15 (k := 0) .nil .nil bl (den__law_fewest ) ok_fewest
  have g16 : Dfn l.prog w K mg base 1 "_law_walk_order" 1 sp_walk_order := dfn_of F16 sc__law_walk_order m16 (by rfl) B16 (k := 0) .nil .nil bl (den__law_walk_order ) ok_walk_order
  have g17 : Dfn l.prog w K mg base 1 "_law_is_number" 1 sp_is_number := dfn_of F17 sc__law_is_number m17 (by rfl) B17 (k := 0) .nil .nil bl (den__law_is_number ) ok_is_number
  have g18 : Dfn l.prog w K mg base 1 "_law_is_name" 1 sp_is_name := dfn_of F18 sc__law_is_name m18 (by rfl) B18 (k := 0) .nil .nil bl (den__law_is_name ) ok_is_name
  have g19 : Dfn l.prog w K mg base 2 "_law_is_label" 1 sp_is_label := dfn_of F19 sc__law_is_label m19 (by rfl) B19 (k := 1) (.cons (g18.mono (by decide)) .nil) .nil bl (den__law_is_label sp_is_name) ok_is_label
  have g20 : Dfn l.prog w K mg base 3 "_law_is_move" 2 sp_is_move := dfn_of F20 sc__law_is_move m20 (by rfl) B20 (k := 2) (.cons (g17.mono (by decide)) (.cons (g19.mono (by decide)) .nil)) .nil bl (den__law_is_move sp_is_number sp_is_label) ok_is_move
  have g21 : Dfn l.prog w K mg base 4 "_law_is_moves" 2 sp_is_moves := dfn_of F21 sc__law_is_moves m21 (by rfl) B21 (k := 3) (.cons (g20.mono (by decide)) .nil) .nil bl (den__law_is_moves sp_is_move) ok_is_moves
  have g22 : Dfn l.prog w K mg base 5 "_law_is_machine" 1 sp_is_machine := dfn_of F22 sc__law_is_machine m22 (by rfl) B22 (k := 4) (.cons (g21.mono (by decide)) (.cons (g19.mono (by decide)) .nil)) .nil bl (den__law_is_machine sp_is_moves sp_is_label) ok_is_machine
  have g23 : Dfn l.prog w K mg base 6 "_law_is_trim_of" 2 sp_is_trim_of := dfn_of F23 sc__law_is_trim_of m23 (by rfl) B23 (k := 5) (.cons (g14.mono (by decide)) (.cons (g15.mono (by decide)) (.cons (g16.mono (by decide)) (.cons (g22.mono (by decide)) .nil)))) .nil bl (den__law_is_trim_of sp_side_by_side sp_fewest sp_walk_order sp_is_machine) ok_is_trim_of
  have g24 : Dfn l.prog w K mg base 1 "_law_pick" 2 sp_pick := dfn_of F24 sc__law_pick m24 (by rfl) B24 (k := 0) .nil .nil bl (den__law_pick ) ok_pick
  have g25 : Dfn l.prog w K mg base 2 "_law_spans_row" 3 sp_spans_row := dfn_of F25 sc__law_spans_row m25 (by rfl) B25 (k := 1) (.cons (g24.mono (by decide)) .nil) .nil bl (den__law_spans_row sp_pick) ok_spans_row
  have g26 : Dfn l.prog w K mg base 3 "_law_mixed_moves" 3 sp_mixed_moves := dfn_of F26 sc__law_mixed_moves m26 (by rfl) B26 (k := 2) (.cons (g24.mono (by decide)) (.cons (g25.mono (by decide)) .nil)) .nil bl (den__law_mixed_moves sp_pick sp_spans_row) ok_mixed_moves
  have g27 : Dfn l.prog w K mg base 4 "_law_loose" 4 sp_loose := dfn_of F27 sc__law_loose m27 (by rfl) B27 (k := 3) (.cons (g26.mono (by decide)) (.cons (g24.mono (by decide)) .nil)) .nil bl (den__law_loose sp_mixed_moves sp_pick) ok_loose
  have g28 : Dfn l.prog w K mg base 1 "_law_cell" 2 sp_cell := dfn_of F28 sc__law_cell m28 (by rfl) B28 (k := 0) .nil .nil bl (den__law_cell ) ok_cell
  have g29 : Dfn l.prog w K mg base 2 "_law_jar" 2 sp_jar := dfn_of F29 sc__law_jar m29 (by rfl) B29 (k := 1) (.cons (g28.mono (by decide)) .nil) .nil bl (den__law_jar sp_cell) ok_jar
  have g30 : Dfn l.prog w K mg base 2 "_law_name" 2 sp_name := dfn_of F30 sc__law_name m30 (by rfl) B30 (k := 1) (.cons (g24.mono (by decide)) .nil) .nil bl (den__law_name sp_pick) ok_name
  have g31 : Dfn l.prog w K mg base 3 "_law_names" 2 sp_names := dfn_of F31 sc__law_names m31 (by rfl) B31 (k := 2) (.cons (g30.mono (by decide)) .nil) .nil bl (den__law_names sp_name) ok_names
  exact fnok_of F32 sc_law (k := 6) (.cons (g0.mono (by decide)) (.cons (g1.mono (by decide)) (.cons (g7.mono (by decide)) (.cons (g10.mono (by decide)) (.cons (g23.mono (by decide)) (.cons (g27.mono (by decide)) (.cons (g24.mono (by decide)) (.cons (g29.mono (by decide)) (.cons (g31.mono (by decide)) .nil))))))))) .nil bl (den_law sp_equal sp_turned sp_trimmed sp_flipped sp_is_trim_of sp_loose sp_pick sp_jar sp_names) ok_law
end K23
open PySem PySem.W PyProof.Rows
set_option maxHeartbeats 0 in
theorem PySem.Challenge.cw_swapwarrant_k23_machines_trimmed_holds : PySem.Challenge.rw_swapwarrant_k23_machines_trimmed.Holds := by
  w_on; o_law; k_head; (case hw => w_witness2)
  k_fill
  refine DL.walk_ofG (l := PySem.Challenge.rw_swapwarrant_k23_machines_trimmed) (n := 63) (k := 7) (x := "script") (sp := fun w => DL.upF _ 1 DL.lawSp) rfl (by decide) rfl ⟨rfl, by decide, by decide⟩ (fun w h Y => PySem.W.kIn_of Y) ?F (fun _ _ a ns hl hO hS => DL.law_entry hl hO hS _)
  case F =>
    intro w mg fa h KX G hmg
    refine' K23.all_mk KX G hmg (DL.defAt ?a0 ?l0 ?c0 ?k0) (DL.defAt ?a1 ?l1 ?c1 ?k1) (DL.defAt ?a2 ?l2 ?c2 ?k2) (DL.defAt ?a3 ?l3 ?c3 ?k3) (DL.defAt ?a4 ?l4 ?c4 ?k4) (DL.defAt ?a5 ?l5 ?c5 ?k5) (DL.defAt ?a6 ?l6 ?c6 ?k6) (DL.defAt ?a7 ?l7 ?c7 ?k7) (DL.defAt ?a8 ?l8 ?c8 ?k8) (DL.defAt ?a9 ?l9 ?c9 ?k9) (DL.defAt ?a10 ?l10 ?c10 ?k10) (DL.defAt ?a11 ?l11 ?c11 ?k11) (DL.defAt ?a12 ?l12 ?c12 ?k12) (DL.defAt ?a13 ?l13 ?c13 ?k13) (DL.defAt ?a14 ?l14 ?c14 ?k14) (DL.defAt ?a15 ?l15 ?c15 ?k15) (DL.defAt ?a16 ?l16 ?c16 ?k16) (DL.defAt ?a17 ?l17 ?c17 ?k17) (DL.defAt ?a18 ?l18 ?c18 ?k18) (DL.defAt ?a19 ?l19 ?c19 ?k19) (DL.defAt ?a20 ?l20 ?c20 ?k20) (DL.defAt ?a21 ?l21 ?c21 ?k21) (DL.defAt ?a22 ?l22 ?c22 ?k22) (DL.defAt ?a23 ?l23 ?c23 ?k23) (DL.defAt ?a24 ?l24 ?c24 ?k24) (DL.defAt ?a25 ?l25 ?c25 ?k25) (DL.defAt ?a26 ?l26 ?c26 ?k26) (DL.defAt ?a27 ?l27 ?c27 ?k27) (DL.defAt ?a28 ?l28 ?c28 ?k28) (DL.defAt ?a29 ?l29 ?c29 ?k29) (DL.defAt ?a30 ?l30 ?c30 ?k30) (DL.defAt ?a31 ?l31 ?c31 ?k31) (DL.defAt ?a32 ?l32 ?c32 ?k32)  ?n_len ?n_int ?n_str ?n_tuple ?n_list ?n_sum ?n_abs ?n_max ?n_min ?n_range ?n_isinstance ?n_bool ?n_dict ?n_sorted ?n_zip ?n_enumerate ?n_reversed ?n_repr
    (case a0 => k_is); (case l0 => k_is); (case c0 => k_is); (case k0 => k_is); (case a1 => k_is); (case l1 => k_is); (case c1 => k_is); (case k1 => k_is); (case a2 => k_is); (case l2 => k_is); (case c2 => k_is); (case k2 => k_is); (case a3 => k_is); (case l3 => k_is); (case c3 => k_is); (case k3 => k_is); (case a4 => k_is); (case l4 => k_is); (case c4 => k_is); (case k4 => k_is); (case a5 => k_is); (case l5 => k_is); (case c5 => k_is); (case k5 => k_is); (case a6 => k_is); (case l6 => k_is); (case c6 => k_is); (case k6 => k_is); (case a7 => k_is); (case l7 => k_is); (case c7 => k_is); (case k7 => k_is); (case a8 => k_is); (case l8 => k_is); (case c8 => k_is); (case k8 => k_is); (case a9 => k_is); (case l9 => k_is); (case c9 => k_is); (case k9 => k_is); (case a10 => k_is); (case l10 => k_is); (case c10 => k_is); (case k10 => k_is); (case a11 => k_is); (case l11 => k_is); (case c11 => k_is); (case k11 => k_is); (case a12 => k_is); (case l12 => k_is); (case c12 => k_is); (case k12 => k_is); (case a13 => k_is); (case l13 => k_is); (case c13 => k_is); (case k13 => k_is); (case a14 => k_is); (case l14 => k_is); (case c14 => k_is); (case k14 => k_is); (case a15 => k_is); (case l15 => k_is); (case c15 => k_is); (case k15 => k_is); (case a16 => k_is); (case l16 => k_is); (case c16 => k_is); (case k16 => k_is); (case a17 => k_is); (case l17 => k_is); (case c17 => k_is); (case k17 => k_is); (case a18 => k_is); (case l18 => k_is); (case c18 => k_is); (case k18 => k_is); (case a19 => k_is); (case l19 => k_is); (case c19 => k_is); (case k19 => k_is); (case a20 => k_is); (case l20 => k_is); (case c20 => k_is); (case k20 => k_is); (case a21 => k_is); (case l21 => k_is); (case c21 => k_is); (case k21 => k_is); (case a22 => k_is); (case l22 => k_is); (case c22 => k_is); (case k22 => k_is); (case a23 => k_is); (case l23 => k_is); (case c23 => k_is); (case k23 => k_is); (case a24 => k_is); (case l24 => k_is); (case c24 => k_is); (case k24 => k_is); (case a25 => k_is); (case l25 => k_is); (case c25 => k_is); (case k25 => k_is); (case a26 => k_is); (case l26 => k_is); (case c26 => k_is); (case k26 => k_is); (case a27 => k_is); (case l27 => k_is); (case c27 => k_is); (case k27 => k_is); (case a28 => k_is); (case l28 => k_is); (case c28 => k_is); (case k28 => k_is); (case a29 => k_is); (case l29 => k_is); (case c29 => k_is); (case k29 => k_is); (case a30 => k_is); (case l30 => k_is); (case c30 => k_is); (case k30 => k_is); (case a31 => k_is); (case l31 => k_is); (case c31 => k_is); (case k31 => k_is); (case a32 => k_is); (case l32 => k_is); (case c32 => k_is); (case k32 => k_is)
    (case n_len => k_is); (case n_int => k_is); (case n_str => k_is); (case n_tuple => k_is); (case n_list => k_is); (case n_sum => k_is); (case n_abs => k_is); (case n_max => k_is); (case n_min => k_is); (case n_range => k_is); (case n_isinstance => k_is); (case n_bool => k_is); (case n_dict => k_is); (case n_sorted => k_is); (case n_zip => k_is); (case n_enumerate => k_is); (case n_reversed => k_is); (case n_repr => k_is)
