import PyProof.Rows.All
import Wide.All
import OpenK.AllK
import Wide.FinOn
import PySem.Challenge.RW_np0310_01
open PySem PySem.W PySem.Calls PyProof.Rows
set_option Elab.async false
set_option maxRecDepth 100000
set_option linter.unusedVariables false
namespace Mine

set_option genSizeOf false
set_option genCtorIdx false
set_option backward.match.sparseCases false
/-- what a def's body is, and the cells it closes over -/
structure FnI where
  name : Str
  qual : Str
  params : Arguments
  body : FuncBody
  scope : Scope
  closure : List (Str × Addr) := []
  tab : Option Addr := none

noncomputable def Br (b : Bool) (A B : Prop) : Prop := match b with
  | true => A
  | false => B
set_option genCtorIdx true
/-- values, less their tokens; tuples are pure -/
inductive V where
  | none
  | bool (b : Bool)
  | int (i : Int)
  | str (s : Str)
  | ref (a : Addr)
  | cls (n : Str)
  | ty (n : String)
  | bi (n : String)
  | fn (i : FnI)
  | rng (lo hi : Int)
  | tup (l : List V)

/-- what the store holds -/
inductive Cell where
  | list (l : List V)
  | dict (l : List (Str × V))
  | inst (cn : Str) (dx : Addr)
  | cell (v : Option V)
  | tab (pos : Pos) (qual : Str)
  | map (l : List (Str × V))
  | ro (l : List V) (o : Obj)

set_option genCtorIdx false
abbrev Sto := Addr → Option Cell
noncomputable def upd (σ : Sto) (a : Addr) (c : Cell) : Sto := fun b => if b = a then some c else σ b
theorem upd_eq {σ : Sto} {a : Addr} {c : Cell} : upd σ a c a = some c := by simp [upd]
theorem upd_ne {σ : Sto} {a b : Addr} {c : Cell} (h : b ≠ a) : upd σ a c b = σ b := by simp [upd, h]

noncomputable def kAddr (K : Frag) (n : Str) : Addr := match nsIn K mainGlobals n with
  | some (some (.ref a)) => a
  | _ => 0

structure GE where
  w : World
  K : Frag
  h₀ : Heap
  mg : Str → Option Value
  mb : Str → Option Value
  p : Program
  loose : List Str
  mean : ExcName → Option Value
  X : K.In h₀
  T : Top p loose mean mg mb h₀
  trim : ∀ n, h₀.objs.size = n + 1 → ∃ o, h₀.get? n = some o
abbrev GE.M (g : GE) : Model := model PySem.Challenge.pw_np0310_01 g.w
noncomputable def GE.fa (g : GE) (n : Str) : Addr := kAddr g.K n

/-- an object that the store does not track -/
noncomputable def U (σ : Sto) (h : Heap) (b : Addr) (o : Obj) : Prop := h.get? b = some o ∧ σ b = none
noncomputable def notDict (o : Obj) : Prop := ∀ es n, o.data ≠ .dict es n

structure FdOk (σ : Sto) (h : Heap) (i : FnI) (fd : FuncData) : Prop where
  qual : fd.qualname = i.qual
  params : fd.params = i.params
  body : fd.body = i.body
  scope : fd.scope = i.scope
  globals : fd.globals = mainGlobals
  closure : fd.closure = i.closure
  defaults : fd.defaults = .none
  kwdefaults : fd.kwdefaults = .none
  builtins : fd.builtins = builtinsNs
  code : ∃ c oc vs t, fd.code = .ref c ∧ U σ h c oc ∧ oc.data = .fields vs ∧ vs[1]? = some (.str i.qual t) ∧
    ∀ c', i.tab = some c' → c = c'

mutual
noncomputable def VR (g : GE) (σ : Sto) (h : Heap) : V → Value → Prop
  | .none, v => v = .none
  | .bool b, v => v = .bool b
  | .int i, v => ∃ t, v = .int i t
  | .str x, v => ∃ t, v = .str x t
  | .ref a, v => v = .ref a
  | .cls n, v => v = .ref (g.fa n)
  | .ty n, v => v = .type n
  | .bi n, v => v = .builtin n
  | .fn i, v => ∃ f o fd, v = .ref f ∧ U σ h f o ∧ o.data = .func fd ∧ FdOk σ h i fd
  | .rng lo hi, v => ∃ r o t u w, v = .ref r ∧ U σ h r o ∧ o = { cls := .type "range", dict := none, data := .fields #[.int lo t, .int hi u, .int 1 w], slots := #[] }
  | .tup l, v => ∃ t items n, v = .ref t ∧ U σ h t { cls := .type "tuple", data := .seq items n } ∧ VRs g σ h l items.toList
noncomputable def VRs (g : GE) (σ : Sto) (h : Heap) : List V → List Value → Prop
  | [], vs => vs = []
  | x :: xs, vs => ∃ v r, vs = v :: r ∧ VR g σ h x v ∧ VRs g σ h xs r
end

/-- no iterator -/
noncomputable def notIter (o : Obj) : Prop := ∀ fs, o.data = .fields fs → (∃ q t, fs[1]? = some (.str q t)) ∨ o.cls = .type "range"
/-- what is kept of the untracked objects -/
noncomputable def Kp (σ : Sto) (h : Heap) (σ' : Sto) (h' : Heap) : Prop := ∀ b o, notDict o → notIter o → U σ h b o → U σ' h' b o

theorem FdOk.keep {σ σ' : Sto} {h h' : Heap} {i : FnI} {fd : FuncData} (k : Kp σ h σ' h') (x : FdOk σ h i fd) : FdOk σ' h' i fd := by
  obtain ⟨a1, a2, a3, a4, a5, a6, a7, a8, a9, c, oc, vs, t, e1, e2, e3, e4, e5⟩ := x
  have u := k c oc (fun es n e => by rw [e3] at e; cases e) (fun fs e => by rw [e3] at e; cases e; exact .inl ⟨_, _, e4⟩) e2
  exact ⟨a1, a2, a3, a4, a5, a6, a7, a8, a9, c, oc, vs, t, e1, u, e3, e4, e5⟩

theorem VR.keep {g : GE} {σ σ' : Sto} {h h' : Heap} (k : Kp σ h σ' h') {x : V} {v : Value} : VR g σ h x v → VR g σ' h' x v := by
  refine V.rec (motive_1 := fun x => ∀ v, VR g σ h x v → VR g σ' h' x v) (motive_2 := fun l => ∀ vs, VRs g σ h l vs → VRs g σ' h' l vs) (fun _ e => e) (fun _ _ e => e) (fun _ _ e => e) (fun _ _ e => e) (fun _ _ e => e) (fun _ _ e => e) (fun _ _ e => e) (fun _ _ e => e) ?_ ?_ ?_ (fun _ e => e) ?_ x v
  · intro i v e
    obtain ⟨f, o, fd, e1, e2, e3, e4⟩ := e
    exact ⟨f, o, fd, e1, k f o (fun es n e => by rw [e3] at e; cases e) (fun fs e => by rw [e3] at e; cases e) e2, e3, e4.keep k⟩
  · intro a b v e
    obtain ⟨r, o, t, u, w, e1, e2, e3⟩ := e
    exact ⟨r, o, t, u, w, e1, k r o (fun es n e => by rw [e3] at e; cases e) (fun fs e => .inr (by rw [e3])) e2, e3⟩
  · intro l ih v e
    obtain ⟨t, items, n, e1, e2, e5⟩ := e
    exact ⟨t, items, n, e1, k t _ (fun es n e => by cases e) (fun fs e => by cases e) e2, ih _ e5⟩
  · intro x l hx hl vs e
    obtain ⟨v, r, e1, e2, e3⟩ := e
    exact ⟨v, r, e1, hx _ e2, hl _ e3⟩
theorem VRs.keep {g : GE} {σ σ' : Sto} {h h' : Heap} (k : Kp σ h σ' h') {xs : List V} {vs : List Value} (e : VRs g σ h xs vs) : VRs g σ' h' xs vs := by
  induction xs generalizing vs with
  | nil => exact e
  | cons x xs ih =>
    obtain ⟨v, r, e1, e2, e3⟩ := e
    exact ⟨v, r, e1, e2.keep k, ih e3⟩

theorem VRs.length {g : GE} {σ : Sto} {h : Heap} {xs : List V} {vs : List Value} (e : VRs g σ h xs vs) : vs.length = xs.length := by
  induction xs generalizing vs with
  | nil => cases (show vs = [] from e); rfl
  | cons x xs ih =>
    obtain ⟨v, r, rfl, _, e3⟩ := e
    exact congrArg Nat.succ (ih e3)
theorem VRs.append {g : GE} {σ : Sto} {h : Heap} {xs ys : List V} {vs ws : List Value} (e : VRs g σ h xs vs) (q : VRs g σ h ys ws) : VRs g σ h (xs ++ ys) (vs ++ ws) := by
  induction xs generalizing vs with
  | nil => cases (show vs = [] from e); exact q
  | cons x xs ih =>
    obtain ⟨v, r, rfl, e2, e3⟩ := e
    exact ⟨v, r ++ ws, rfl, e2, ih e3⟩
theorem VRs.get {g : GE} {σ : Sto} {h : Heap} {xs : List V} {vs : List Value} (e : VRs g σ h xs vs) {i : Nat} {x : V} (q : xs[i]? = some x) : ∃ v, vs[i]? = some v ∧ VR g σ h x v := by
  induction xs generalizing vs i with
  | nil => cases q
  | cons y xs ih =>
    obtain ⟨v, r, rfl, e2, e3⟩ := e
    cases i with
    | zero => cases q; exact ⟨v, rfl, e2⟩
    | succ i => exact ih e3 q

/-- a dict's entries -/
noncomputable def EntR (g : GE) (σ : Sto) (h : Heap) : List (Str × V) → List DictEntry → Prop
  | [], es => es = []
  | p :: l, es => ∃ e r, es = e :: r ∧ (∃ t, e.key = .str p.1 t) ∧ e.hash = PyData.keyHash g.w.params p.1 ∧ VR g σ h p.2 e.val ∧ EntR g σ h l r
theorem EntR.keep {g : GE} {σ σ' : Sto} {h h' : Heap} (k : Kp σ h σ' h') {l : List (Str × V)} {es : List DictEntry} (e : EntR g σ h l es) : EntR g σ' h' l es := by
  induction l generalizing es with
  | nil => exact e
  | cons p l ih =>
    obtain ⟨e, r, a, b, c, d, q⟩ := e
    exact ⟨e, r, a, b, c, d.keep k, ih q⟩

noncomputable def codeAtU (σ : Sto) (h : Heap) (v : Value) (q : Str) : Prop := ∃ c o vs t, v = .ref c ∧ U σ h c o ∧ o.data = .fields vs ∧ vs[1]? = some (.str q t)

noncomputable def KvR (g : GE) (σ : Sto) (h : Heap) : List (Str × V) → List (Str × Value) → Prop
  | [], kvs => kvs = []
  | p :: l, kvs => ∃ u r, kvs = (p.1, u) :: r ∧ VR g σ h p.2 u ∧ KvR g σ h l r
theorem KvR.keep {g : GE} {σ σ' : Sto} {h h' : Heap} (k : Kp σ h σ' h') {l : List (Str × V)} {kvs : List (Str × Value)} (e : KvR g σ h l kvs) : KvR g σ' h' l kvs := by
  induction l generalizing kvs with
  | nil => exact e
  | cons p l ih =>
    obtain ⟨u, r, a, b, c⟩ := e
    exact ⟨u, r, a, b.keep k, ih c⟩

noncomputable def CellR (g : GE) (σ : Sto) (h : Heap) (v : Option V) (u : Option Value) : Prop := match v with
  | none => (match u with
    | none => True
    | some _ => False)
  | some x => (match u with
    | none => False
    | some u => VR g σ h x u)
noncomputable def ORep (g : GE) (σ : Sto) (h : Heap) : Cell → Obj → Prop
  | .list l, o => ∃ items n, o = { cls := .type "list", data := .seq items n } ∧ VRs g σ h l items.toList
  | .dict l, o => ∃ es n, o = dictOf es n ∧ EntR g σ h l es
  | .inst cn dx, o => o = instObj (g.fa cn) dx
  | .ro l o₀, o => o = o₀ ∧ ∃ items n, (o.cls = .type "list" ∧ o.data = .seq items n) ∧ VRs g σ h l items.toList
  | .cell v, o => ∃ u, o.data = .cell u ∧ CellR g σ h v u
  | .map l, o => ∃ kvs, o.IsDictOf (strKind PySem.Challenge.pw_np0310_01 g.w) kvs ∧ KvR g σ h l kvs
  | .tab pos q, o => ∃ ps, o = tabObj ps ∧ TriplesOk ps.toList ∧ (codeAmong pos ps.toList = none ∨ ∃ c, codeAmong pos ps.toList = some c ∧ codeAtU σ h c q)

theorem codeAtU.keep {σ σ' : Sto} {h h' : Heap} (k : Kp σ h σ' h') {v : Value} {q : Str} (e : codeAtU σ h v q) : codeAtU σ' h' v q := by
  obtain ⟨c, o, vs, t, e1, e2, e3, e4⟩ := e
  exact ⟨c, o, vs, t, e1, k c o (fun es n e => by rw [e3] at e; cases e) (fun fs e => by rw [e3] at e; cases e; exact .inl ⟨_, _, e4⟩) e2, e3, e4⟩
theorem CellR.keep {g : GE} {σ σ' : Sto} {h h' : Heap} (k : Kp σ h σ' h') {v : Option V} {u : Option Value} (e : CellR g σ h v u) : CellR g σ' h' v u := by
  cases v with
  | none => exact e
  | some v => cases u with
    | none => exact e
    | some u => exact VR.keep k e
theorem ORep.keep {g : GE} {σ σ' : Sto} {h h' : Heap} (k : Kp σ h σ' h') {c : Cell} {o : Obj} (e : ORep g σ h c o) : ORep g σ' h' c o := by
  cases c with
  | list l => obtain ⟨items, n, a, b⟩ := e; exact ⟨items, n, a, b.keep k⟩
  | dict l => obtain ⟨es, n, a, b⟩ := e; exact ⟨es, n, a, b.keep k⟩
  | inst _ _ => exact e
  | cell v => obtain ⟨u, a, b⟩ := e; exact ⟨u, a, b.keep k⟩
  | map l => obtain ⟨kvs, a, b⟩ := e; exact ⟨kvs, a, b.keep k⟩
  | ro l o => obtain ⟨e, items, n, a, b⟩ := e; exact ⟨e, items, n, a, b.keep k⟩
  | tab p q => obtain ⟨ps, a, b, c⟩ := e; exact ⟨ps, a, b, c.imp id fun z => by obtain ⟨c, e, q⟩ := z; exact ⟨c, e, q.keep k⟩⟩

structure HOk (g : GE) (σ : Sto) (h : Heap) : Prop where
  base : ∀ b o, g.h₀.get? b = some o → U σ h b o
  rep : ∀ a c, σ a = some c → ∃ o, h.get? a = some o ∧ ORep g σ h c o
theorem HOk.size {g : GE} {σ : Sto} {h : Heap} (o : HOk g σ h) : g.h₀.objs.size ≤ h.objs.size := by
  cases e : g.h₀.objs.size with
  | zero => exact Nat.zero_le _
  | succ n =>
    obtain ⟨x, q⟩ := g.trim n e
    exact Heap.lt_size (o.base _ _ q).1

/-- the evolution: all that is not tracked (but the one frame) stays -/
noncomputable def Ev (L : Option Addr) (σ : Sto) (h : Heap) (σ' : Sto) (h' : Heap) : Prop := ∀ b o, some b ≠ L → U σ h b o → U σ' h' b o
theorem Ev.refl {L : Option Addr} {σ : Sto} {h : Heap} : Ev L σ h σ h := fun _ _ _ u => u
theorem Ev.trans {L : Option Addr} {σ σ' σ'' : Sto} {h h' h'' : Heap} (x : Ev L σ h σ' h') (y : Ev L σ' h' σ'' h'') : Ev L σ h σ'' h'' := fun b o n u => y b o n (x b o n u)
theorem Ev.weak {L : Option Addr} {σ σ' : Sto} {h h' : Heap} (x : Ev none σ h σ' h') : Ev L σ h σ' h' := fun b o _ u => x b o (fun e => by cases e) u

/-- a frame's names, by their places in the scope -/
abbrev Loc := List (Option V)
noncomputable def ixN (x : Str) : List (Str × NameKind) → Nat
  | [] => 0
  | p :: r => if x = p.1 then 0 else ixN x r + 1
theorem ixN_inj {x y : Str} {ns : List (Str × NameKind)} {k : NameKind} (h : ns.lookup x = some k) (e : ixN x ns = ixN y ns) : x = y := by
  induction ns with
  | nil => cases h
  | cons p r ih =>
    by_cases h1 : x = p.1
    · by_cases h2 : y = p.1
      · rw [h1, h2]
      · rw [show ixN x (p :: r) = 0 from if_pos h1, show ixN y (p :: r) = ixN y r + 1 from if_neg h2] at e; cases e
    · rw [show (p :: r).lookup x = r.lookup x by rw [List.lookup_cons, beq_eq_false_iff_ne.mpr h1]] at h
      by_cases h2 : y = p.1
      · rw [show ixN x (p :: r) = ixN x r + 1 from if_neg h1, show ixN y (p :: r) = 0 from if_pos h2] at e; cases e
      · rw [show ixN x (p :: r) = ixN x r + 1 from if_neg h1, show ixN y (p :: r) = ixN y r + 1 from if_neg h2] at e
        exact ih h (Nat.succ.inj e)
structure LocAt (env : Env) (ρ : Loc) (x : Str) (v : V) : Prop where
  k : env.kindOf x = some .local
  v : ρ[ixN x env.scope.names]? = some (some v)
theorem LocAt.put {env : Env} {ρ : Loc} {x y : Str} {v w : V} (hx : env.kindOf x = some .local) (h : LocAt env (ρ.set (ixN x env.scope.names) (some v)) y w) : (y = x ∧ w = v) ∨ (y ≠ x ∧ LocAt env ρ y w) := by
  obtain ⟨h1, h2⟩ := h
  by_cases e : ixN x env.scope.names = ixN y env.scope.names
  · have e' := ixN_inj hx e
    subst e'
    rw [List.getElem?_set_self'] at h2
    cases q : ρ[ixN x env.scope.names]? with
    | none => rw [q] at h2; cases h2
    | some z => rw [q] at h2; cases h2; exact .inl ⟨rfl, rfl⟩
  · rw [List.getElem?_set_ne e] at h2; exact .inr ⟨fun q => e (by rw [q]), h1, h2⟩

structure Inv (g : GE) (env : Env) (ρ : Loc) (σ : Sto) (h : Heap) : Prop where
  ok : HOk g σ h
  fr : ∃ m, h.Ns env.locals m ∧ ∀ x v, LocAt env ρ x v → ∃ u, m x = some u ∧ VR g σ h v u
  loc : σ env.locals = none
  above : g.h₀.objs.size ≤ env.locals

theorem Ev.kp {g : GE} {env : Env} {ρ : Loc} {σ σ' : Sto} {h h' : Heap} (i : Inv g env ρ σ h) (x : Ev (some env.locals) σ h σ' h') : Kp σ h σ' h' := fun b o nd _ u => by
  refine x b o (fun e => ?_) u
  cases e
  obtain ⟨m, ⟨o', es, ep, e1, e2, _⟩, _⟩ := i.fr
  rw [u.1] at e1; cases e1
  exact nd es ep e2
theorem Ev.kp0 {σ σ' : Sto} {h h' : Heap} (x : Ev none σ h σ' h') : Kp σ h σ' h' := fun b o _ _ u => x b o (fun e => by cases e) u

/-- depth and units to spare -/
structure Rm (A : Around) (d : Nat) : Prop where
  depth : A.depth + d < recursionLimit
  units : A.units + 8 * d + 40 ≤ cLine
  handled : A.handled = none

/-- what a run leaves -/
inductive Post (g : GE) (env : Env) {α X : Type} (R : Sto → Heap → X → α → Prop) (σ : Sto) (s : Shared) (Q : X → Loc → Sto → Prop) (a : α) : Shared → Prop
  | mk (x : X) (ρ' : Loc) (σ' : Sto) (h' : Heap) (tk : Nat) (i : Inv g env ρ' σ' h') (ev : Ev (some env.locals) σ s.heap σ' h') (r : R σ' h' x a) (q : Q x ρ' σ') : Post g env R σ s Q a { s with heap := h', toks := tk }
/-- .. where the names stand as they stood -/
inductive QE {X : Type} (ρ : Loc) (k : X → Sto → Prop) (x : X) : Loc → Sto → Prop
  | mk {σ : Sto} (q : k x σ) : QE ρ k x ρ σ
abbrev NoE : Value → Shared → Prop := fun _ _ => False

noncomputable def W (g : GE) (d : Nat) (env : Env) {α X : Type} (R : Sto → Heap → X → α → Prop) (P : Sto → Heap → Prop) (ρ : Loc) (σ : Sto) (t : Sem α) (Q : X → Loc → Sto → Prop) : Prop :=
  ∀ A s, Rm A d → Inv g env ρ σ s.heap → P σ s.heap → wpAny g.M A t (Post g env R σ s Q) NoE s

/-- a condition that stays as long as the untracked objects do -/
noncomputable def Pers (P : Sto → Heap → Prop) : Prop := ∀ σ h σ' h', Kp σ h σ' h' → P σ h → P σ' h'

section
variable {g : GE} {d : Nat} {env : Env} {α β X Y : Type} {R : Sto → Heap → X → α → Prop} {R' : Sto → Heap → Y → β → Prop} {P : Sto → Heap → Prop} {ρ : Loc} {σ : Sto}

theorem Post.after {s : Shared} {σ₁ : Sto} {h₁ : Heap} {tk : Nat} {Q : X → Loc → Sto → Prop} {a : α} {s' : Shared} (ev : Ev (some env.locals) σ s.heap σ₁ h₁)
    (p : Post g env R σ₁ { s with heap := h₁, toks := tk } Q a s') : Post g env R σ s Q a s' := by
  cases p with
  | mk x ρ' σ' h' tk' i ev' r q => exact .mk x ρ' σ' h' tk' i (ev.trans ev') r q

theorem W.mono {t : Sem α} {Q Q' : X → Loc → Sto → Prop} (h : W g d env R P ρ σ t Q) (hQ : ∀ x ρ' σ', Q x ρ' σ' → Q' x ρ' σ') : W g d env R P ρ σ t Q' := fun A s r i p =>
  wpAny_mono (h A s r i p) (fun _ _ z => by cases z with | mk x ρ' σ' h' tk i ev rr q => exact .mk x ρ' σ' h' tk i ev rr (hQ _ _ _ q)) fun _ _ e => e
theorem W.run {t : Sem α} {Q : X → Loc → Sto → Prop} {A : Around} {s : Shared} (h : W g d env R P ρ σ t Q) (r : Rm A d) (i : Inv g env ρ σ s.heap) (p : P σ s.heap) {Q' : α → Shared → Prop} {E : Value → Shared → Prop}
    (n : ∀ x ρ' σ' h' tk a, Inv g env ρ' σ' h' → Ev (some env.locals) σ s.heap σ' h' → R σ' h' x a → Q x ρ' σ' → Q' a { s with heap := h', toks := tk }) : wpAny g.M A t Q' E s :=
  wpAny_mono (h A s r i p) (fun _ _ z => by cases z with | mk x ρ' σ' h' tk i ev rr q => exact n x ρ' σ' h' tk _ i ev rr q) fun _ _ e => e.elim
theorem W.weaken {t : Sem α} {Q : X → Loc → Sto → Prop} {P' : Sto → Heap → Prop} (h : W g d env R P ρ σ t Q) (hP : ∀ σ h, P' σ h → P σ h) : W g d env R P' ρ σ t Q := fun A s r i p => h A s r i (hP _ _ p)

theorem W.bind (hP : Pers P) {t : Sem α} {f : α → Sem β} {Q₁ : X → Loc → Sto → Prop} {Q : Y → Loc → Sto → Prop} (h : W g d env R P ρ σ t Q₁)
    (k : ∀ x ρ₁ σ₁ a, Q₁ x ρ₁ σ₁ → W g d env R' (fun σ h => P σ h ∧ R σ h x a) ρ₁ σ₁ (f a) Q) : W g d env R' P ρ σ (t >>= f) Q := fun A s r i p => by
  refine wpAny_bind (wpAny_mono (h A s r i p) (fun a s₁ z => ?_) fun _ _ e => e)
  cases z with
  | mk x ρ₁ σ₁ h₁ tk i₁ ev rr q => exact wpAny_mono (k x ρ₁ σ₁ a q A { s with heap := h₁, toks := tk } r i₁ ⟨hP _ _ _ _ (ev.kp i) p, rr⟩) (fun _ _ z => z.after ev) fun _ _ e => e

theorem W.pure {x : X} {a : α} {Q : X → Loc → Sto → Prop} (hR : ∀ σ h, P σ h → R σ h x a) (q : Q x ρ σ) : W g d env R P ρ σ (pure a) Q := fun _ s _ i p =>
  wpAny_pure (.mk x ρ σ s.heap s.toks i Ev.refl (hR _ _ p) q)
end

/-! ## how the heap moves -/
section
variable {g : GE} {env : Env} {ρ : Loc} {σ : Sto} {h h' : Heap}

theorem HOk.fresh (o : HOk g σ h) {a : Addr} (e : h.get? a = none) : σ a = none := by
  cases q : σ a with
  | none => rfl
  | some c => obtain ⟨x, e', _⟩ := o.rep a c q; rw [e] at e'; cases e'
theorem kp_of_grow (k : ∀ b o, h.get? b = some o → h'.get? b = some o) : Kp σ h σ h' := fun b o _ _ u => ⟨k b o u.1, u.2⟩
theorem HOk.grow (o : HOk g σ h) (k : ∀ b o, h.get? b = some o → h'.get? b = some o) : HOk g σ h' :=
  ⟨fun b x e => ⟨k _ _ (o.base b x e).1, (o.base b x e).2⟩, fun a c e => let ⟨x, e1, e2⟩ := o.rep a c e; ⟨x, k _ _ e1, e2.keep (kp_of_grow k)⟩⟩
theorem Inv.grow (i : Inv g env ρ σ h) (k : ∀ b o, h.get? b = some o → h'.get? b = some o) : Inv g env ρ σ h' :=
  ⟨i.ok.grow k, let ⟨m, n, q⟩ := i.fr; ⟨m, n.keeps k, fun x v e => let ⟨u, e1, e2⟩ := q x v e; ⟨u, e1, e2.keep (kp_of_grow k)⟩⟩, i.loc, i.above⟩
theorem ev_grow {L : Option Addr} (k : ∀ b o, h.get? b = some o → h'.get? b = some o) : Ev L σ h σ h' := fun b o _ u => ⟨k b o u.1, u.2⟩
theorem Inv.push (i : Inv g env ρ σ h) (o : Obj) : Inv g env ρ σ (h.push o) := i.grow fun _ _ e => Heap.get?_push_of_some _ e
theorem ev_push {L : Option Addr} (o : Obj) : Ev L σ h σ (h.push o) := ev_grow fun _ _ e => Heap.get?_push_of_some _ e
theorem HOk.none_size (o : HOk g σ h) : σ h.objs.size = none := o.fresh (Heap.get?_none_of_le (Nat.le_refl _))
theorem U_push (o : HOk g σ h) (x : Obj) (hf : x.isFreed = false) : U σ (h.push x) h.objs.size x := ⟨Heap.get?_push_size _ hf, o.none_size⟩

theorem Inv.nsL (i : Inv g env ρ σ h) : ∃ m, Fr g.h₀ env.locals h m := let ⟨m, n, _⟩ := i.fr; ⟨m, n, fun b o e => (i.ok.base b o e).1, i.above⟩
theorem Inv.loc_ne (i : Inv g env ρ σ h) {a : Addr} {c : Cell} (e : σ a = some c) : a ≠ env.locals := fun q => by rw [q, i.loc] at e; cases e

/-- a tracked object is new, or another one -/
theorem kp_upd {a : Addr} {c : Cell} {o : Obj} (k : ∀ b x, b ≠ a → h.get? b = some x → h'.get? b = some x) (ha : σ a = none → h.get? a = none) : Kp σ h (upd σ a c) h' := fun b x _ _ u => by
  by_cases q : b = a
  · subst q
    have := ha u.2
    rw [u.1] at this; cases this
  · exact ⟨k b x q u.1, by rw [upd_ne q]; exact u.2⟩
theorem ev_upd {L : Option Addr} {a : Addr} {c : Cell} (k : ∀ b x, b ≠ a → h.get? b = some x → h'.get? b = some x) (ha : σ a = none → h.get? a = none) : Ev L σ h (upd σ a c) h' := fun b x _ u => by
  by_cases q : b = a
  · subst q
    have := ha u.2
    rw [u.1] at this; cases this
  · exact ⟨k b x q u.1, by rw [upd_ne q]; exact u.2⟩
theorem HOk.upd {a : Addr} {c : Cell} {o : Obj} (i : HOk g σ h) (k : ∀ b x, b ≠ a → h.get? b = some x → h'.get? b = some x) (ha : σ a = none → h.get? a = none) (e : h'.get? a = some o)
    (r : ORep g (upd σ a c) h' c o) : HOk g (upd σ a c) h' := by
  have kp : Kp σ h (Mine.upd σ a c) h' := kp_upd (o := o) k ha
  refine ⟨fun b x q => ?_, fun b d q => ?_⟩
  · have u := i.base b x q
    by_cases e' : b = a
    · subst e'
      have := ha u.2
      rw [u.1] at this; cases this
    · exact ⟨k b x e' u.1, by rw [upd_ne e']; exact u.2⟩
  · by_cases e' : b = a
    · subst e'
      rw [upd_eq] at q; cases q
      exact ⟨o, e, r⟩
    · rw [upd_ne e'] at q
      obtain ⟨x, e1, e2⟩ := i.rep b d q
      exact ⟨x, k b x e' e1, e2.keep kp⟩
theorem Inv.upd {a : Addr} {c : Cell} {o : Obj} (i : Inv g env ρ σ h) (k : ∀ b x, b ≠ a → h.get? b = some x → h'.get? b = some x) (ha : σ a = none → h.get? a = none) (e : h'.get? a = some o)
    (r : ORep g (upd σ a c) h' c o) : Inv g env ρ (upd σ a c) h' := by
  have kp : Kp σ h (Mine.upd σ a c) h' := kp_upd (o := o) k ha
  obtain ⟨m, n, q⟩ := i.fr
  have hne : env.locals ≠ a := fun e' => by
    have := ha (e' ▸ i.loc)
    obtain ⟨x, es, ep, e1, _⟩ := n
    rw [e', this] at e1; cases e1
  refine ⟨i.ok.upd k ha e r, ⟨m, ?_, fun x v e => let ⟨u, e1, e2⟩ := q x v e; ⟨u, e1, e2.keep kp⟩⟩, by rw [upd_ne hne]; exact i.loc, i.above⟩
  obtain ⟨x, es, ep, e1, r⟩ := n
  exact ⟨x, es, ep, k _ _ hne e1, r⟩
end
end Mine

namespace Mine

theorem ofString_inj {a b : String} : (Str.ofString a = Str.ofString b) = (a = b) := by
  refine propext ⟨fun h => ?_, fun h => by rw [h]⟩
  rw [Str.ofString_eq_toList, Str.ofString_eq_toList] at h
  have h1 := congrArg Array.toList (Str.mk.inj h)
  simp only at h1
  have inj : ∀ x y : Char, x.toNat = y.toNat → x = y := fun x y e => Char.ext (UInt32.toNat_inj.mp e)
  have go : ∀ l m : List Char, l.map Char.toNat = m.map Char.toNat → l = m := by
    intro l
    induction l with
    | nil => intro m e; cases m with
      | nil => rfl
      | cons y m => cases e
    | cons x l ih => intro m e; cases m with
      | nil => cases e
      | cons y m =>
        simp only [List.map_cons, List.cons.injEq] at e
        rw [inj _ _ e.1, ih m e.2]
  exact String.toList_injective (go _ _ h1)
theorem ofString_beq {a b : String} : (Str.ofString a == Str.ofString b) = decide (a = b) := by
  rw [Bool.eq_iff_iff, beq_iff_eq, decide_eq_true_eq, ofString_inj]

structure EnvOk (env : Env) : Prop where
  kind : env.scope.kind = .function
  globals : env.globals = mainGlobals
  builtins : env.builtins = builtinsNs

noncomputable def σ₀ : Sto := fun _ => none
/-- the top's names -/
noncomputable def GOk (g : GE) (gv : Str → Option V) : Prop := ∀ x v, gv x = some v → ∃ u, VR g σ₀ g.h₀ v u ∧ (g.mg x = some u ∨ (g.mg x = none ∧ g.mb x = some u))
theorem HOk.kpBase {g : GE} {σ : Sto} {h : Heap} (o : HOk g σ h) : Kp σ₀ g.h₀ σ h := fun b x _ _ u => o.base b x u.1
theorem HOk.keep {g : GE} {σ : Sto} {h : Heap} (o : HOk g σ h) : ∀ b x, g.h₀.get? b = some x → h.get? b = some x := fun b x e => (o.base b x e).1
theorem HOk.inK {g : GE} {σ : Sto} {h : Heap} (o : HOk g σ h) : g.K.In h := g.X.keeps o.keep

abbrev T0 : Sto → Heap → Prop := fun _ _ => True
theorem pers_T0 : Pers T0 := fun _ _ _ _ _ _ => trivial
theorem pers_VR {g : GE} {x : V} {v : Value} : Pers (fun σ h => VR g σ h x v) := fun _ _ _ _ k p => p.keep k
theorem pers_VRs {g : GE} {x : List V} {v : List Value} : Pers (fun σ h => VRs g σ h x v) := fun _ _ _ _ k p => p.keep k
theorem pers_and {P P' : Sto → Heap → Prop} (a : Pers P) (b : Pers P') : Pers (fun σ h => P σ h ∧ P' σ h) := fun _ _ _ _ k p => ⟨a _ _ _ _ k p.1, b _ _ _ _ k p.2⟩
theorem pers_const {p : Prop} : Pers (fun _ _ => p) := fun _ _ _ _ _ p => p
abbrev RB : Sto → Heap → Bool → Bool → Prop := fun _ _ x a => x = a
abbrev RU : Sto → Heap → Unit → Unit → Prop := fun _ _ _ _ => True
abbrev T1 (g : GE) (x : V) (v : Value) : Sto → Heap → Prop := fun σ h => VR g σ h x v
abbrev T2 (g : GE) (x y : V) (v u : Value) : Sto → Heap → Prop := fun σ h => VR g σ h x v ∧ VR g σ h y u

section
variable {g : GE} {d : Nat} {env : Env} {α β X Y : Type} {R : Sto → Heap → X → α → Prop} {P : Sto → Heap → Prop} {ρ : Loc} {σ : Sto}

theorem W.holding {vs : List Value} {t : Sem α} {Q : X → Loc → Sto → Prop} (h : W g d env R P ρ σ t Q) : W g d env R P ρ σ (holding vs t) Q := fun A s r i p => wpAny_holding (h A s r i p)
theorem W.stand {pos : Pos} {f : Unit → Sem α} {Q : X → Loc → Sto → Prop} (h : W g d env R P ρ σ (f ()) Q) : W g d env R P ρ σ (standAt pos >>= f) Q := fun A s r i p => wpAny_bind (wpAny_standAt (h A s r i p))
theorem W.operate {vs : List Value} {t : Sem Value} {R : Sto → Heap → X → Value → Prop} {Q : X → Loc → Sto → Prop} (h : W g d env R P ρ σ t Q) : W g d env R P ρ σ (operate vs t) Q := fun A s r i p => wpAny_operate' (h A s r i p)
theorem W.t0 {t : Sem α} {Q : X → Loc → Sto → Prop} (h : W g d env R T0 ρ σ t Q) : W g d env R P ρ σ t Q := h.weaken fun _ _ _ => trivial
/-- an answer that keeps all objects -/
theorem Post.same {s : Shared} {Q : X → Loc → Sto → Prop} {a : α} {x : X} {tk : Nat} (i : Inv g env ρ σ s.heap)
    (r : R σ s.heap x a) (q : Q x ρ σ) : Post g env R σ s Q a { s with toks := tk } := .mk x ρ σ s.heap tk i Ev.refl r q
theorem Post.here {s : Shared} {Q : X → Loc → Sto → Prop} {a : α} {x : X} (i : Inv g env ρ σ s.heap)
    (r : R σ s.heap x a) (q : Q x ρ σ) : Post g env R σ s Q a s := .mk x ρ σ s.heap s.toks i Ev.refl r q
/-- a tracked object is turned -/
theorem Post.turn {s : Shared} {Q : X → Loc → Sto → Prop} {a : α} {x : X} {l : Addr} {o : Obj} {c' : Cell} {h' : Heap} {tk : Nat} (i : Inv g env ρ σ s.heap) (hn : σ l = none → s.heap.get? l = none)
    (k : ∀ b y, b ≠ l → s.heap.get? b = some y → h'.get? b = some y) (e' : h'.get? l = some o)
    (ro : ∀ σ' h', Kp σ s.heap σ' h' → ORep g σ' h' c' o)
    (r : R (upd σ l c') h' x a) (q : Q x ρ (upd σ l c')) : Post g env R σ s Q a { s with heap := h', toks := tk } :=
  .mk x ρ _ h' tk (i.upd k hn e' (ro _ _ (kp_upd (o := o) k hn))) (ev_upd k hn) r q
/-- a new tracked object -/
theorem Post.alloc {s : Shared} {Q : X → Loc → Sto → Prop} {a : α} {x : X} {o : Obj} {c : Cell} (i : Inv g env ρ σ s.heap) (hf : o.isFreed = false)
    (ro : ∀ σ' h', Kp σ s.heap σ' h' → ORep g σ' h' c o)
    (r : R (upd σ s.heap.objs.size c) (s.heap.push o) x a) (q : Q x ρ (upd σ s.heap.objs.size c)) : Post g env R σ s Q a { s with heap := s.heap.push o } :=
  Post.turn i (fun _ => Heap.get?_none_of_le (Nat.le_refl _)) (fun b y _ e => Heap.get?_push_of_some _ e) (Heap.get?_push_size _ hf) ro r q
end

/-! ## names, constants, displays -/
section
variable {g : GE} {gv : Str → Option V} {d : Nat} {env : Env} {ρ : Loc} {σ : Sto} {P : Sto → Heap → Prop}
abbrev WE (g : GE) (d : Nat) (env : Env) (P : Sto → Heap → Prop) (ρ : Loc) (σ : Sto) (t : Sem Value) (k : V → Sto → Prop) : Prop := W g d env (VR g) P ρ σ t (QE ρ k)
abbrev WEs (g : GE) (d : Nat) (env : Env) (P : Sto → Heap → Prop) (ρ : Loc) (σ : Sto) (t : Sem (List Value)) (k : List V → Sto → Prop) : Prop := W g d env (VRs g) P ρ σ t (QE ρ k)
abbrev WB (g : GE) (d : Nat) (env : Env) (P : Sto → Heap → Prop) (ρ : Loc) (σ : Sto) (t : Sem Bool) (k : Bool → Sto → Prop) : Prop := W g d env RB P ρ σ t (QE ρ k)
theorem W.kk {X α : Type} {R : Sto → Heap → X → α → Prop} {t : Sem α} {k k' : X → Sto → Prop} (h : W g d env R P ρ σ t (QE ρ k)) (hk : ∀ x σ, k x σ → k' x σ) : W g d env R P ρ σ t (QE ρ k') := h.mono fun x ρ' σ' z => by
  cases z with | mk q => exact ⟨hk x σ' q⟩
theorem W.runE {X α : Type} {R : Sto → Heap → X → α → Prop} {t : Sem α} {k : X → Sto → Prop} {A : Around} {s : Shared} (h : W g d env R P ρ σ t (QE ρ k)) (r : Rm A d) (i : Inv g env ρ σ s.heap) (p : P σ s.heap) {Q' : α → Shared → Prop} {E : Value → Shared → Prop}
    (n : ∀ x σ' h' tk a, Inv g env ρ σ' h' → Ev (some env.locals) σ s.heap σ' h' → R σ' h' x a → k x σ' → Q' a { s with heap := h', toks := tk }) : wpAny g.M A t Q' E s :=
  h.run r i p fun x ρ' σ' h' tk a i ev rr q => by cases q with | mk q => exact n x σ' h' tk a i ev rr q
/-- a step behind an expression -/
theorem W.nx {X Y α β : Type} {R : Sto → Heap → X → α → Prop} {R' : Sto → Heap → Y → β → Prop} {t : Sem α} {f : α → Sem β} {k : X → Sto → Prop} {Q : Y → Loc → Sto → Prop} (hP : Pers P) (h : W g d env R T0 ρ σ t (QE ρ k))
    (n : ∀ x σ₁ v, k x σ₁ → W g d env R' (fun σ h => P σ h ∧ R σ h x v) ρ σ₁ (f v) Q) : W g d env R' P ρ σ (t >>= f) Q := W.bind hP h.t0 fun x ρ₁ σ₁ v z => by
  cases z with | mk q => exact n x σ₁ v q

theorem W_int {i : Int} {kd : Nat} {pos : Pos} {k : V → Sto → Prop} (q : k (.int i) σ) : WE g d env P ρ σ (eval (.Constant (.int i) kd pos) env) k := fun A s r iv p => wpAny_Constant_int (Post.same (x := V.int _) iv ⟨_, rfl⟩ ⟨q⟩)
theorem W_str {i : Str} {kd : Nat} {pos : Pos} {k : V → Sto → Prop} (q : k (.str i) σ) : WE g d env P ρ σ (eval (.Constant (.str i) kd pos) env) k := fun A s r iv p => by
  show wpAny _ _ (mkText _) _ _ _
  exact wpAny_mkText (Post.same (x := V.str _) iv ⟨_, rfl⟩ ⟨q⟩)
theorem W_none {kd : Nat} {pos : Pos} {k : V → Sto → Prop} (q : k .none σ) : WE g d env P ρ σ (eval (.Constant .none kd pos) env) k := fun A s r iv p => wpAny_pure (Post.here (x := V.none) iv rfl ⟨q⟩)
theorem W_bool {b : Bool} {kd : Nat} {pos : Pos} {k : V → Sto → Prop} (q : k (.bool b) σ) : WE g d env P ρ σ (eval (.Constant (.bool b) kd pos) env) k := fun A s r iv p => wpAny_pure (Post.here (x := V.bool _) iv rfl ⟨q⟩)

noncomputable def nameOk (x : Str) : Bool := !(x == ("__debug__" : Str)) && !(x == ("__classdict__" : Str))
theorem nameOk_1 {x : Str} (h : nameOk x = true) : (x == ("__debug__" : Str)) = false := by simpa using (Bool.and_eq_true_iff.mp h).1
theorem nameOk_2 {x : Str} (h : nameOk x = true) : (x == ("__classdict__" : Str)) = false := by simpa using (Bool.and_eq_true_iff.mp h).2

theorem cell_at {a : Addr} {v : V} {h : Heap} (o : HOk g σ h) (e : σ a = some (.cell (some v))) : ∃ u, h.IsCell a (some u) ∧ VR g σ h v u := by
  obtain ⟨x, e1, u, e2, e3⟩ := o.rep _ _ e
  cases u with
  | none => exact e3.elim
  | some u => exact ⟨u, ⟨x, e1, e2⟩, e3⟩
theorem W_loadL (he : EnvOk env) {x : Str} {v : V} {k : V → Sto → Prop} (h : LocAt env ρ x v) (q : k v σ) : WE g d env P ρ σ (loadName env x) k := fun A s r i p => by
  obtain ⟨m, n, f⟩ := i.fr
  obtain ⟨u, e1, e2⟩ := f x v h
  exact wpAny_loadName_local he.kind h.k n e1 (Post.here i e2 ⟨q⟩)
theorem W_loadC (he : EnvOk env) {x : Str} {v : V} {c : Addr} {k : V → Sto → Prop} (hn : nameOk x = true) (hk : env.kindOf x = some .cell ∨ env.kindOf x = some .free) (hc : env.cells.lookup x = some c) (hv : σ c = some (.cell (some v))) (q : k v σ) : WE g d env P ρ σ (loadName env x) k := fun A s r i p => by
  obtain ⟨u, f1, f2⟩ := cell_at i.ok hv
  rcases hk with hk | hk
  · exact wpAny_loadName_cell he.kind hk hc f1 (Post.here i f2 ⟨q⟩)
  · exact wpAny_loadName_free he.kind hk hc f1 (Post.here i f2 ⟨q⟩) (nameOk_2 hn)
theorem W_loadG (hg : GOk g gv) (he : EnvOk env) {x : Str} {v : V} {k : V → Sto → Prop} (hk : env.kindOf x = some .globalImplicit) (hv : gv x = some v) (q : k v σ) : WE g d env P ρ σ (loadName env x) k := fun A s r i p => by
  obtain ⟨u, e1, e2⟩ := hg x v hv
  have fin : Post g env (VR g) σ s (QE ρ k) u s := Post.here i (e1.keep i.ok.kpBase) ⟨q⟩
  have hmg : s.heap.Ns env.globals g.mg := by rw [he.globals]; exact g.T.g.keeps i.ok.keep
  have hmb : s.heap.Ns env.builtins g.mb := by rw [he.builtins]; exact g.T.b.keeps i.ok.keep
  have e : loadName env x = loadGlobal env x := by
    have hb : env.blockKind = .function := by unfold Env.blockKind; rw [he.kind]; rfl
    unfold loadName
    rw [hb, he.kind, hk]
    rfl
  rw [e]
  rcases e2 with e2 | ⟨e2, e3⟩
  · exact loadGlobal_global hmg e2 fin
  · exact loadGlobal_builtin hmg e2 hmb e3 fin
theorem W_name {x : Str} {pos : Pos} {k : V → Sto → Prop} (hn : nameOk x = true) (h : WE g d env P ρ σ (loadName env x) k) : WE g d env P ρ σ (eval (.Name x pos) env) k := fun A s r i p =>
  wpAny_Name (h A s r i p) (nameOk_1 hn)

/-- expressions in a row -/
theorem W_spliced_nil {k : List V → Sto → Prop} (q : k [] σ) : WEs g d env P ρ σ (spliced []) k := fun A s r i p => wpAny_pure (Post.here (x := []) i rfl ⟨q⟩)
theorem W_spliced_cons {x : Sem Value} {rest : List (Bool × Sem Value)} {k : List V → Sto → Prop} {k₁ : V → Sto → Prop} (h : WE g d env T0 ρ σ x k₁)
    (n : ∀ v σ₁, k₁ v σ₁ → WEs g d env T0 ρ σ₁ (spliced rest) (fun vs σ₂ => k (v :: vs) σ₂)) : WEs g d env P ρ σ (spliced ((false, x) :: rest)) k := by
  refine W.t0 fun A s r i p => spliced_cons (h.runE r i p fun x σ₁ h₁ tk v i₁ ev rr q => ?_)
  exact (n x σ₁ q).runE (s := { s with heap := h₁, toks := tk }) r i₁ trivial fun xs σ₂ h₂ tk₂ vs i₂ ev₂ rr₂ q₂ => .mk (x :: xs) ρ σ₂ h₂ tk₂ i₂ (ev.trans ev₂) ⟨v, vs, rfl, rr.keep (ev₂.kp i₁), rr₂⟩ ⟨q₂⟩

noncomputable def isStar : Expr → Bool
  | .Starred .. => true
  | _ => false
theorem starEach_cons {e : Expr} {rest : List Expr} (h : isStar e = false) : starEach (e :: rest) env = (false, eval e env) :: starEach rest env := by
  cases e <;> first | rfl | cases h

theorem W_tuple {elts : List Expr} {c : Nat} {pos : Pos} {k : V → Sto → Prop} (h : WEs g d env T0 ρ σ (spliced (backTo pos (starEach elts env))) (fun vs σ₁ => Nat.ble vs.length 1000000 = true ∧ k (.tup vs) σ₁)) :
    WE g d env P ρ σ (eval (.Tuple elts c pos) env) k := fun A s r i p => by
  refine wpAny_Tuple (h.runE r i trivial fun xs σ₁ h₁ tk vs i₁ ev rr q => ?_)
  refine ⟨by rw [rr.length]; exact Nat.le_trans (Nat.le_of_ble_eq_true q.1) (by decide), ?_⟩
  refine Post.mk (X := V) (R := VR g) (V.tup xs) ρ σ₁ _ tk (i₁.push _) (ev.trans (ev_push _)) ⟨_, _, _, rfl, U_push i₁.ok _ rfl, ?_⟩ ⟨q.2⟩
  rw [List.toList_toArray]
  exact rr.keep (kp_of_grow fun _ _ e => Heap.get?_push_of_some _ e)
theorem W_list {elts : List Expr} {pos : Pos} {k : V → Sto → Prop} (h : WEs g d env T0 ρ σ (spliced (backTo pos (starEach elts env))) (fun vs σ₁ => Nat.ble vs.length 1000000 = true ∧ ∀ a, σ₁ a = none → k (.ref a) (upd σ₁ a (.list vs)))) :
    WE g d env P ρ σ (eval (.List elts pos) env) k := fun A s r i p => by
  refine wpAny_List (h.runE r i trivial fun xs σ₁ h₁ tk vs i₁ ev rr q => ?_)
  refine ⟨by rw [rr.length]; exact Nat.le_trans (Nat.le_of_ble_eq_true q.1) (by decide), ?_⟩
  refine Post.after ev (Post.alloc (R := VR g) (s := { s with heap := h₁, toks := tk }) (c := .list xs) (x := .ref h₁.objs.size) (o := { cls := .type "list", data := .seq vs.toArray }) i₁ rfl
    (fun σ' h' kp => ⟨_, _, rfl, ?_⟩) rfl ⟨q.2 _ i₁.ok.none_size⟩)
  rw [List.toList_toArray]; exact rr.keep kp
end
end Mine

namespace Mine

structure ListAt (g : GE) (σ : Sto) (h : Heap) (a : Addr) (l : List V) (items : Array Value) (n : Nat) : Prop where
  il : IsL h a items n
  vl : VRs g σ h l items.toList
theorem VRs.size {g : GE} {σ : Sto} {h : Heap} {l : List V} {items : Array Value} (r : VRs g σ h l items.toList) : items.size = l.length := Array.length_toList.symm.trans r.length
theorem list_at {g : GE} {σ : Sto} {h : Heap} (o : HOk g σ h) {a : Addr} {l : List V} (e : σ a = some (.list l)) : ∃ items n, ListAt g σ h a l items n := by
  obtain ⟨x, e1, items, n, e2, e3⟩ := o.rep _ _ e
  subst e2
  exact ⟨items, n, e1, e3⟩
/-- an answer, the store as it stood -/
inductive QV (σ : Sto) (k : V → Prop) (x : V) : Sto → Prop
  | mk (q : k x) : QV σ k x σ
inductive QB (σ : Sto) (k : Bool → Prop) : V → Sto → Prop
  | mk (b : Bool) (q : k b) : QB σ k (.bool b) σ

/-! ## operators -/
structure VB (g : GE) (op : Operator) (x y : V) (σ : Sto) (k : V → Sto → Prop) : Prop where
  run : ∀ {d env ρ v u}, WE g d env (T2 g x y v u) ρ σ (binaryOp op v u) k
structure VQ (g : GE) (op : CmpOp) (x y : V) (σ : Sto) (k : Bool → Prop) : Prop where
  run : ∀ {d env ρ v u}, WE g d env (T2 g x y v u) ρ σ (compareOp op v u) (QB σ k)

section
variable {g : GE} {σ : Sto} {k : V → Sto → Prop} {K : Bool → Prop}

theorem empty_of_length {x : Str} (h : x.length = 0) : x = Str.empty := by
  obtain ⟨c⟩ := x
  rw [Array.eq_empty_of_size_eq_zero (show c.size = 0 from h)]; rfl
theorem VB.i {op : Operator} {a b c : Int} (h : ∀ {A : Around} {s : Shared} {t u : Tok} {Q : Value → Shared → Prop}, Q (.int c s.toks) { s with toks := s.toks + 1 } → wpAny g.M A (binaryOp op (.int a t) (.int b u)) Q NoE s) (q : k (.int c) σ) : VB g op (.int a) (.int b) σ k := ⟨fun A s r i pq => by
  obtain ⟨⟨t, rfl⟩, ⟨u, rfl⟩⟩ := pq
  exact h (Post.same (x := V.int c) i ⟨_, rfl⟩ ⟨q⟩)⟩
theorem b_add {a b : Int} (q : k (.int (a + b)) σ) : VB g .Add (.int a) (.int b) σ k := .i PyProof.Rows.add_int q
theorem b_sub {a b : Int} (q : k (.int (a - b)) σ) : VB g .Sub (.int a) (.int b) σ k := .i PyProof.Rows.sub_int q
theorem b_mul {a b : Int} (h1 : a.natAbs < 2 ^ 62) (h2 : b.natAbs < 2 ^ 62) (q : k (.int (a * b)) σ) : VB g .Mult (.int a) (.int b) σ k := .i (fun z => mul_int z (by mul_fits)) q
theorem b_mod {a b : Int} (h1 : b ≠ 0) (q : k (.int (a.fmod b)) σ) : VB g .Mod (.int a) (.int b) σ k := .i (mod_int h1) q
theorem b_div {a b : Int} (h1 : b ≠ 0) (h2 : a.natAbs < 2 ^ 29) (h3 : b.natAbs < 2 ^ 29) (q : k (.int (a.fdiv b)) σ) : VB g .FloorDiv (.int a) (.int b) σ k := .i (fun z => floordiv_int h1 z (Or.inl (PyProof.noPylong_small (by omega)))) q
theorem b_pow {a b : Int} (h1 : 0 ≤ b) (h2 : b ≤ 1000000) (h3 : a.natAbs < 2 ^ 62) (q : k (.int (a ^ b.toNat)) σ) : VB g .Pow (.int a) (.int b) σ k := .i (pow_int_small h1 h2 (Nat.lt_trans h3 (by decide))) q
theorem b_cat {a b : Str} (h : a.length + b.length ≤ 1000000) (q : k (.str (a ++ b)) σ) : VB g .Add (.str a) (.str b) σ k := ⟨fun A s r i pq => by
  obtain ⟨⟨t, rfl⟩, ⟨u, rfl⟩⟩ := pq
  refine P.add_str ?_
  cases ea : a.length == 0 with
  | true =>
    cases empty_of_length (eq_of_beq ea)
    rw [Str.empty_append] at q
    exact Post.here (x := V.str _) i ⟨u, rfl⟩ ⟨q⟩
  | false => cases eb : b.length == 0 with
    | true =>
      cases empty_of_length (eq_of_beq eb)
      rw [Str.append_empty] at q
      exact Post.here (x := V.str _) i ⟨t, rfl⟩ ⟨q⟩
    | false => exact ⟨by rw [Str.length_append]; exact Nat.le_trans h (by decide), Post.same (x := V.str _) i ⟨_, rfl⟩ ⟨q⟩⟩⟩
theorem b_app {a b : Addr} {l m : List V} (h1 : σ a = some (.list l)) (h2 : σ b = some (.list m)) (h : l.length + m.length ≤ 1000000) (q : ∀ c, σ c = none → k (.ref c) (upd σ c (.list (l ++ m)))) : VB g .Add (.ref a) (.ref b) σ k := ⟨fun A s r i pq => by
  cases pq.1; cases pq.2
  obtain ⟨items, n, x⟩ := list_at i.ok h1
  obtain ⟨items2, n2, y⟩ := list_at i.ok h2
  refine P.add_list x.il y.il ?_ (by rw [x.vl.size, y.vl.size]; exact Nat.le_trans h (by decide))
  refine Post.alloc (c := .list (l ++ m)) (x := V.ref _) i rfl (fun σ' h' kp => ⟨_, _, rfl, ?_⟩) rfl ⟨q _ i.ok.none_size⟩
  rw [Array.toList_append]
  exact (x.vl.keep kp).append (y.vl.keep kp)⟩

/-! ## comparisons -/
theorem VQ.fin {A : Around} {s : Shared} {env : Env} {ρ : Loc} {b : Bool} (i : Inv g env ρ σ s.heap) (q : K b) : Post g env (VR g) σ s (QE ρ (QB σ K)) (.bool b) s := Post.here (x := V.bool b) i rfl ⟨⟨b, q⟩⟩
theorem VQ.i {op : CmpOp} {a b : Int} {c : Bool} (h : ∀ {A : Around} {s : Shared} {t u : Tok} {Q : Value → Shared → Prop}, Q (.bool c) s → wpAny g.M A (compareOp op (.int a t) (.int b u)) Q NoE s) (q : K c) : VQ g op (.int a) (.int b) σ K := ⟨fun A s r i pq => by
  obtain ⟨⟨t, rfl⟩, ⟨u, rfl⟩⟩ := pq
  exact h (VQ.fin (A := A) i q)⟩
theorem VQ.s {op : CmpOp} {a b : Str} {c : Bool} (h : ∀ {A : Around} {s : Shared} {t u : Tok} {Q : Value → Shared → Prop}, Q (.bool c) s → wpAny g.M A (compareOp op (.str a t) (.str b u)) Q NoE s) (q : K c) : VQ g op (.str a) (.str b) σ K := ⟨fun A s r i pq => by
  obtain ⟨⟨t, rfl⟩, ⟨u, rfl⟩⟩ := pq
  exact h (VQ.fin (A := A) i q)⟩
theorem q_eqI {a b : Int} (q : K (decide (a = b))) : VQ g .Eq (.int a) (.int b) σ K := .i PyProof.Rows.eq_int q
theorem q_neI {a b : Int} (q : K (!decide (a = b))) : VQ g .NotEq (.int a) (.int b) σ K := .i PyProof.Rows.ne_int q
theorem q_lt {a b : Int} (q : K (decide (a < b))) : VQ g .Lt (.int a) (.int b) σ K := .i PyProof.Rows.lt_int q
theorem q_le {a b : Int} (q : K (decide (a ≤ b))) : VQ g .LtE (.int a) (.int b) σ K := .i PyProof.Rows.le_int q
theorem q_gt {a b : Int} (q : K (decide (b < a))) : VQ g .Gt (.int a) (.int b) σ K := .i PyProof.Rows.gt_int q
theorem q_ge {a b : Int} (q : K (decide (b ≤ a))) : VQ g .GtE (.int a) (.int b) σ K := .i P.ge_int q
theorem str_beq {a b : Str} : (a.cps.toList == b.cps.toList) = decide (a = b) := by
  rw [Bool.eq_iff_iff, beq_iff_eq, decide_eq_true_eq, Array.toList_inj]
  exact ⟨fun h => by cases a; cases b; cases h; rfl, fun h => by rw [h]⟩
theorem q_eqS {a b : Str} (q : K (decide (a = b))) : VQ g .Eq (.str a) (.str b) σ K := .s P.eq_str (by rw [str_beq]; exact q)
theorem q_neS {a b : Str} (q : K (!decide (a = b))) : VQ g .NotEq (.str a) (.str b) σ K := .s P.ne_str (by unfold bne; rw [str_beq]; exact q)
theorem q_inS {a b : Str} (q : K (Txt.contains b a)) : VQ g .In (.str a) (.str b) σ K := .s SB.contains q
theorem q_niS {a b : Str} (q : K (!Txt.contains b a)) : VQ g .NotIn (.str a) (.str b) σ K := .s SB.notContains q
theorem q_eqB {a b : Bool} (q : K (a == b)) : VQ g .Eq (.bool a) (.bool b) σ K := ⟨fun A s r i pq => by
  cases pq.1; cases pq.2
  exact eq_bool (VQ.fin (A := A) i q)⟩
noncomputable def okN : V → Bool
  | .none | .int _ | .str _ | .ref _ | .tup _ => true
  | _ => false
noncomputable def noneV : V → Bool
  | .none => true
  | _ => false
theorem noneV_of {x : V} {v : Value} {h : Heap} (p : VR g σ h x v) (hx : okN x = true) : (v == Value.none) = noneV x := by
  cases x with
  | none => cases (show v = _ from p); rfl
  | int i => obtain ⟨t, rfl⟩ := p; rfl
  | str i => obtain ⟨t, rfl⟩ := p; rfl
  | ref i => cases (show v = _ from p); rfl
  | tup l => obtain ⟨t, _, _, rfl, _⟩ := p; rfl
  | _ => cases hx
theorem q_is {x : V} (hx : okN x = true) (q : K (noneV x)) : VQ g .Is x .none σ K := ⟨fun A s r i pq => by
  have e := noneV_of pq.1 hx
  cases pq.2
  exact is_none_gen (VQ.fin (A := A) i (by rw [e]; exact q))⟩
theorem q_isN {x : V} (hx : okN x = true) (q : K (!noneV x)) : VQ g .IsNot x .none σ K := ⟨fun A s r i pq => by
  have e := noneV_of pq.1 hx
  cases pq.2
  exact isNot_none (VQ.fin (A := A) i (by rw [e]; exact q))⟩
theorem strsAre_of {h : Heap} {ss : List Str} {vs : List Value} (r : VRs g σ h (ss.map .str) vs) : StrsAre vs ss := by
  induction ss generalizing vs with
  | nil => cases (show vs = [] from r); exact .nil
  | cons x ss ih =>
    obtain ⟨v, w, rfl, ⟨t, rfl⟩, e3⟩ := r
    exact .cons x t (ih e3)
theorem q_inT {a : Str} {ss : List Str} (q : K (ss.any (· == a))) : VQ g .In (.str a) (.tup (ss.map .str)) σ K := ⟨fun A s r i pq => by
  obtain ⟨⟨t, rfl⟩, u, items, n, rfl, q2, q5⟩ := pq
  exact in_tuple_strs ⟨_, q2.1, rfl, n, rfl⟩ (strsAre_of q5) (VQ.fin (A := A) i q)⟩
theorem q_inL {a : Str} {b : Addr} {ss : List Str} (hb : σ b = some (.list (ss.map .str))) (q : K (ss.any (· == a))) : VQ g .In (.str a) (.ref b) σ K := ⟨fun A s r i pq => by
  obtain ⟨⟨t, rfl⟩, e⟩ := pq
  cases e
  obtain ⟨items, n, x⟩ := list_at i.ok hb
  exact in_list_strs (vs := items.toList) (by rw [Array.toArray_toList]; exact x.il.isList) (strsAre_of x.vl) (VQ.fin (A := A) i q)⟩

end
/-! ## data compared -/
mutual
noncomputable def DataOf (σ : Sto) : PyData → V → Prop
  | .none, x => x = .none
  | .bool b, x => x = .bool b
  | .int i, x => x = .int i
  | .str s, x => x = .str s
  | .tuple ds, x => ∃ l, x = .tup l ∧ DatasOf σ ds l
  | .list ds, x => ∃ a l, x = .ref a ∧ σ a = some (.list l) ∧ DatasOf σ ds l
  | _, _ => False
noncomputable def DatasOf (σ : Sto) : List PyData → List V → Prop
  | [], l => l = []
  | d :: ds, l => ∃ v r, l = v :: r ∧ DataOf σ d v ∧ DatasOf σ ds r
end
section
variable {g : GE} {σ : Sto} {K : Bool → Prop}
theorem DataOf.reads {h : Heap} (o : HOk g σ h) {d : PyData} {x : V} {v : Value} (e : DataOf σ d x) (r : VR g σ h x v) : ∃ as, Reads h v d as := by
  refine PyData.rec (motive_1 := fun d => ∀ x v, DataOf σ d x → VR g σ h x v → ∃ as, Reads h v d as) (motive_2 := fun ds => ∀ l vs, DatasOf σ ds l → VRs g σ h l vs → ∃ as, ReadsAll h vs ds as) (motive_3 := fun _ => True) (motive_4 := fun _ => True)
    ?_ ?_ ?_ ?_ ?_ ?_ (fun _ _ _ _ e => False.elim e) ?_ ?_ trivial (fun _ _ _ _ => trivial) (fun _ _ _ _ => trivial) d x v e r
  · intro x v e r; cases (show x = _ from e); cases (show v = _ from r); exact ⟨_, .none⟩
  · intro b x v e r; cases (show x = _ from e); cases (show v = _ from r); exact ⟨_, .bool b⟩
  · intro i x v e r; cases (show x = _ from e); obtain ⟨t, rfl⟩ := r; exact ⟨_, .int i t⟩
  · intro s x v e r; cases (show x = _ from e); obtain ⟨t, rfl⟩ := r; exact ⟨_, .str s t⟩
  · intro ds ih x v e r
    obtain ⟨a, l, rfl, e1, e2⟩ := e
    cases (show v = _ from r)
    obtain ⟨items, n, y⟩ := list_at o e1
    obtain ⟨as, z⟩ := ih _ _ e2 y.vl
    exact ⟨_, .list y.il rfl rfl z⟩
  · intro ds ih x v e r
    obtain ⟨l, rfl, e2⟩ := e
    obtain ⟨t, items, n, rfl, e3, e5⟩ := r
    obtain ⟨as, z⟩ := ih _ _ e2 e5
    exact ⟨as, .tuple e3.1 rfl rfl z⟩
  · intro l vs e r; cases (show l = _ from e); cases (show vs = _ from r); exact ⟨_, .nil⟩
  · intro d ds ih1 ih2 l vs e r
    obtain ⟨x, l, rfl, e1, e2⟩ := e
    obtain ⟨v, vs, rfl, r1, r2⟩ := r
    obtain ⟨as, z⟩ := ih1 _ _ e1 r1
    obtain ⟨bs, y⟩ := ih2 _ _ e2 r2
    exact ⟨_, .cons z y⟩
theorem q_eqD {x y : V} {da db : PyData} (hx : DataOf σ da x) (hy : DataOf σ db y) (ha : da.canLay0 = true) (hb : db.canLay0 = true) (hd : da.depth ≤ 20) (q : K (PyData.eqv da db)) : VQ g .Eq x y σ K := ⟨fun A s r i pq => by
  obtain ⟨as, r1⟩ := hx.reads i.ok pq.1
  obtain ⟨bs, r2⟩ := hy.reads i.ok pq.2
  exact SeqAt.compareEq_reads r1 r2 ha hb (by have := r.units; omega) (VQ.fin (A := A) i q)⟩
end
end Mine

namespace Mine

structure TB where
  gv : Str → Option V
  fl : Str → Str → Bool
  mt : Str → Str → Option FnI
  ct : Str → Option FnI

noncomputable def FlOk (g : GE) (cn n : Str) : Prop := plainGet g.K (g.fa cn) n = true ∧ hasDictIn g.K (g.fa cn) = true ∧ (∃ attr, findIn g.K (.ref (g.fa cn)) n = some attr ∧ noGet g.K attr = true) ∧
  findIn g.K (.ref (g.fa cn)) "__setattr__" = some (some (.builtin "object.__setattr__")) ∧ plainOver g.K (g.fa cn) = true ∧ takerIn g.K (g.fa cn) n = some none
noncomputable def MtOk (g : GE) (cn n : Str) (i : FnI) : Prop := ∃ f, findIn g.K (.ref (g.fa cn)) n = some (some (.ref f)) ∧ typeIn g.K (.ref f) = some (.type "function") ∧ VR g σ₀ g.h₀ (.fn i) (.ref f) ∧
  findIn g.K (.ref (g.fa cn)) "__getattribute__" = some (some (.builtin "object.__getattribute__")) ∧ findIn g.K (.ref (g.fa cn)) "__getattr__" = some none
structure ClOk (g : GE) (cn : Str) (i : FnI) : Prop where
  makes : makesIn g.K (g.fa cn) = true
  init : ∃ f, findIn g.K (.ref (g.fa cn)) "__init__" = some (some (.ref f)) ∧ typeIn g.K (.ref f) = some (.type "function") ∧ VR g σ₀ g.h₀ (.fn i) (.ref f)
  keeps : keepIn g.K (.ref (g.fa cn)) = true
structure TOk (g : GE) (tb : TB) : Prop where
  gv : GOk g tb.gv
  fl : ∀ cn n, tb.fl cn n = true → FlOk g cn n
  mt : ∀ cn n i, tb.mt cn n = some i → MtOk g cn n i
  ct : ∀ cn i, tb.ct cn = some i → ClOk g cn i

section
variable {g : GE} {tb : TB} {d : Nat} {env : Env} {ρ : Loc} {σ : Sto} {k : V → Sto → Prop}
abbrev XE (g : GE) (d : Nat) (env : Env) (ρ : Loc) (σ : Sto) (e : Expr) (k : V → Sto → Prop) : Prop := WE g d env T0 ρ σ (eval e env) k
abbrev XT (g : GE) (d : Nat) (env : Env) (ρ : Loc) (σ : Sto) (e : Expr) (k : Bool → Sto → Prop) : Prop := WB g d env T0 ρ σ (isTrue e env (eval e env)) k

noncomputable def tstW (v : V) (f : Bool → Prop) : Prop := match v with
  | .bool b => f b
  | _ => False
noncomputable def plainT : Expr → Bool
  | .Name .. | .Call .. | .Attribute .. | .Subscript .. => true
  | _ => false
/-- a step behind an expression -/
theorem WE.next {X : Type} {α : Type} {R : Sto → Heap → X → α → Prop} {t : Sem Value} {f : Value → Sem α} {k₁ : V → Sto → Prop} {Q : X → Loc → Sto → Prop} (h : WE g d env T0 ρ σ t k₁)
    (n : ∀ x σ₁ v, k₁ x σ₁ → W g d env R (T1 g x v) ρ σ₁ (f v) Q) : W g d env R T0 ρ σ (t >>= f) Q := W.nx pers_T0 h fun x σ₁ v q => (n x σ₁ v q).weaken fun _ _ p => p.2
/-- .. and a second one -/
theorem WE.next2 {X : Type} {α : Type} {R : Sto → Heap → X → α → Prop} {x : V} {v : Value} {t : Sem Value} {f : Value → Sem α} {k₁ : V → Sto → Prop} {Q : X → Loc → Sto → Prop} (h : WE g d env T0 ρ σ t k₁)
    (n : ∀ y σ₁ u, k₁ y σ₁ → W g d env R (T2 g x y v u) ρ σ₁ (f u) Q) : W g d env R (T1 g x v) ρ σ (t >>= f) Q := W.nx pers_VR h n

theorem c_bin {l r : Expr} {op : Operator} {pos : Pos} (h : XE g d env ρ σ l fun x σ₁ => XE g d env ρ σ₁ r fun y σ₂ => VB g op x y σ₂ k) : XE g d env ρ σ (.BinOp l op r pos) k := by
  rw [XE, eval_BinOp]
  exact WE.next h fun x σ₁ v q => WE.next2 q.holding fun y σ₂ u q₂ => W.stand (W.operate q₂.run)

/-! ### comparisons -/
theorem c_cmp {l r : Expr} {op : CmpOp} {pos : Pos} (hm : behindInMarks op r = false) (h : XE g d env ρ σ l fun x σ₁ => XE g d env ρ σ₁ r fun y σ₂ => VQ g op x y σ₂ fun b => k (.bool b) σ₂) : XE g d env ρ σ (.Compare l [op] [r] pos) k := by
  rw [XE, eval_Compare1, markedBehindIn_of_false hm]
  refine WE.next h fun x σ₁ v q => WE.next2 q.holding fun y σ₂ u q₂ => W.stand (W.operate (q₂.run.kk fun x σ z => ?_))
  cases z with | mk b z => exact z

theorem W_truthy_bool {b : Bool} {v : Value} {P : Sto → Heap → Prop} {k : Bool → Sto → Prop} (q : k b σ) : WB g d env (fun σ h => P σ h ∧ VR g σ h (.bool b) v) ρ σ (truthy v) k := fun A s r i p => by
  cases p.2
  exact wpAny_truthy_bool (Post.here i rfl ⟨q⟩)
/-- the test of a comparison -/
theorem W_test1 {l : V} {lv : Value} {op : CmpOp} {rt : Sem Value} {pos : Pos} {k : Bool → Sto → Prop}
    (n : WE g d env T0 ρ σ rt (fun y σ₂ => VQ g op l y σ₂ fun b => k b σ₂)) :
    WB g d env (T1 g l lv) ρ σ (testChain pos lv [op] [rt]) k := by
  refine WE.next2 n.holding fun y σ₂ u q₂ => W.stand ?_
  refine W.bind (pers_and pers_VR pers_VR) (W.operate q₂.run) fun c ρ' σ' cv z => ?_
  cases z with | mk z => cases z with | mk b z => exact W.holding (W_truthy_bool z)
theorem wpAny_release {g : GE} {A : Around} {s : Shared} {vs keep : List Value} {Q : Unit → Shared → Prop} (h : Q () s) : wpAny g.M A (release vs keep) Q NoE s := fun Γ p hΓ => by
  rw [Sem.wp_release]; exact h
theorem W.release {X α : Type} {R : Sto → Heap → X → α → Prop} {P : Sto → Heap → Prop} {vs keep : List Value} {f : Unit → Sem α} {Q : X → Loc → Sto → Prop} (h : W g d env R P ρ σ (f ()) Q) : W g d env R P ρ σ (PySem.release vs keep >>= f) Q := fun A s r i p =>
  wpAny_bind (wpAny_release (h A s r i p))
theorem W_then {X α : Type} {R : Sto → Heap → X → α → Prop} {P : Sto → Heap → Prop} {b : Bool} {v : Value} {vs : List Value} {t u : Sem α} {Q : X → Loc → Sto → Prop} (h : W g d env R P ρ σ (if b = true then t else u) Q) :
    W g d env R (fun σ h => P σ h ∧ VR g σ h (.bool b) v) ρ σ (do if ← holding vs (truthy v) then t else u) Q := fun A s r i p => by
  cases p.2
  exact wpAny_bind (wpAny_holding (wpAny_truthy_bool (h A s r i p.1)))
theorem t_cmp {l r : Expr} {op : CmpOp} {pos : Pos} {k : Bool → Sto → Prop} (hm : lastMarks [op] [r] = false) (h : XE g d env ρ σ l fun x σ₁ => XE g d env ρ σ₁ r fun y σ₂ => VQ g op x y σ₂ fun b => k b σ₂) :
    XT g d env ρ σ (.Compare l [op] [r] pos) k := by
  show WB g d env T0 ρ σ (do testChain pos (← eval l env) [op] (markedEach [op] [r] (evalEach [r] env))) k
  rw [markedEach_of_false _ _ _ hm]
  exact WE.next h fun x σ₁ v q => W_test1 q
theorem t_cmp2 {l m r : Expr} {o1 o2 : CmpOp} {pos : Pos} {k : Bool → Sto → Prop} (hm : lastMarks [o1, o2] [m, r] = false)
    (h : XE g d env ρ σ l fun x σ₁ => XE g d env ρ σ₁ m fun y σ₂ => VQ g o1 x y σ₂ fun b => Br b (XE g d env ρ σ₂ r fun z σ₃ => VQ g o2 y z σ₃ fun c => k c σ₃) (k false σ₂)) :
    XT g d env ρ σ (.Compare l [o1, o2] [m, r] pos) k := by
  show WB g d env T0 ρ σ (do testChain pos (← eval l env) [o1, o2] (markedEach [o1, o2] [m, r] (evalEach [m, r] env))) k
  rw [markedEach_of_false _ _ _ hm]
  refine WE.next h fun x σ₁ v q => ?_
  refine WE.next2 q.holding fun y σ₂ u q₂ => W.stand ?_
  refine W.bind (pers_and pers_VR pers_VR) (W.holding q₂.run) fun c ρ' σ' cv z => ?_
  cases z with | mk z => cases z with | mk b z =>
  refine W.release (W_then ?_)
  cases b with
  | false => exact W.pure (fun _ _ _ => rfl) ⟨z⟩
  | true => exact (W_test1 z).weaken fun _ _ p => p.2

/-! ### tests -/
theorem t_plain {e : Expr} {k : Bool → Sto → Prop} (hp : plainT e = true) (h : XE g d env ρ σ e fun x σ₁ => tstW x fun b => k b σ₁) : XT g d env ρ σ e k := by
  have he : isTrue e env (eval e env) = (do let v ← eval e env; standAt e.pos; holding [v] (truthy v)) := by cases e <;> first | rfl | cases hp
  rw [XT, he]
  refine WE.next h fun x σ₁ v q => W.stand (W.holding ?_)
  cases x with
  | bool b => exact (W_truthy_bool (P := T0) q).weaken fun _ _ p => ⟨trivial, p⟩
  | _ => exact q.elim
theorem t_not {e : Expr} {pos : Pos} {k : Bool → Sto → Prop} (h : XT g d env ρ σ e fun b σ₁ => k (!b) σ₁) : XT g d env ρ σ (.UnaryOp .Not e pos) k := fun A s r i p =>
  wpAny_isTrue_Not (h.runE r i trivial fun x σ' h' tk a i' ev rr q => by cases (show x = a from rr); exact .mk _ ρ σ' h' tk i' ev rfl ⟨q⟩)
/-- a test, and what comes behind it -/
theorem XT.next {X α : Type} {R : Sto → Heap → X → α → Prop} {e : Expr} {k : Bool → Sto → Prop} {Q : X → Loc → Sto → Prop} {f : Bool → Sem α} (h : XT g d env ρ σ e k) (n : ∀ b σ₁, k b σ₁ → W g d env R T0 ρ σ₁ (f b) Q) : W g d env R T0 ρ σ (isTrue e env (eval e env) >>= f) Q :=
  W.nx pers_T0 h fun b σ₁ v q A s r i p => by
    cases (show b = v from p.2)
    exact n b σ₁ q A s r i trivial
abbrev XTs (g : GE) (d : Nat) (env : Env) (ρ : Loc) (σ : Sto) (op : BoolOp) (es : List Expr) (k : Bool → Sto → Prop) : Prop := WB g d env T0 ρ σ (allTrue op es env) k
theorem t_bool {op : BoolOp} {es : List Expr} {pos : Pos} {k : Bool → Sto → Prop} (h : XTs g d env ρ σ op es k) : XT g d env ρ σ (.BoolOp op es pos) k := h
theorem t_nil {op : BoolOp} {k : Bool → Sto → Prop} (q : k (op == .And) σ) : XTs g d env ρ σ op [] k := W.pure (fun _ _ _ => rfl) ⟨q⟩
theorem t_and {e : Expr} {es : List Expr} {k : Bool → Sto → Prop} (h : XT g d env ρ σ e fun b σ₁ => Br b (XTs g d env ρ σ₁ .And es k) (k false σ₁)) : XTs g d env ρ σ .And (e :: es) k :=
  XT.next h fun b σ₁ q => by
    cases b with
    | false => exact W.pure (fun _ _ _ => rfl) ⟨q⟩
    | true => exact q
theorem t_or {e : Expr} {es : List Expr} {k : Bool → Sto → Prop} (h : XT g d env ρ σ e fun b σ₁ => Br b (k true σ₁) (XTs g d env ρ σ₁ .Or es k)) : XTs g d env ρ σ .Or (e :: es) k :=
  XT.next h fun b σ₁ q => by
    cases b with
    | false => exact q
    | true => exact W.pure (fun _ _ _ => rfl) ⟨q⟩
theorem c_ite {t a b : Expr} {pos : Pos} (h : XT g d env ρ σ t fun c σ₁ => Br c (XE g d env ρ σ₁ a k) (XE g d env ρ σ₁ b k)) : XE g d env ρ σ (.IfExp t a b pos) k :=
  XT.next h fun c σ₁ q => by
    cases c with
    | false => exact q
    | true => exact q
theorem c_and {a b : Expr} {pos : Pos} (h : XE g d env ρ σ a fun x σ₁ => tstW x fun c => Br c (XE g d env ρ σ₁ b k) (k (.bool false) σ₁)) : XE g d env ρ σ (.BoolOp .And [a, b] pos) k := by
  show WE g d env T0 ρ σ (boolOp pos .And [eval a env, eval b env]) k
  refine WE.next h fun x σ₁ v q => W.stand ?_
  cases x with
  | bool c =>
    refine fun A s r i p => ?_
    cases p
    refine wpAny_bind (wpAny_holding (wpAny_truthy_bool ?_))
    cases c with
    | false => exact wpAny_pure (Post.here (x := V.bool false) i rfl ⟨q⟩)
    | true => exact q A s r i trivial
  | _ => exact q.elim
end
end Mine

namespace Mine

noncomputable def find (x : Str) : List (Str × V) → Option V
  | [] => none
  | p :: r => if x = p.1 then some p.2 else find x r
noncomputable def notSlice : Expr → Bool
  | .Slice .. => false
  | _ => true
structure VU (g : GE) (o i : V) (σ : Sto) (k : V → Prop) : Prop where
  run : ∀ {d env ρ ov iv value slice}, notSlice slice = true → WE g d env (T2 g o i ov iv) ρ σ (subscriptTail value slice ov iv) (QV σ k)
/-- a slice, its parts known -/
structure VL (g : GE) (x a b c : V) (σ : Sto) (k : V → Sto → Prop) : Prop where
  run : ∀ {d env ρ A s value lo hi st p v av bv cv}, Rm A d → Inv g env ρ σ s.heap → VR g σ s.heap x v → VR g σ s.heap a av → VR g σ s.heap b bv → VR g σ s.heap c cv →
    wpAny g.M A (subscriptTail value (.Slice lo hi st p) v (.ref s.heap.objs.size)) (Post g env (VR g) σ s (QE ρ k)) NoE { s with heap := s.heap.push { cls := .type "slice", data := .fields #[av, bv, cv] } }
theorem subscripted_false {slice : Expr} (hs : notSlice slice = true) (o i : Value) : subscripted slice false o i = operate [o, i] (getItem o i) := by
  cases slice <;> first | rfl | cases hs
theorem subscripted_slice {lo hi st : Option Expr} {p : Pos} {o i : Value} : ∃ ops, subscripted (.Slice lo hi st p) false o i = operate ops (getItem o i) := by
  cases st with
  | none => exact ⟨[i, o], rfl⟩
  | some e => exact ⟨[o, i], rfl⟩
theorem seqIndex_nat {i n : Nat} (h : i < n) : seqIndex? (i : Int) n = some i := by
  have e : decide ((i : Int) ≥ 0) = true := rfl
  show (if (decide ((i : Int) ≥ 0) && decide ((i : Int) < n)) = true then some i else none) = some i
  rw [if_pos]
  rw [e, Bool.true_and, decide_eq_true_eq]
  exact Int.ofNat_lt.mpr h
theorem lt62 {i : Nat} (h : i < 2 ^ 62) : ((i : Nat) : Int) < 2 ^ 63 := by omega
theorem nat_ge {i : Nat} : (-2 ^ 63 : Int) ≤ (i : Nat) := Int.le_trans (by decide) (Int.natCast_nonneg i)

section
variable {g : GE} {σ : Sto} {k : V → Sto → Prop} {K : V → Prop}
theorem u_tupN {l : List V} {i : Nat} {v : V} (hi : i < 2 ^ 62) (h : l[i]? = some v) (q : K v) : VU g (.tup l) (.int i) σ K := ⟨fun hs A s r iv pq => by
  obtain ⟨⟨t, items, n, rfl, e2, e5⟩, u, rfl⟩ := pq
  obtain ⟨w, e6, e7⟩ := e5.get h
  have hl : i < items.size := by rw [← Array.length_toList]; exact (List.getElem?_eq_some_iff.mp e6).1
  rw [Array.getElem?_toList] at e6
  have ht : IsTup s.heap t items := ⟨_, e2.1, rfl, n, rfl⟩
  exact tail_any ht.typeIs F.slot_tuple_getitem.lookup (PyProof.Rows.getItem_tuple ht nat_ge (lt62 hi) (seqIndex_nat hl) e6 (Post.here iv e7 ⟨⟨q⟩⟩)) (subscripted_false hs _ _)⟩
theorem u_listN {a : Addr} {l : List V} {i : Nat} {v : V} (ha : σ a = some (.list l)) (hi : i < 2 ^ 62) (h : l[i]? = some v) (q : K v) : VU g (.ref a) (.int i) σ K := ⟨fun hs A s r iv pq => by
  obtain ⟨e, u, rfl⟩ := pq
  cases e
  obtain ⟨items, n, x⟩ := list_at iv.ok ha
  obtain ⟨w, e6, e7⟩ := x.vl.get h
  rw [Array.getElem?_toList] at e6
  exact tail_any x.il.isList.typeIs slot_list_getitem.lookup (wpAny_getItem_list x.il.isList (Int.natCast_nonneg i) (lt62 hi) e6 (Post.here iv e7 ⟨⟨q⟩⟩)) (subscripted_false hs _ _)⟩
theorem u_strN {x : Str} {i : Nat} {c : Nat} (hi : i < 2 ^ 62) (h : x.cps.toList[i]? = some c) (q : K (.str ⟨#[c]⟩)) : VU g (.str x) (.int i) σ K := ⟨fun hs A s r iv pq => by
  obtain ⟨⟨t, rfl⟩, u, rfl⟩ := pq
  have hl : i < x.cps.size := by rw [← Array.length_toList]; exact (List.getElem?_eq_some_iff.mp h).1
  rw [Array.getElem?_toList] at h
  refine tail_any (typeIs_str s x t) F.slot_str_getitem.lookup (PyProof.Rows.getItem_str (c := c) ?_ ?_ (Post.same (x := V.str _) iv ⟨_, rfl⟩ ⟨⟨q⟩⟩)) (subscripted_false hs _ _)
  · rw [Bool.or_eq_false_iff, decide_eq_false_iff_not, decide_eq_false_iff_not]
    exact ⟨Int.not_lt.mpr nat_ge, Int.not_le.mpr (lt62 hi)⟩
  · rw [show x.length = x.cps.size from rfl, seqIndex_nat hl, Option.bind_some]; exact h⟩
theorem map_at {h : Heap} (o : HOk g σ h) {a : Addr} {f : List (Str × V)} (e : σ a = some (.map f)) : ∃ kvs, h.DictOf (strKind PySem.Challenge.pw_np0310_01 g.w) a kvs ∧ KvR g σ h f kvs := by
  obtain ⟨o', e1, kvs, e2, e3⟩ := o.rep _ _ e
  exact ⟨kvs, Heap.dictOf_iff.mpr ⟨o', e1, e2⟩, e3⟩
theorem kv_find {h : Heap} {l : List (Str × V)} {kvs : List (Str × Value)} (r : KvR g σ h l kvs) {x : Str} {v : V} (q : find x l = some v) : ∃ u, valueAt kvs x = some u ∧ VR g σ h v u := by
  induction l generalizing kvs with
  | nil => cases q
  | cons p l ih =>
    obtain ⟨u, kvs, rfl, e2, e3⟩ := r
    unfold valueAt
    rw [List.find?_cons]
    by_cases hq : x = p.1
    · rw [decide_eq_true hq.symm]
      cases (show some p.2 = some v from (if_pos hq).symm.trans q)
      exact ⟨u, rfl, e2⟩
    · rw [decide_eq_false (Ne.symm hq)]
      exact ih e3 ((if_neg hq).symm.trans q)
theorem u_map {a : Addr} {l : List (Str × V)} {x : Str} {v : V} (ha : σ a = some (.map l)) (h : find x l = some v) (q : K v) : VU g (.ref a) (.str x) σ K := ⟨fun hs A s r iv pq => by
  obtain ⟨e, u, rfl⟩ := pq
  cases e
  obtain ⟨kvs, m1, m2⟩ := map_at iv.ok ha
  obtain ⟨u', m3, m4⟩ := kv_find m2 h
  exact tail_any m1.mapOf.typeIs slot_dict_getitem.lookup (wpAny_getItem_of (strKind_is _ _ _ _) m1.mapOf m3 (Post.same iv m4 ⟨⟨q⟩⟩)) (subscripted_false hs _ _)⟩

/-! ### slices -/
theorem VRs.take {h : Heap} {xs : List V} {vs : List Value} (e : VRs g σ h xs vs) (n : Nat) : VRs g σ h (xs.take n) (vs.take n) := by
  induction xs generalizing vs n with
  | nil => cases (show vs = [] from e); rw [List.take_nil, List.take_nil]; exact rfl
  | cons x xs ih =>
    obtain ⟨v, r, rfl, e2, e3⟩ := e
    cases n with
    | zero => exact rfl
    | succ n => exact ⟨v, _, rfl, e2, ih e3 n⟩
theorem VRs.drop1 {h : Heap} {xs : List V} {vs : List Value} (e : VRs g σ h xs vs) : VRs g σ h (xs.drop 1) (vs.drop 1) := by
  cases xs with
  | nil => cases (show vs = [] from e); exact rfl
  | cons x xs => obtain ⟨v, r, rfl, e2, e3⟩ := e; exact e3
theorem VRs.reverse {h : Heap} {xs : List V} {vs : List Value} (e : VRs g σ h xs vs) : VRs g σ h xs.reverse vs.reverse := by
  induction xs generalizing vs with
  | nil => cases (show vs = [] from e); exact rfl
  | cons x xs ih =>
    obtain ⟨v, r, rfl, e2, e3⟩ := e
    rw [List.reverse_cons, List.reverse_cons]
    exact (ih e3).append ⟨v, [], rfl, e2, rfl⟩
theorem pick_down {α : Type} (xs : List α) (m : Nat) (h : m < xs.length) : ((List.range m).map (fun k => m - k)).filterMap (xs[·]?) = ((xs.drop 1).take m).reverse := by
  induction m with
  | zero => rfl
  | succ m ih =>
    have e : ((fun k => m + 1 - k) ∘ Nat.succ) = fun k => m - k := funext fun k => Nat.succ_sub_succ m k
    rw [List.range_succ_eq_map, List.map_cons, List.map_map, e, List.filterMap_cons, Nat.sub_zero, List.getElem?_eq_getElem h, ih (Nat.lt_of_succ_lt h), List.take_add_one, List.getElem?_drop, Nat.add_comm 1 m, List.getElem?_eq_getElem h, List.reverse_append]
    rfl
theorem slicePick_down (items : Array Value) : slicePick items none (some 0) (some (-1)) = (items.toList.drop 1).reverse.toArray := by
  obtain ⟨xs⟩ := items
  cases xs with
  | nil => rfl
  | cons x xs =>
    have e : sliceBounds none (some 0) (some (-1)) (x :: xs).toArray.size = ((xs.length : Int), 0, -1) := by
      show ((((x :: xs).length : Nat) : Int) - 1, max (-1) (min 0 ((((x :: xs).length : Nat) : Int) - 1)), -1) = _
      rw [show (((x :: xs).length : Nat) : Int) - 1 = xs.length from Int.add_sub_cancel (xs.length : Int) 1, Int.min_eq_left (Int.natCast_nonneg _)]; rfl
    unfold slicePick
    rw [e]
    have e2 : sliceRange (xs.length : Int) 0 (-1) = (List.range xs.length).map fun k => xs.length - k := by
      show (List.range (if (xs.length : Int) > 0 then ((xs.length : Int) - 0 - -1 - 1) / 1 else 0).toNat).map _ = _
      rw [show (if (xs.length : Int) > 0 then ((xs.length : Int) - 0 - -1 - 1) / 1 else 0).toNat = xs.length by split <;> omega]
      exact List.map_congr_left fun k _ => by omega
    rw [e2]
    refine congrArg List.toArray ?_
    rw [show (fun i => (Array.mk (x :: xs))[i]?) = fun i => (x :: xs)[i]? from funext fun i => List.getElem?_toArray]
    refine (pick_down (x :: xs) xs.length (Nat.lt_succ_self _)).trans ?_
    rw [List.drop_one, List.tail_cons, List.take_length]
theorem roList_at {h : Heap} (o : HOk g σ h) {a : Addr} {l : List V} (e : σ a = some (.list l) ∨ ∃ o₀, σ a = some (.ro l o₀)) : ∃ items, h.IsList a items ∧ VRs g σ h l items.toList := by
  rcases e with e | ⟨o₀, e⟩
  · obtain ⟨items, n, x⟩ := list_at o e
    exact ⟨items, x.il.isList, x.vl⟩
  · obtain ⟨x, e1, _, items, n, e2, e3⟩ := o.rep _ _ e
    exact ⟨items, ⟨x, e1, e2.1, n, e2.2⟩, e3⟩
theorem VL.list {r : Addr} {a b c : V} {l m : List V} {lo hi st : Option Int} (hr : σ r = some (.list l) ∨ ∃ o₀, σ r = some (.ro l o₀)) (pa : ∀ {h v}, VR g σ h a v → IsPart v lo) (pb : ∀ {h v}, VR g σ h b v → IsPart v hi) (pc : ∀ {h v}, VR g σ h c v → IsPart v st) (h0 : st ≠ some 0)
    (hm : ∀ {h items}, VRs g σ h l items.toList → VRs g σ h m (slicePick items lo hi st).toList) (hl : l.length ≤ 1000000) (q : ∀ n, σ n = none → k (.ref n) (upd σ n (.list m))) : VL g (.ref r) a b c σ k := ⟨fun {d env ρ A s value _ _ _ p v av bv cv} rm iv e ra rb rc => by
  cases e
  obtain ⟨items, il, vl⟩ := roList_at iv.ok hr
  obtain ⟨ops, hops⟩ := subscripted_slice
  have i₄ := iv.push { cls := .type "slice", data := .fields #[av, bv, cv] }
  refine tail_any (il.push _).typeIs slot_list_getitem.lookup (wpAny_getItem_list_slice (il.push _) (Heap.IsSliceOf.new ..) (pa ra) (pb rb) (pc rc) h0 ?_ (by rw [vl.size]; exact Nat.le_trans hl (by decide))) hops
  refine Post.after (ev_push _) (Post.alloc (R := VR g) (s := { s with heap := s.heap.push { cls := .type "slice", data := .fields #[av, bv, cv] } }) (c := .list m) (x := V.ref _) (o := { cls := .type "list", data := .seq (slicePick items _ _ _) }) i₄ rfl
    (fun σ' h' kp => ⟨_, _, rfl, ((hm vl).keep (kp_of_grow fun _ _ e => Heap.get?_push_of_some _ e)).keep kp⟩) rfl ⟨q _ i₄.ok.none_size⟩)⟩
theorem part_none {h : Heap} {v : Value} (e : VR g σ h .none v) : IsPart v none := by cases e; exact .none
theorem part_int {h : Heap} {i : Int} {v : Value} (e : VR g σ h (.int i) v) : IsPart v (some i) := by obtain ⟨t, rfl⟩ := e; exact .int i t
theorem l_take {r : Addr} {l : List V} {n : Nat} (hr : σ r = some (.list l) ∨ ∃ o₀, σ r = some (.ro l o₀)) (hl : l.length ≤ 1000000) (q : ∀ c, σ c = none → k (.ref c) (upd σ c (.list (l.take n)))) : VL g (.ref r) .none (.int n) .none σ k :=
  .list hr part_none part_int part_none (by decide) (fun {h items} vl => by rw [slicePick_upto', List.toList_toArray]; exact vl.take n) hl q
theorem l_down {r : Addr} {l : List V} (hr : σ r = some (.list l)) (hl : l.length ≤ 1000000) (q : ∀ c, σ c = none → k (.ref c) (upd σ c (.list (l.drop 1).reverse))) : VL g (.ref r) .none (.int 0) (.int (-1)) σ k :=
  .list (.inl hr) part_none part_int part_int (by decide) (fun {h items} vl => by rw [slicePick_down, List.toList_toArray]; exact vl.drop1.reverse) hl q
/-- none or an int -/
noncomputable def partOf : V → Option (Option Int)
  | .none => some none
  | .int i => some (some i)
  | _ => none
theorem strPart_of {x : V} {v : Value} {lo : Option Int} {h : Heap} (e : partOf x = some lo) (p : VR g σ h x v) : ∃ l : Option (Int × Tok), v = partValue l ∧ l.map (·.1) = lo := by
  cases x with
  | none => cases e; cases p; exact ⟨none, rfl, rfl⟩
  | int i => cases e; obtain ⟨t, rfl⟩ := p; exact ⟨some (i, t), rfl, rfl⟩
  | _ => cases e
theorem l_str {x : Str} {a b : V} {lo hi : Option Int} (ha : partOf a = some lo) (hb : partOf b = some hi) (hl : x.length ≤ 1000000) (q : k (.str (Txt.slice x lo hi)) σ) : VL g (.str x) a b .none σ k := ⟨fun {d env ρ A s value _ _ _ p v av bv cv} rm iv e ra rb rc => by
  obtain ⟨t, rfl⟩ := e
  cases rc
  obtain ⟨la, rfl, rfl⟩ := strPart_of ha ra
  obtain ⟨lb, rfl, rfl⟩ := strPart_of hb rb
  obtain ⟨ops, hops⟩ := subscripted_slice
  refine tail_any (typeIs_str _ x t) F.slot_str_getitem.lookup (wpAny_getItem_str_slice (l := la) (u := lb) (st := none) ⟨_, Heap.get?_push_size _ rfl, rfl, rfl⟩ rfl ?_) hops
  have fin : ∀ tk t', Post g env (VR g) σ s (QE ρ k) (.str (Txt.slice x (la.map (·.1)) (lb.map (·.1))) t') { s with heap := s.heap.push { cls := .type "slice", data := .fields #[partValue la, partValue lb, .none] }, toks := tk } := fun tk t' => .mk (V.str _) ρ σ _ tk (iv.push _) (ev_push _) ⟨t', rfl⟩ ⟨q⟩
  have hsz : (Txt.slice x (la.map (·.1)) (lb.map (·.1))).length ≤ sizeLine := Nat.le_trans (PyProof.Txt.length_slice_le x _ _) (Nat.le_trans hl (by decide))
  show (if ((1 : Int) == 1 && (Builtin.Str.strSliceIndices (la.map (·.1)) (lb.map (·.1)) 1 x.length).length == x.length) = true then Made.val (Value.str x t) else Made.str ⟨((Builtin.Str.strSliceIndices (la.map (·.1)) (lb.map (·.1)) 1 x.length).filterMap (x.cps[·]?)).toArray⟩).post _ _
  revert fin hsz
  unfold Txt.slice
  cases ((1 : Int) == 1 && (Builtin.Str.strSliceIndices (la.map (·.1)) (lb.map (·.1)) 1 x.length).length == x.length) with
  | true => exact fun fin _ => fin _ _
  | false => exact fun fin hsz => ⟨hsz, fin _ _⟩⟩

/-! ### the rules -/
variable {tb : TB} {d : Nat} {env : Env} {ρ : Loc}
theorem c_sub {value slice : Expr} {pos : Pos} (hs : notSlice slice = true) (h : XE g d env ρ σ value fun x σ₁ => XE g d env ρ σ₁ slice fun y σ₂ => VU g x y σ₂ fun z => k z σ₂) : XE g d env ρ σ (.Subscript value slice pos) k := by
  rw [XE, eval_Subscript]
  refine WE.next h fun x σ₁ v q => WE.next2 q.holding fun y σ₂ u q₂ => W.stand ((q₂.run hs).kk fun z σ₃ z => ?_)
  cases z with | mk z => exact z
abbrev XP (g : GE) (d : Nat) (env : Env) (ρ : Loc) (σ : Sto) (e : Option Expr) (k : V → Sto → Prop) : Prop := WE g d env T0 ρ σ (evalPart e env) k
theorem c_part0 (q : k .none σ) : XP g d env ρ σ none k := W.pure (x := V.none) (fun _ _ _ => rfl) ⟨q⟩
theorem c_slice {value : Expr} {lo hi st : Option Expr} {p pos : Pos} (h : XE g d env ρ σ value fun x σ₁ => XP g d env ρ σ₁ lo fun a σ₂ => XP g d env ρ σ₂ hi fun b σ₃ => XP g d env ρ σ₃ st fun c σ₄ => VL g x a b c σ₄ k) :
    XE g d env ρ σ (.Subscript value (.Slice lo hi st p) pos) k := by
  rw [XE, eval_Subscript]
  refine WE.next h fun x σ₁ v q A s r i pv => wpAny_bind (wpAny_holding (wpAny_Slice (q.runE r i trivial fun a σ₂ h₁ tk₁ av i₁ ev₁ ra q => ?_)))
  refine q.runE (s := { s with heap := h₁, toks := tk₁ }) r i₁ trivial fun b σ₃ h₂ tk₂ bv i₂ ev₂ rb q => ?_
  refine q.runE (s := { s with heap := h₂, toks := tk₂ }) r i₂ trivial fun c σ₄ h₃ tk₃ cv i₃ ev₃ rc q => ?_
  exact wpAny_bind (wpAny_standAt (wpAny_mono (q.run (s := { s with heap := h₃, toks := tk₃ }) r i₃ (((pv.keep (ev₁.kp i)).keep (ev₂.kp i₁)).keep (ev₃.kp i₂)) ((ra.keep (ev₂.kp i₁)).keep (ev₃.kp i₂)) (rb.keep (ev₃.kp i₂)) rc) (fun _ _ z => z.after ((ev₁.trans ev₂).trans ev₃)) fun _ _ e => e))
end
end Mine

namespace Mine

/-! ## all objects as a ledger -/
noncomputable def newK (h₀ : Heap) (L : Addr) (h : Heap) : List Nat := (List.range h.objs.size).filter fun b => !(b == L) && ((h₀.get? b).isNone && (h.get? b).isSome)
noncomputable def newO (h : Heap) (b : Nat) : Addr × Obj := (b, (h.get? b).getD emptyDict)
theorem newK_mem {h₀ h : Heap} {L b : Nat} : b ∈ newK h₀ L h ↔ b < h.objs.size ∧ b ≠ L ∧ (h₀.get? b).isNone = true ∧ (h.get? b).isSome = true := by
  unfold newK
  rw [List.mem_filter, List.mem_range, Bool.and_eq_true_iff, Bool.and_eq_true_iff, Bool.not_eq_true', beq_eq_false_iff_ne]
theorem newO_of {h : Heap} {b : Nat} {o : Obj} (e : h.get? b = some o) : newO h b = (b, o) := by unfold newO; rw [e]; rfl
theorem newK_split {h₀ h : Heap} {L b : Nat} (hb : b ∈ newK h₀ L h) : ∃ pre post, newK h₀ L h = pre ++ b :: post ∧ (∀ p ∈ pre, p ≠ b) ∧ (∀ p ∈ post, p ≠ b) := by
  obtain ⟨pre, post, e⟩ := List.append_of_mem hb
  have n : (newK h₀ L h).Nodup := List.Pairwise.filter _ List.nodup_range
  rw [e, List.nodup_append] at n
  exact ⟨pre, post, e, fun p hp => n.2.2 p hp b (.head _), fun p hp q => (List.nodup_cons.mp n.2.1).1 (q ▸ hp)⟩

section
variable {g : GE} {d : Nat} {env : Env} {α X : Type} {R : Sto → Heap → X → α → Prop} {ρ : Loc} {σ : Sto}
/-- a tracked object is turned; the frame is another object with the same names -/
theorem Post.turnL {s : Shared} {Q : X → Loc → Sto → Prop} {a : α} {x : X} {l : Addr} {o' : Obj} {c c' : Cell} {h' : Heap} {tk : Nat} {m : Str → Option Value} (i : Inv g env ρ σ s.heap) (e : σ l = some c)
    (n : s.heap.Ns env.locals m) (hm : ∀ x v, LocAt env ρ x v → ∃ u, m x = some u ∧ VR g σ s.heap v u)
    (k : ∀ b y, b ≠ l → b ≠ env.locals → s.heap.get? b = some y → h'.get? b = some y) (n' : h'.Ns env.locals m) (e' : h'.get? l = some o')
    (ro : ∀ σ' h', Kp σ s.heap σ' h' → ORep g σ' h' c' o')
    (r : R (upd σ l c') h' x a) (q : Q x ρ (upd σ l c')) : Post g env R σ s Q a { s with heap := h', toks := tk } := by
  have nl : ∀ {b o}, U σ s.heap b o → b ≠ l := fun u q => by have z := u.2; rw [q, e] at z; cases z
  have kp : Kp σ s.heap (upd σ l c') h' := fun b y nd _ u => by
    refine ⟨k b y (nl u) (fun q => ?_) u.1, (upd_ne (nl u)).trans u.2⟩
    obtain ⟨z, es, ep, e1, e2, _⟩ := n
    rw [← q, u.1] at e1; cases e1
    exact nd es ep e2
  refine .mk x ρ _ h' tk ⟨⟨fun b y e' => ?_, fun b d e' => ?_⟩, ⟨m, n', fun y v e' => ?_⟩, (upd_ne (i.loc_ne e).symm).trans i.loc, i.above⟩ (fun b y nb u => ⟨k b y (nl u) (fun q => nb (q ▸ rfl)) u.1, (upd_ne (nl u)).trans u.2⟩) r q
  · have u := i.ok.base b y e'
    exact ⟨k b y (nl u) (fun q => Nat.not_lt.mpr i.above (q ▸ Heap.lt_size e')) u.1, (upd_ne (nl u)).trans u.2⟩
  · by_cases nb : b = l
    · subst nb
      cases (show some c' = some d from upd_eq.symm.trans e')
      exact ⟨o', by assumption, ro _ _ kp⟩
    · have e' := (upd_ne nb).symm.trans e'
      obtain ⟨y, e1, e2⟩ := i.ok.rep b d e'
      exact ⟨y, k b y nb (i.loc_ne e') e1, e2.keep kp⟩
  · obtain ⟨u, e1, e2⟩ := hm y v e'
    exact ⟨u, e1, e2.keep kp⟩
end

/-! ## instances -/
section
variable {g : GE} {σ : Sto} {h : Heap}
theorem inst_at (o : HOk g σ h) {a dx : Addr} {cn : Str} {l : List (Str × V)} (e : σ a = some (.inst cn dx)) (e' : σ dx = some (.dict l)) :
    ∃ es n, InstAt h a (instObj (g.fa cn) dx) (g.fa cn) (some (dictOf es n)) ∧ EntR g σ h l es ∧ h.get? dx = some (dictOf es n) := by
  obtain ⟨x, e1, e2⟩ := o.rep _ _ e
  obtain ⟨y, f1, es, n, f2, f3⟩ := o.rep _ _ e'
  subst f2
  rw [show x = instObj (g.fa cn) dx from e2] at e1
  exact ⟨es, n, ⟨e1, rfl, rfl, f1⟩, f3, f1⟩
/-- what a name finds among a dict's entries -/
inductive Found (g : GE) (σ : Sto) (h : Heap) : Option V → Option DictEntry → Prop
  | none : Found g σ h none none
  | some {v : V} {e : DictEntry} (r : VR g σ h v e.val) : Found g σ h (some v) (some e)
theorem entR_find {l : List (Str × V)} {es : List DictEntry} (r : EntR g σ h l es) (x : Str) : Found g σ h (find x l) (es.find? (·.key.isStr x)) := by
  induction l generalizing es with
  | nil => cases (show es = [] from r); exact .none
  | cons p l ih =>
    obtain ⟨e, es, rfl, ⟨t, e2⟩, e3, e4, e5⟩ := r
    have hk : e.key.isStr x = (p.1 == x) := by rw [e2]; rfl
    rw [List.find?_cons, hk]
    by_cases hq : x = p.1
    · rw [show find x (p :: l) = Option.some p.2 from if_pos hq, beq_iff_eq.mpr hq.symm]; exact .some e4
    · rw [show find x (p :: l) = find x l from if_neg hq, beq_eq_false_iff_ne.mpr (Ne.symm hq)]; exact ih e5
theorem entR_noRef {l : List (Str × V)} {es : List DictEntry} (r : EntR g σ h l es) : es.any (·.refKey) = false := by
  induction l generalizing es with
  | nil => cases (show es = [] from r); rfl
  | cons p l ih =>
    obtain ⟨e, es, rfl, ⟨t, e2⟩, e3, e4, e5⟩ := r
    rw [List.any_cons, ih e5, Bool.or_false]
    unfold DictEntry.refKey
    rw [e2]
theorem entR_getN {l : List (Str × V)} {es : List DictEntry} (r : EntR g σ h l es) {x : Str} (e : find x l = none) : PySem.W.getL x es = some none := by
  have z := entR_find r x
  rw [e] at z
  unfold PySem.W.getL
  generalize es.find? (·.key.isStr x) = u at z
  cases z
  rw [entR_noRef r]; rfl
theorem entR_getS {l : List (Str × V)} {es : List DictEntry} (r : EntR g σ h l es) {x : Str} {v : V} (e : find x l = some v) : ∃ u, PySem.W.getL x es = some (some u) ∧ VR g σ h v u := by
  have z := entR_find r x
  rw [e] at z
  unfold PySem.W.getL
  generalize es.find? (·.key.isStr x) = u at z
  cases z with
  | some r => exact ⟨_, rfl, r⟩
noncomputable def putD (x : Str) (v : V) : List (Str × V) → List (Str × V)
  | [] => [(x, v)]
  | p :: r => if x = p.1 then (p.1, v) :: r else p :: putD x v r
theorem entR_put {x : Str} {v : V} {u : Value} {t : Tok} (p : VR g σ h v u) {l : List (Str × V)} {es : List DictEntry} (r : EntR g σ h l es) : EntR g σ h (putD x v l) (PySem.W.putL x (PyData.keyHash g.w.params x) (.str x t) u es) := by
  induction l generalizing es with
  | nil => cases (show es = [] from r); exact ⟨_, [], rfl, ⟨t, rfl⟩, rfl, p, rfl⟩
  | cons q l ih =>
    obtain ⟨e, es, rfl, ⟨t', e2⟩, e3, e4, e5⟩ := r
    have hk : e.key.isStr x = (q.1 == x) := by rw [e2]; rfl
    unfold PySem.W.putL
    rw [hk]
    by_cases hq : x = q.1
    · rw [show putD x v (q :: l) = (q.1, v) :: l from if_pos hq, if_pos (beq_iff_eq.mpr hq.symm)]
      exact ⟨_, es, rfl, ⟨t', e2⟩, e3, p, e5⟩
    · rw [show putD x v (q :: l) = q :: putD x v l from if_neg hq, if_neg (fun z => hq (beq_iff_eq.mp z).symm)]
      exact ⟨e, _, rfl, ⟨t', e2⟩, e3, e4, ih e5⟩
theorem entR_length {l : List (Str × V)} {es : List DictEntry} (r : EntR g σ h l es) : es.length = l.length := by
  induction l generalizing es with
  | nil => cases (show es = [] from r); rfl
  | cons q l ih => obtain ⟨e, es, rfl, _, _, _, e5⟩ := r; exact congrArg Nat.succ (ih e5)
end

section
variable {g : GE} {tb : TB} {d : Nat} {env : Env} {ρ : Loc} {σ : Sto} {P : Sto → Heap → Prop}
abbrev WU (g : GE) (d : Nat) (env : Env) (P : Sto → Heap → Prop) (ρ : Loc) (σ : Sto) (t : Sem Unit) (k : Loc → Sto → Prop) : Prop := W g d env RU P ρ σ t (fun _ ρ' σ' => k ρ' σ')
/-- only the store is turned -/
inductive QU (ρ : Loc) (k : Sto → Prop) : Loc → Sto → Prop
  | mk {σ : Sto} (q : k σ) : QU ρ k ρ σ
structure VG (g : GE) (tb : TB) (o : V) (n : Str) (σ : Sto) (k : V → Prop) : Prop where
  run : ∀ {d env ρ ov ex}, TOk g tb → WE g d env (T1 g o ov) ρ σ (getAttr ov n ex) (QV σ k)
structure VS (g : GE) (tb : TB) (o : V) (n : Str) (x : V) (σ : Sto) (k : Sto → Prop) : Prop where
  run : ∀ {d env ρ ov xv}, TOk g tb → WU g d env (T2 g x o xv ov) ρ σ (setAttr ov n xv) (QU ρ k)
noncomputable def notBi : V → Bool
  | .bi _ => false
  | _ => true
theorem handed_VR {v : V} {u : Value} {h : Heap} (hb : notBi v = true) (p : VR g σ h v u) : handedIn u = true := by
  cases v with
  | none => cases p; rfl
  | bool b => cases p; rfl
  | int i => obtain ⟨t, rfl⟩ := p; rfl
  | str i => obtain ⟨t, rfl⟩ := p; rfl
  | ref a => cases p; rfl
  | cls a => cases p; rfl
  | ty a => cases p; rfl
  | bi a => cases hb
  | fn i => obtain ⟨f, _, _, rfl, _⟩ := p; rfl
  | rng a b => obtain ⟨r, _, _, _, _, rfl, _⟩ := p; rfl
  | tup l => obtain ⟨t, _, _, rfl, _⟩ := p; rfl
theorem g_inst {a dx : Addr} {cn n : Str} {l : List (Str × V)} {v : V} {K : V → Prop} (ha : σ a = some (.inst cn dx)) (hf : tb.fl cn n = true) (hd : σ dx = some (.dict l)) (hv : find n l = some v) (hb : notBi v = true) (q : K v) : VG g tb (.ref a) n σ K := ⟨fun ok A s r i p => by
  cases p
  obtain ⟨f1, f2, ⟨attr, f3, f4⟩, _⟩ := ok.fl _ _ hf
  obtain ⟨es, m, I, E, _⟩ := inst_at i.ok ha hd
  obtain ⟨u, z1, z2⟩ := entR_getS E hv
  exact get_value i.ok.inK I (plainGet_of f1).1 (findObj_own f2 f3 f4 z1) (handed_VR hb z2) (Post.same i z2 ⟨⟨q⟩⟩)⟩
theorem putD_length (x : Str) (v : V) (l : List (Str × V)) : (putD x v l).length ≤ l.length + 1 := by
  induction l with
  | nil => exact Nat.le_refl _
  | cons p r ih =>
    unfold putD
    split
    · exact Nat.le_succ _
    · exact Nat.succ_le_succ ih
theorem g_set {a dx : Addr} {cn n : Str} {l : List (Str × V)} {x : V} {KS : Sto → Prop} (ha : σ a = some (.inst cn dx)) (hf : tb.fl cn n = true) (hd : σ dx = some (.dict l)) (hl : l.length ≤ 100) (q : KS (upd σ dx (.dict (putD n x l)))) : VS g tb (.ref a) n x σ KS := ⟨fun {d env ρ ov xv} ok A s r i pq => by
  obtain ⟨p, e⟩ := pq
  cases e
  obtain ⟨f1, f2, ⟨attr, f3, f4⟩, f5, f6, f7⟩ := ok.fl _ _ hf
  obtain ⟨es, z, I, E, D⟩ := inst_at i.ok ha hd
  obtain ⟨m, nm, hm⟩ := i.fr
  have hn : (g.h₀.get? dx).isNone = true := by
    cases z : g.h₀.get? dx with
    | none => rfl
    | some y => have := (i.ok.base dx y z).2; rw [hd] at this; cases this
  obtain ⟨pre, post, sp, n1, n2⟩ := newK_split (newK_mem.mpr ⟨Heap.lt_size D, i.loc_ne hd, hn, by rw [D]; rfl⟩)
  have N : News g.h₀ env.locals s.heap (pre.map (newO s.heap) ++ (dx, dictOf es z) :: post.map (newO s.heap)) := by
    rw [← newO_of D, ← List.map_cons, ← List.map_append, ← sp]
    intro p hp
    obtain ⟨b, hb, rfl⟩ := List.mem_map.mp hp
    obtain ⟨_, y1, y2, y3⟩ := newK_mem.mp hb
    obtain ⟨o, y3⟩ := Option.isSome_iff_exists.mp y3
    rw [newO_of y3]
    exact ⟨y3, y1, Option.isNone_iff_eq_none.mp y2⟩
  have hg : (PySem.W.getL n es).isSome = true := by
    cases z : find n l with
    | none => rw [entR_getN E z]; rfl
    | some v => obtain ⟨u, z, _⟩ := entR_getS E z; rw [z]; rfl
  refine set_plain i.ok.inK I f5 (osa_dict (s := { s with toks := s.toks + 1 }) ⟨nm, fun b o e => (i.ok.base b o e).1, i.above⟩ N i.ok.inK I rfl f6 f7 f2 hg (fun p hp => ?_) (fun p hp => ?_) (by rw [putName_dict]) rfl (by rw [entR_length (entR_put p E)]; exact Nat.le_trans (putD_length n x l) (Nat.succ_le_succ (Nat.le_trans hl (by decide)))) fun h' F' N' => ?_)
  · obtain ⟨b, hb, rfl⟩ := List.mem_map.mp hp; exact n1 b hb
  · obtain ⟨b, hb, rfl⟩ := List.mem_map.mp hp; exact n2 b hb
  refine Post.turnL (x := ()) (c' := .dict (putD n x l)) i hd nm hm (fun b y nb nL e => ?_) F'.ns (N' _ (List.mem_append_right _ (.head _))).1 (fun σ' h' kp => ⟨_, _, rfl, entR_put (p.keep kp) (E.keep kp)⟩) trivial ⟨q⟩
  cases hb : g.h₀.get? b with
  | some y' => cases (show some y = some y' from e.symm.trans (i.ok.keep b y' hb)); exact F'.keep b y hb
  | none =>
    have mem := (newK_mem (h₀ := g.h₀) (L := env.locals) (h := s.heap)).mpr ⟨Heap.lt_size e, nL, by rw [hb]; rfl, by rw [e]; rfl⟩
    rw [sp, List.mem_append, List.mem_cons] at mem
    have key : ∀ z, z ∈ pre.map (newO s.heap) ++ (dx, dictOf _ _) :: post.map (newO s.heap) → z = (b, y) → h'.get? b = some y := fun z hz e => by subst e; exact (N' _ hz).1
    rcases mem with m | m | m
    · exact key _ (List.mem_append_left _ (List.mem_map_of_mem m)) (newO_of e)
    · exact absurd m nb
    · exact key _ (List.mem_append_right _ (.tail _ (List.mem_map_of_mem m))) (newO_of e)⟩
end
end Mine

namespace Mine

/-- what a call leaves -/
inductive CPost (g : GE) (σ : Sto) (s : Shared) (k : V → Sto → Prop) (v : Value) : Shared → Prop
  | mk (x : V) (σ' : Sto) (h' : Heap) (tk : Nat) (o : HOk g σ' h') (ev : Ev none σ s.heap σ' h') (r : VR g σ' h' x v) (q : k x σ') : CPost g σ s k v { s with heap := h', toks := tk }
/-- a call, whatever the frame -/
structure CallS (g : GE) (d : Nat) (f : V) (args : List V) (σ : Sto) (k : V → Sto → Prop) : Prop where
  run : ∀ {A s fv vs}, Rm A d → HOk g σ s.heap → VR g σ s.heap f fv → VRs g σ s.heap args vs → wpAny g.M A (call fv vs) (CPost g σ s k) NoE s

inductive RPost (g : GE) (σ : Sto) (s : Shared) (k : V → Sto → Prop) : Result → Shared → Prop
  | mk {v s'} (h : CPost g σ s k v s') : RPost g σ s k (.ok (.ret v)) s'
/-- a call of a def -/
structure CallC (g : GE) (d : Nat) (i : FnI) (args : List V) (σ : Sto) (k : V → Sto → Prop) : Prop where
  run : ∀ {A s f vs}, Rm A d → HOk g σ s.heap → VR g σ s.heap (.fn i) (.ref f) → VRs g σ s.heap args vs → codeAny g.M A (.call (.ref f) ⟨vs, []⟩) (RPost g σ s k) s

section
variable {g : GE} {d : Nat} {env : Env} {ρ : Loc} {σ : Sto} {P : Sto → Heap → Prop}
theorem Rm.le {A : Around} {d d' : Nat} (r : Rm A d) (h : d' ≤ d) : Rm A d' := ⟨Nat.lt_of_le_of_lt (Nat.add_le_add_left h _) r.depth, Nat.le_trans (Nat.add_le_add_right (Nat.add_le_add_left (Nat.mul_le_mul_left 8 h) _) 40) r.units, r.handled⟩
theorem CallC.room {d' : Nat} {i : FnI} {args : List V} {k : V → Sto → Prop} (h : CallC g d i args σ k) (hd : d ≤ d') : CallC g d' i args σ k := ⟨fun r o p q => h.run (r.le hd) o p q⟩
theorem CallC.S {i : FnI} {args : List V} {k : V → Sto → Prop} (h : CallC g d i args σ k) : CallS g d (.fn i) args σ k := ⟨fun r o p q => by
  obtain ⟨f, ob, fd, rfl, e2, e3, e4⟩ := id p
  refine wpAny_call (codeAny_mono (h.run r o p q) fun r s' z => ?_)
  cases z with | mk z => exact z⟩

theorem Inv.called {σ' : Sto} {h h' : Heap} (i : Inv g env ρ σ h) (o : HOk g σ' h') (ev : Ev none σ h σ' h') : Inv g env ρ σ' h' := by
  obtain ⟨m, ⟨x, es, ep, e1, e2⟩, q⟩ := i.fr
  have u := ev _ _ (fun e => by cases e) (show U σ h env.locals x from ⟨e1, i.loc⟩)
  exact ⟨o, ⟨m, ⟨x, es, ep, u.1, e2⟩, fun y v e => let ⟨w, a, b⟩ := q y v e; ⟨w, a, b.keep ev.kp0⟩⟩, u.2, i.above⟩
theorem W_call {f : V} {args : List V} {fv : Value} {vs : List Value} {k : V → Sto → Prop} (h : CallS g d f args σ k) :
    WE g d env (fun σ h => VR g σ h f fv ∧ VRs g σ h args vs) ρ σ (call fv vs) k := fun A s r i p =>
  wpAny_mono (h.run r i.ok p.1 p.2) (fun v s' z => by
    cases z with | mk x σ' h' tk b c e q => exact .mk x ρ σ' h' tk (i.called b c) c.weak e ⟨q⟩) fun _ _ e => e

/-- who may be called -/
noncomputable def Keeps (g : GE) (f : V) : Prop := ∀ σ h fv, HOk g σ h → VR g σ h f fv → ∃ k, (k = Keeper.frame ∨ k = Keeper.machine ∨ k = Keeper.boundFrame) ∧ Looks g.M h (keeperOf fv) k
theorem keeps_fn {i : FnI} : Keeps g (.fn i) := fun σ h fv o z => by
  obtain ⟨f, ob, fd, rfl, e2, e3, _⟩ := z
  obtain ⟨oc, od, oda, sl⟩ := ob
  dsimp only at e3
  subst e3
  exact keeps_F h ⟨oc, od, fd, sl, e2.1⟩
theorem keeps_ty {n : String} : Keeps g (.ty n) := fun σ h fv o e => by
  cases (show fv = _ from e)
  exact ⟨.machine, .inr (.inl rfl), .of_pure rfl⟩
theorem keeps_bi {n : String} : Keeps g (.bi n) := fun σ h fv o e => by
  cases (show fv = _ from e)
  exact ⟨.machine, .inr (.inl rfl), .of_pure rfl⟩
theorem keeps_cls {n : Str} {i : FnI} (c : ClOk g n i) : Keeps g (.cls n) := fun σ h fv o e => by
  cases (show fv = _ from e)
  exact keeps_K c.keeps h o.inK

noncomputable def noStars : List Expr → Bool
  | [] => true
  | e :: r => !isStar e && noStars r
theorem evalArgs_nil' {A : Around} {s : Shared} {f : Value} {Q : Args → Shared → Prop} (h : wpAny g.M A (spliced []) (fun vs s' => Q ⟨vs, []⟩ s') NoE s) : wpAny g.M A (evalArgs f true [] []) Q NoE s := by
  unfold evalArgs
  show wpAny _ A (spliced [] >>= _) Q _ s
  refine wpAny_bind (wpAny_mono h (fun vs s' h' => ?_) fun _ _ x => x)
  refine wpAny_bind (wpAny_pure (wpAny_holding ?_))
  exact wpAny_bind (wpAny_pure (wpAny_bind (wpAny_pure (wpAny_pure h'))))
theorem plain_args {pos : Pos} {args : List Expr} (h : noStars args = true) : ((backTo pos (starEach args env)).any (·.1)) = false := by
  induction args with
  | nil => rfl
  | cons e r ih =>
    have h' := Bool.and_eq_true_iff.mp (show ((!isStar e) && noStars r) = true from h)
    rw [starEach_cons (by simpa using h'.1)]
    exact ih h'.2
theorem W_callWith {f : V} {fv : Value} {fx : List V} {first : List Value} {args : List Expr} {pos : Pos} {k : V → Sto → Prop} (hf : Keeps g f) (hs : noStars args = true)
    (h : WEs g d env T0 ρ σ (spliced (backTo pos (starEach args env))) (fun xs σ₁ => CallS g d f (fx ++ xs) σ₁ k)) :
    WE g d env (fun σ h => VR g σ h f fv ∧ VRs g σ h fx first) ρ σ (callWith pos fv first (backTo pos (starEach args env)) []) k := fun A s r i p => by
  have key : wpAny g.M A (spliced (backTo pos (starEach args env))) (fun vs s₁ => (∃ σ, HOk g σ s₁.heap ∧ VR g σ s₁.heap f fv) ∧ wpAny g.M A (call fv (first ++ vs) []) (Post g env (VR g) σ s (QE ρ k)) NoE s₁) NoE s := by
    refine h.runE r i trivial fun xs σ₁ h₁ tk vs i₁ ev rr q => ?_
    have pf := p.1.keep (ev.kp i)
    exact ⟨⟨σ₁, i₁.ok, pf⟩, wpAny_mono (W_call q A { s with heap := h₁, toks := tk } r i₁ ⟨pf, (p.2.keep (ev.kp i)).append rr⟩) (fun _ _ z => z.after ev) fun _ _ e => e⟩
  refine callWith_of (P := fun h => ∃ σ, HOk g σ h ∧ VR g σ h f fv) (by rw [plain_args hs]; rfl) (fun h z => by obtain ⟨σ, o, p⟩ := z; exact hf σ h fv o p) ?_
  cases args with
  | nil => exact evalArgs_nil' key
  | cons e r =>
    have he := starEach_cons (env := env) (rest := r) (show isStar e = false by simpa using (Bool.and_eq_true_iff.mp (show ((!isStar e) && noStars r) = true from hs)).1)
    rw [he] at key ⊢
    exact evalArgs_plain key
end
end Mine

namespace Mine

noncomputable def rangeV (a b : Int) : List V := (List.range (b - a).toNat).map fun (i : Nat) => V.int (a + (i : Int))
noncomputable def big : Nat := 16000000
/-- a call; the classes' facts at hand -/
structure VC (g : GE) (tb : TB) (d : Nat) (f : V) (args : List V) (σ : Sto) (k : V → Sto → Prop) : Prop where
  run : TOk g tb → CallS g d f args σ k
section
variable {g : GE} {tb : TB} {d : Nat} {σ : Sto} {k : V → Sto → Prop}
theorem v_fn {i : FnI} {args : List V} (q : CallC g d i args σ k) : VC g tb d (.fn i) args σ k := ⟨fun _ => q.S⟩
theorem CPost.same {s : Shared} {x : V} {v : Value} {tk : Nat} (o : HOk g σ s.heap) (r : VR g σ s.heap x v) (q : k x σ) : CPost g σ s k v { s with toks := tk } := .mk x σ s.heap tk o Ev.refl r q
theorem CPost.turn {s : Shared} {x : V} {v : Value} {l : Addr} {ob : Obj} {c' : Cell} {h' : Heap} {tk : Nat} (o : HOk g σ s.heap) (hn : σ l = none → s.heap.get? l = none)
    (kk : ∀ b y, b ≠ l → s.heap.get? b = some y → h'.get? b = some y) (e' : h'.get? l = some ob)
    (ro : ∀ σ' h', Kp σ s.heap σ' h' → ORep g σ' h' c' ob)
    (r : Kp σ s.heap (upd σ l c') h' → VR g (upd σ l c') h' x v) (q : k x (upd σ l c')) : CPost g σ s k v { s with heap := h', toks := tk } :=
  .mk x _ h' tk (o.upd kk hn e' (ro _ _ (kp_upd (o := ob) kk hn))) (ev_upd kk hn) (r (kp_upd (o := ob) kk hn)) q
theorem one_arg {x : V} {vs : List Value} {h : Heap} (r : VRs g σ h [x] vs) : ∃ v, vs = [v] ∧ VR g σ h x v := by
  obtain ⟨v, w, rfl, p, q⟩ := r
  cases q
  exact ⟨v, rfl, p⟩
theorem two_args {x y : V} {vs : List Value} {h : Heap} (r : VRs g σ h [x, y] vs) : ∃ v u, vs = [v, u] ∧ VR g σ h x v ∧ VR g σ h y u := by
  obtain ⟨v, w, rfl, p, q⟩ := r
  obtain ⟨u, rfl, p'⟩ := one_arg q
  exact ⟨v, u, rfl, p, p'⟩
theorem big_line {n : Nat} (h : n ≤ big) : n ≤ sizeLine := Nat.le_trans h (by decide)
theorem big_63 {n : Nat} (h : n ≤ big) : (n : Int) < 2 ^ 63 := Int.ofNat_lt.mpr (Nat.lt_of_le_of_lt h (show 16000000 < 2 ^ 63 by decide))
theorem some_none {l : Addr} {c : Cell} {h : Heap} (e : σ l = some c) : σ l = none → h.get? l = none := fun z => by rw [e] at z; cases z

/-! ### len, isinstance -/
theorem v_lenS {x : Str} (h : x.length ≤ big) (q : k (.int x.length) σ) : VC g tb d (.bi "len") [.str x] σ k := ⟨fun _ => ⟨fun r o p q' => by
  cases p
  obtain ⟨v, rfl, t, rfl⟩ := one_arg q'
  exact P.len_str (Int.not_le.mpr (big_63 h)) (CPost.same (x := V.int _) o ⟨_, rfl⟩ q)⟩⟩
theorem v_lenT {l : List V} (h : l.length ≤ big) (q : k (.int l.length) σ) : VC g tb d (.bi "len") [.tup l] σ k := ⟨fun _ => ⟨fun r o p q' => by
  cases p
  obtain ⟨v, rfl, t, items, m, rfl, e2, e3⟩ := one_arg q'
  exact P.len_tuple (n := m) e2.1 (by rw [e3.size]; exact Int.not_le.mpr (big_63 h)) (by rw [e3.size]; exact CPost.same (x := V.int _) o ⟨_, rfl⟩ q)⟩⟩
theorem v_lenL {a : Addr} {l : List V} (ha : σ a = some (.list l)) (h : l.length ≤ big) (q : k (.int l.length) σ) : VC g tb d (.bi "len") [.ref a] σ k := ⟨fun _ => ⟨fun r o p q' => by
  cases p
  obtain ⟨v, rfl, e⟩ := one_arg q'
  cases e
  obtain ⟨items, m, x⟩ := list_at o ha
  exact call_len_list x.il.isList (by rw [x.vl.size]; exact big_63 h) (by rw [x.vl.size]; exact CPost.same (x := V.int _) o ⟨_, rfl⟩ q)⟩⟩
theorem v_isi {x : V} {t : String} {b : Bool} (h : ∀ {A : Around} {s : Shared} {v : Value}, VR g σ s.heap x v → (∀ {tk : Nat}, CPost g σ s k (.bool b) { s with toks := tk }) → wpAny g.M A (call (.builtin "isinstance") [v, .type t]) (CPost g σ s k) NoE s) (q : k (.bool b) σ) : VC g tb d (.bi "isinstance") [x, .ty t] σ k := ⟨fun _ => ⟨fun r o p q' => by
  cases p
  obtain ⟨v, u, rfl, e1, e2⟩ := two_args q'
  cases e2
  exact h e1 (CPost.same (x := V.bool b) o rfl q)⟩⟩
theorem v_iTT {l : List V} (q : k (.bool true) σ) : VC g tb d (.bi "isinstance") [.tup l, .ty "tuple"] σ k := v_isi (fun p fin => by obtain ⟨t, items, m, rfl, e2, e3⟩ := p; exact IsiPair.tuple_tuple e2.1 rfl fin) q
theorem v_iNT (q : k (.bool false) σ) : VC g tb d (.bi "isinstance") [.none, .ty "tuple"] σ k := v_isi (fun p fin => by cases p; exact IsiPair.NoneType_tuple fin) q
theorem v_iIT {i : Int} (q : k (.bool false) σ) : VC g tb d (.bi "isinstance") [.int i, .ty "tuple"] σ k := v_isi (fun p fin => by obtain ⟨t, rfl⟩ := p; exact IsiPair.int_tuple fin) q
theorem v_iST {i : Str} (q : k (.bool false) σ) : VC g tb d (.bi "isinstance") [.str i, .ty "tuple"] σ k := v_isi (fun p fin => by obtain ⟨t, rfl⟩ := p; exact IsiPair.str_tuple fin) q
theorem v_iSS {i : Str} (q : k (.bool true) σ) : VC g tb d (.bi "isinstance") [.str i, .ty "str"] σ k := v_isi (fun p fin => by obtain ⟨t, rfl⟩ := p; exact IsiPair.str_str fin) q
theorem v_iTS {l : List V} (q : k (.bool false) σ) : VC g tb d (.bi "isinstance") [.tup l, .ty "str"] σ k := v_isi (fun p fin => by obtain ⟨t, items, m, rfl, e2, e3⟩ := p; exact IsiPair.tuple_str e2.1 rfl fin) q
theorem v_iIS {i : Int} (q : k (.bool false) σ) : VC g tb d (.bi "isinstance") [.int i, .ty "str"] σ k := v_isi (fun p fin => by obtain ⟨t, rfl⟩ := p; exact IsiPair.int_str fin) q

/-! ### lists -/
theorem v_app {a : Addr} {x : V} {l : List V} (ha : σ a = some (.list l)) (h : l.length ≤ big) (q : k .none (upd σ a (.list (l ++ [x])))) : VC g tb d (.bi "list.append") [.ref a, x] σ k := ⟨fun _ => ⟨fun {A s fv vs} r o p q' => by
  cases p
  obtain ⟨v, u, rfl, e1, e4⟩ := two_args q'
  cases e1
  obtain ⟨items, m, y⟩ := list_at o ha
  refine call_meets F.slot_list_append ⟨_, y.il, rfl⟩ F.entry_list_append (F.args_list_append_2 _ _) (list_append a items m u (by rw [y.vl.size]; exact big_line h)) ⟨y.il, ?_⟩
  exact CPost.turn (x := V.none) (c' := .list (l ++ [x])) (tk := s.toks) o (some_none ha) (fun b y n e => (Heap.get?_update_other _ _ (Ne.symm n)).trans e) (y.il.update _) (fun σ' h' kp => ⟨_, _, rfl, by rw [Array.toList_push]; exact (y.vl.keep kp).append ⟨u, [], rfl, e4.keep kp, rfl⟩⟩) (fun _ => rfl) q⟩⟩
theorem VRs.snoc {h : Heap} {l : List V} {x : V} {vs : List Value} (e : VRs g σ h (l ++ [x]) vs) : ∃ ws w, vs = ws ++ [w] ∧ VRs g σ h l ws ∧ VR g σ h x w := by
  induction l generalizing vs with
  | nil =>
    obtain ⟨v, rfl, p⟩ := one_arg e
    exact ⟨[], v, rfl, rfl, p⟩
  | cons y l ih =>
    obtain ⟨v, r, rfl, e2, e3⟩ := e
    obtain ⟨ws, w, rfl, e4, e5⟩ := ih e3
    exact ⟨v :: ws, w, rfl, ⟨v, ws, rfl, e2, e4⟩, e5⟩
theorem pop_last {items : Array Value} {ws : List Value} {w : Value} (e : items.toList = ws ++ [w]) : items[items.size - 1]? = some w ∧ (items.eraseIdxIfInBounds (items.size - 1)).toList = ws := by
  obtain ⟨l⟩ := items
  cases (show l = ws ++ [w] from e)
  have hs : (Array.mk (ws ++ [w])).size - 1 = ws.length := by show (ws ++ [w]).length - 1 = _; rw [List.length_append]; rfl
  have hl : ws.length < (Array.mk (ws ++ [w])).size := by show _ < (ws ++ [w]).length; rw [List.length_append]; exact Nat.lt_succ_self _
  rw [hs]
  refine ⟨?_, ?_⟩
  · rw [List.getElem?_toArray, List.getElem?_append_right (Nat.le_refl _), Nat.sub_self]; rfl
  · rw [Array.eraseIdxIfInBounds, dif_pos hl, Array.toList_eraseIdx]
    show (ws ++ [w]).eraseIdx ws.length = ws
    rw [List.eraseIdx_append_of_length_le (Nat.le_refl _), Nat.sub_self]
    exact List.append_nil _
theorem v_pop {a : Addr} {x : V} {l : List V} (ha : σ a = some (.list (l ++ [x]))) (h : l.length < big) (q : k x (upd σ a (.list l))) : VC g tb d (.bi "list.pop") [.ref a] σ k := ⟨fun _ => ⟨fun {A s fv vs} r o p q' => by
  cases p
  obtain ⟨v, rfl, e⟩ := one_arg q'
  cases e
  obtain ⟨items, m, y⟩ := list_at o ha
  obtain ⟨ws, w, e1, e2, e3⟩ := y.vl.snoc
  obtain ⟨y1, y2⟩ := pop_last e1
  refine call_meets F.slot_list_pop ⟨_, y.il, rfl⟩ F.entry_list_pop (F.args_list_pop_1 _) (MeetsSeq.list_pop_last a items m w y1 (by rw [y.vl.size, List.length_append]; exact big_line h)) ⟨y.il, ?_⟩
  exact CPost.turn (x := x) (c' := .list l) (tk := s.toks) o (some_none ha) (fun b y n e => (Heap.get?_update_other _ _ (Ne.symm n)).trans e) (y.il.update _) (fun σ' h' kp => ⟨_, _, rfl, by rw [y2]; exact e2.keep kp⟩) (fun kp => e3.keep kp) q⟩⟩
theorem v_pop0 {a : Addr} {x : V} {l : List V} (ha : σ a = some (.list (x :: l))) (h : (x :: l).length ≤ big) (q : k x (upd σ a (.list l))) : VC g tb d (.bi "list.pop") [.ref a, .int 0] σ k := ⟨fun _ => ⟨fun {A s fv vs} r o p q' => by
  cases p
  obtain ⟨v, u, rfl, e, ⟨t, rfl⟩⟩ := two_args q'
  cases e
  obtain ⟨⟨items⟩, m, y⟩ := list_at o ha
  obtain ⟨w, ws, e1, e2, e3⟩ := y.vl
  cases (show items = w :: ws from e1)
  refine call_meets F.slot_list_pop ⟨_, y.il, rfl⟩ F.entry_list_pop (F.args_list_pop_2 _ _) (MeetsSeq.list_pop_at a _ m 0 t 0 w (by decide) (seqIndex_nat (i := 0) (n := (Array.mk (w :: ws)).size) (Nat.succ_pos ws.length)) rfl (by rw [y.vl.size]; exact big_line h)) ⟨y.il, ?_⟩
  exact CPost.turn (x := x) (c' := .list l) (tk := s.toks) o (some_none ha) (fun b y n e => (Heap.get?_update_other _ _ (Ne.symm n)).trans e) (y.il.update _) (fun σ' h' kp => ⟨_, _, rfl, by rw [show ((Array.mk (w :: ws)).eraseIdxIfInBounds 0).toList = ws by rw [Array.eraseIdxIfInBounds, dif_pos (show 0 < (Array.mk (w :: ws)).size from Nat.succ_pos _), Array.toList_eraseIdx]; rfl]; exact e3.keep kp⟩) (fun kp => e2.keep kp) q⟩⟩
theorem v_ext {a b : Addr} {l m : List V} (ha : σ a = some (.list l)) (hb : σ b = some (.list m)) (h : l.length + m.length ≤ big) (q : k .none (upd σ a (.list (l ++ m)))) : VC g tb d (.bi "list.extend") [.ref a, .ref b] σ k := ⟨fun _ => ⟨fun {A s fv vs} r o p q' => by
  cases p
  obtain ⟨v, u, rfl, e1, e4⟩ := two_args q'
  cases e1; cases e4
  obtain ⟨items, n1, y⟩ := list_at o ha
  obtain ⟨items2, n2, z⟩ := list_at o hb
  have hl : items.size + items2.size ≤ sizeLine := by rw [y.vl.size, z.vl.size]; exact big_line h
  refine call_meets F.slot_list_extend ⟨_, y.il, rfl⟩ F.entry_list_extend (F.args_list_extend_2 _ _) (AutoSeq1.list_extend_list_list_0 a items n1 b items2 n2 ?_ (Nat.le_trans (Nat.le_add_right _ _) hl) (Nat.le_succ_of_le hl)) ⟨y.il, z.il, ?_⟩
  · rw [Bool.and_eq_true_iff, show Builtin.List.listTooLong (items.size + items2.size) = false from decide_eq_false (Nat.not_lt.mpr hl)]
    exact fun z => by cases z.2
  · exact CPost.turn (x := V.none) (c' := .list (l ++ m)) (tk := s.toks) o (some_none ha) (fun b y n e => (Heap.get?_update_other _ _ (Ne.symm n)).trans e) (y.il.update _) (fun σ' h' kp => ⟨_, _, rfl, by rw [Array.toList_append]; exact (y.vl.keep kp).append (z.vl.keep kp)⟩) (fun _ => rfl) q⟩⟩
theorem v_rev {a : Addr} {l : List V} (ha : σ a = some (.list l)) (h : l.length ≤ big) (q : k .none (upd σ a (.list l.reverse))) : VC g tb d (.bi "list.reverse") [.ref a] σ k := ⟨fun _ => ⟨fun {A s fv vs} r o p q' => by
  cases p
  obtain ⟨v, rfl, e⟩ := one_arg q'
  cases e
  obtain ⟨items, m, y⟩ := list_at o ha
  refine call_meets F.slot_list_reverse ⟨_, y.il, rfl⟩ F.entry_list_reverse (F.args_list_reverse_1 _) (AutoSeq1.list_reverse_list_0 a items m (by rw [y.vl.size]; exact big_line h)) ⟨y.il, ?_⟩
  exact CPost.turn (x := V.none) (c' := .list l.reverse) (tk := s.toks) o (some_none ha) (fun b y n e => (Heap.get?_update_other _ _ (Ne.symm n)).trans e) (y.il.update _) (fun σ' h' kp => ⟨_, _, rfl, by rw [Array.toList_reverse]; exact (y.vl.keep kp).reverse⟩) (fun _ => rfl) q⟩⟩

/-! ### texts -/
theorem v_sw {x y : Str} (q : k (.bool (Txt.startswith x y)) σ) : VC g tb d (.bi "str.startswith") [.str x, .str y] σ k := ⟨fun _ => ⟨fun {A s fv vs} r o p q' => by
  cases p
  obtain ⟨v, u, rfl, ⟨t, rfl⟩, ⟨t', rfl⟩⟩ := two_args q'
  exact SC.startswith (CPost.same (x := V.bool _) (tk := s.toks) o rfl q)⟩⟩
theorem strVals_of {h : Heap} {ss : List Str} {vs : List Value} (r : VRs g σ h (ss.map .str) vs) : ∃ p : List (Str × Tok), vs = strValues p ∧ p.map (·.1) = ss := by
  induction ss generalizing vs with
  | nil => cases (show vs = [] from r); exact ⟨[], rfl, rfl⟩
  | cons x ss ih =>
    obtain ⟨v, w, rfl, ⟨t, rfl⟩, e3⟩ := r
    obtain ⟨p, rfl, rfl⟩ := ih e3
    exact ⟨(x, t) :: p, rfl, rfl⟩
theorem v_join {x : Str} {a : Addr} {ss : List Str} (ha : σ a = some (.list (ss.map .str))) (hj : JoinOk x ss = true) (q : k (.str (Txt.join x ss)) σ) : VC g tb d (.bi "str.join") [.str x, .ref a] σ k := ⟨fun _ => ⟨fun {A s fv vs} r o p q' => by
  cases p
  obtain ⟨v, u, rfl, ⟨t, rfl⟩, e⟩ := two_args q'
  cases e
  obtain ⟨items, m, y⟩ := list_at o ha
  obtain ⟨pp, y1, y2⟩ := strVals_of y.vl
  refine SC.join (l := pp) (texts := ss) ?_ y2 hj fun t' kk => CPost.same (x := V.str _) o ⟨_, rfl⟩ q
  rw [← y1, Array.toArray_toList]; exact y.il.isList⟩⟩

/-! ### range, list, int -/
theorem v_rg {a b : Int} {A : Around} {s : Shared} {v : Value} {ob : Obj} {tk : Nat} (o : HOk g σ s.heap) (q : k (.rng a b) σ) (h : VR g σ (s.heap.push ob) (.rng a b) v) : CPost g σ s k v { s with heap := s.heap.push ob, toks := tk } :=
  .mk (V.rng a b) σ _ tk (o.grow fun _ _ e => Heap.get?_push_of_some _ e) (ev_push ob) h q
theorem v_rg1 {b : Int} (q : k (.rng 0 b) σ) : VC g tb d (.ty "range") [.int b] σ k := ⟨fun _ => ⟨fun {A s fv vs} r o p q' => by
  cases p
  obtain ⟨v, rfl, t, rfl⟩ := one_arg q'
  exact call_range_1 (v_rg (A := A) o q ⟨_, _, _, _, _, rfl, U_push o _ rfl, rfl⟩)⟩⟩
theorem v_rg2 {a b : Int} (q : k (.rng a b) σ) : VC g tb d (.ty "range") [.int a, .int b] σ k := ⟨fun _ => ⟨fun {A s fv vs} r o p q' => by
  cases p
  obtain ⟨v, u, rfl, ⟨t, rfl⟩, ⟨t', rfl⟩⟩ := two_args q'
  exact call_range_2 (v_rg (A := A) o q ⟨_, _, _, _, _, rfl, U_push o _ rfl, rfl⟩)⟩⟩
theorem v_int {b : Int} (q : k (.int b) σ) : VC g tb d (.ty "int") [.int b] σ k := ⟨fun _ => ⟨fun {A s fv vs} r o p q' => by
  cases p
  obtain ⟨v, rfl, t, rfl⟩ := one_arg q'
  exact call_int_int (CPost.same (x := V.int _) (tk := s.toks) o ⟨_, rfl⟩ q)⟩⟩
theorem range_items {a : Int} {n : Nat} {vs : List Value} {h : Heap} (m : Nat) (e : vs.length = n) (f : ∀ j v, vs[j]? = some v → ∃ t, v = Value.int (a + ((m + j : Nat) : Int)) t) : VRs g σ h ((List.range' m n).map fun (i : Nat) => V.int (a + (i : Int))) vs := by
  induction n generalizing m vs with
  | zero => exact List.length_eq_zero_iff.mp e
  | succ n ih =>
    cases vs with
    | nil => cases e
    | cons v vs =>
      exact ⟨v, vs, rfl, f 0 v rfl, ih (m + 1) (Nat.succ.inj e) fun j u q => by
        obtain ⟨t, w⟩ := f (j + 1) u q
        exact ⟨t, by rw [w, Nat.add_assoc m 1 j, Nat.add_comm 1 j]⟩⟩
theorem range_small {a b : Int} (h : 0 ≤ a ∧ a ≤ big ∧ 0 ≤ b ∧ b ≤ big) : Builtin.Range.small a b 1 = true ∧ Builtin.Range.rangeSize a b 1 = ((b - a).toNat : Int) ∧ (b - a).toNat ≤ big := by
  have hb : big = 16000000 := rfl
  refine ⟨small_one (by omega) (by omega) (by omega) (by omega), ?_, Int.toNat_le.mpr (Int.le_trans (Int.sub_le_self b h.1) h.2.2.2)⟩
  show (if a < b then (b - a - 1) / 1 + 1 else 0) = _
  split <;> omega
theorem v_lst {a b : Int} (h : 0 ≤ a ∧ a ≤ big ∧ 0 ≤ b ∧ b ≤ big) (q : ∀ c, σ c = none → k (.ref c) (upd σ c (.list (rangeV a b)))) : VC g tb d (.ty "list") [.rng a b] σ k := ⟨fun _ => ⟨fun {A s fv vs} r o p q' => by
  cases p
  obtain ⟨v, rfl, rr, ob, t, u, w, rfl, e2, rfl⟩ := one_arg q'
  obtain ⟨s1, s2, s3⟩ := range_small h
  refine call_list_range r.handled e2.1 (n := (b - a).toNat) s1 s2 (Nat.le_trans s3 (by decide)) fun h' tk acc c kk e it => ?_
  refine CPost.turn (x := V.ref _) (c' := .list (rangeV a b)) o (fun _ => Heap.get?_none_of_le (Nat.le_refl _)) (fun b y _ e => kk b y e) e (fun σ' h' kp => ⟨_, _, rfl, ?_⟩) (fun _ => rfl) (q _ o.none_size)
  unfold rangeV
  rw [List.range_eq_range']
  refine range_items 0 ((Array.length_toList).trans it.1) fun j v e => ?_
  obtain ⟨t, w⟩ := it.2 j v (by rw [← Array.getElem?_toList]; exact e)
  exact ⟨t, by rw [w, Int.mul_one, Nat.zero_add]⟩⟩⟩
end
end Mine

namespace Mine

/-! ## methods -/
/-- what a method's look-up gives -/
inductive QM (g : GE) (σ : Sto) (k : V → List V → Prop) (x : V × List V) : Sto → Prop
  | mk (kp : Keeps g x.1) (q : k x.1 x.2) : QM g σ k x σ
noncomputable def RM (g : GE) : Sto → Heap → V × List V → Value × List Value → Prop := fun σ h x a => VR g σ h x.1 a.1 ∧ VRs g σ h x.2 a.2
structure VM (g : GE) (tb : TB) (o : V) (n : Str) (σ : Sto) (k : V → List V → Prop) : Prop where
  run : ∀ {d env ρ ov pl}, TOk g tb → W g d env (RM g) (T1 g o ov) ρ σ (getMethod ov n pl) (QE ρ (QM g σ k))

/-! ## an object is made -/
section
variable {g : GE} {tb : TB} {d : Nat} {σ : Sto}
theorem units_cls (a : Addr) (vs : List Value) : (Code.builtin "type.__call__" ⟨.ref a :: vs, []⟩).cUnits ≤ 8 := by
  rw [show (Code.builtin "type.__call__" ⟨.ref a :: vs, []⟩).cUnits = 1 by kernel_rfl]; decide
theorem v_cls {cn : Str} {fi : FnI} {args : List V} {k : V → Sto → Prop} (hc : tb.ct cn = some fi)
    (h : ∀ x dx, σ x = none → σ dx = none → x ≠ dx → CallC g d fi (.ref x :: args) (upd (upd σ dx (.dict [])) x (.inst cn dx)) (fun r σ' => r = .none ∧ k (.ref x) σ')) :
    VC g tb (d + 1) (.cls cn) args σ k := ⟨fun ok => ⟨fun {A s fv vs} r o p q => by
  cases p
  have c := ok.ct _ _ hc
  obtain ⟨f, f1, f2, f3⟩ := c.init
  obtain ⟨hp, gn, dr, tk, os⟩ := s
  refine wpAny_call (make_core (makes_of o.inK c.makes) (looks_findIn o.inK f1) (fun self => bind_fn o.inK self f2) (.inl rfl) ?_)
  have hf1 : hp.get? hp.objs.size = none := Heap.get?_none_of_le (Nat.le_refl _)
  have hf2 : (hp.push emptyDict).get? (hp.objs.size + 1) = none := Heap.get?_none_of_le (by rw [Heap.size_push]; exact Nat.le_refl _)
  have gx : ((hp.push emptyDict).push (instObj (g.fa cn) hp.objs.size)).get? (hp.objs.size + 1) = some (instObj (g.fa cn) hp.objs.size) := by
    have := Heap.get?_push_size (h := hp.push emptyDict) (o := instObj (g.fa cn) hp.objs.size) rfl
    rwa [Heap.size_push] at this
  have k1 : ∀ b y, b ≠ hp.objs.size → hp.get? b = some y → (hp.push emptyDict).get? b = some y := fun b y _ e => Heap.get?_push_of_some _ e
  have k2 : ∀ b y, b ≠ hp.objs.size + 1 → (hp.push emptyDict).get? b = some y → ((hp.push emptyDict).push (instObj (g.fa cn) hp.objs.size)).get? b = some y := fun b y _ e => Heap.get?_push_of_some _ e
  have o1 : HOk g (upd σ hp.objs.size (.dict [])) (hp.push emptyDict) := o.upd k1 (fun _ => hf1) (Heap.get?_push_size _ rfl) ⟨[], 0, rfl, rfl⟩
  have o2 := o1.upd (c := .inst cn hp.objs.size) k2 (fun _ => hf2) gx rfl
  have ev : Ev none σ hp (upd (upd σ hp.objs.size (.dict [])) (hp.objs.size + 1) (.inst cn hp.objs.size)) ((hp.push emptyDict).push (instObj (g.fa cn) hp.objs.size)) := (ev_upd k1 fun _ => hf1).trans (ev_upd k2 fun _ => hf2)
  have rm : Rm (A.under (.builtin "type.__call__" ⟨.ref (g.fa cn) :: vs, []⟩)) d := ⟨by
      have := r.depth
      have e : (A.under (.builtin "type.__call__" ⟨.ref (g.fa cn) :: vs, []⟩)).depth = A.depth + 1 := rfl
      omega, by
      have := r.units
      have e : (A.under (.builtin "type.__call__" ⟨.ref (g.fa cn) :: vs, []⟩)).units ≤ A.units + 8 := Nat.add_le_add_left (units_cls _ _) _
      omega, r.handled⟩
  refine codeAny_mono ((h (hp.objs.size + 1) hp.objs.size (o.fresh (Heap.get?_none_of_le (Nat.le_succ _))) (o.fresh hf1) (Nat.succ_ne_self _)).run rm (s := ⟨(hp.push emptyDict).push (instObj (g.fa cn) hp.objs.size), gn, dr, tk, os⟩) (f := f) (vs := .ref (hp.objs.size + 1) :: vs) o2 (f3.keep o2.kpBase) ⟨_, _, rfl, rfl, q.keep ev.kp0⟩) fun r s' z => ?_
  cases z with | mk z => cases z with | mk y σ' h' tk' e2 e3 e4 q =>
  cases q.1
  exact ⟨e4, .mk (.ref _) σ' h' tk' e2 (ev.trans e3) rfl q.2⟩⟩⟩
end
section
variable {g : GE} {tb : TB} {d : Nat} {env : Env} {ρ : Loc} {σ : Sto} {k : V → Sto → Prop} {KM : V → List V → Prop}
theorem m_list {a : Addr} {l : List V} {n : Str} {id : String} (S : Slot "list" n id) (T : typeOf (Value.builtin id) = pure (Value.type "method_descriptor")) (ha : σ a = some (.list l)) (q : KM (.bi id) [.ref a]) : VM g tb (.ref a) n σ KM := ⟨fun ok A s r i p => by
  cases p
  obtain ⟨items, m, y⟩ := list_at i.ok ha
  exact getMethod_list_of S T y.il.isList ⟨_, y.il, rfl⟩ (Post.here (x := (V.bi id, [V.ref a])) i ⟨rfl, _, [], rfl, rfl, rfl⟩ ⟨⟨keeps_bi, q⟩⟩)⟩
theorem m_app {a : Addr} {l : List V} (h : σ a = some (.list l)) (q : KM (.bi "list.append") [.ref a]) : VM g tb (.ref a) ("append" : Str) σ KM := m_list PySem.F.slot_list_append PySem.F.type_list_append h q
theorem m_pop {a : Addr} {l : List V} (h : σ a = some (.list l)) (q : KM (.bi "list.pop") [.ref a]) : VM g tb (.ref a) ("pop" : Str) σ KM := m_list PySem.F.slot_list_pop PySem.F.type_list_pop h q
theorem m_ext {a : Addr} {l : List V} (h : σ a = some (.list l)) (q : KM (.bi "list.extend") [.ref a]) : VM g tb (.ref a) ("extend" : Str) σ KM := m_list PySem.F.slot_list_extend PySem.F.type_list_extend h q
theorem m_rev {a : Addr} {l : List V} (h : σ a = some (.list l)) (q : KM (.bi "list.reverse") [.ref a]) : VM g tb (.ref a) ("reverse" : Str) σ KM := m_list PySem.F.slot_list_reverse PySem.F.type_list_reverse h q
theorem m_sw {x : Str} (q : KM (.bi "str.startswith") [.str x]) : VM g tb (.str x) ("startswith" : Str) σ KM := ⟨fun ok A s r i p => by
  obtain ⟨t, rfl⟩ := p
  exact GM.startswith (Post.here (x := (V.bi "str.startswith", [V.str x])) i ⟨rfl, _, [], rfl, ⟨t, rfl⟩, rfl⟩ ⟨⟨keeps_bi, q⟩⟩)⟩
theorem m_join {x : Str} (q : KM (.bi "str.join") [.str x]) : VM g tb (.str x) ("join" : Str) σ KM := ⟨fun ok A s r i p => by
  obtain ⟨t, rfl⟩ := p
  exact GM.join (Post.here (x := (V.bi "str.join", [V.str x])) i ⟨rfl, _, [], rfl, ⟨t, rfl⟩, rfl⟩ ⟨⟨keeps_bi, q⟩⟩)⟩
theorem m_inst {a dx : Addr} {cn n : Str} {l : List (Str × V)} {i : FnI} (ha : σ a = some (.inst cn dx)) (hm : tb.mt cn n = some i) (hd : σ dx = some (.dict l)) (hn : find n l = none) (q : KM (.fn i) [.ref a]) : VM g tb (.ref a) n σ KM := ⟨fun ok A s r iv p => by
  cases p
  obtain ⟨f, f1, f2, f3, f4, f5⟩ := ok.mt _ _ _ hm
  obtain ⟨es, m, I, E, _⟩ := inst_at iv.ok ha hd
  exact method_fn iv.ok.inK I f4 f5 f1 f2 (by show (lookIn n (dictOf es m)).map _ = _; rw [lookIn_dict, entR_getN E hn]; rfl)
    (Post.here (x := (V.fn i, [V.ref a])) iv ⟨f3.keep iv.ok.kpBase, _, [], rfl, rfl, rfl⟩ ⟨⟨keeps_fn, q⟩⟩)⟩

noncomputable def baseNotAttr : Expr → Bool
  | .Attribute .. => false
  | _ => true
noncomputable def baseOk : Expr → Bool
  | .Call f args kws _ => (match f with
    | .Name _ _ => !(args.isEmpty && kws.isEmpty)
    | _ => true)
  | _ => true
theorem base_whole {o : Expr} {n : Str} {t : Sem Value} (h : baseOk o = true) : attributeBase o n env t = t := by
  cases o with
  | Call f args kws p => cases f with
    | Name x q => cases args with
      | nil => cases kws with
        | nil => cases h
        | cons _ _ => rfl
      | cons _ _ => rfl
    | _ => rfl
  | _ => rfl
theorem notStar_all {pos : Pos} {args : List Expr} (h : noStars args = true) : ((backTo pos (starEach args env)).all fun x => !x.1) = true := by
  induction args with
  | nil => rfl
  | cons e r ih =>
    have h' := Bool.and_eq_true_iff.mp (show ((!isStar e) && noStars r) = true from h)
    rw [starEach_cons (by simpa using h'.1)]
    exact ih h'.2
theorem eval_method {o : Expr} {n : Str} {apos pos : Pos} {args : List Expr} (hb : baseOk o = true) (hs : noStars args = true) (hl : args.length < 30) (hp : (apos.endLine == pos.line) = true) :
    ∃ pl, eval (.Call (.Attribute o n apos) args [] pos) env = (do
      let ov ← eval o env
      standAt apos.atName
      let fx ← holding [ov] (getMethod ov n pl)
      callWith pos fx.1 fx.2 (backTo pos (starEach args env)) []) := by
  refine ⟨do return (← importBound o env).getD true, ?_⟩
  have e : eval (.Call (.Attribute o n apos) args [] pos) env = (do
    let ov ← attributeBase o n env (eval o env)
    standAt apos.atName
    methodCall o n apos pos env ov (args.length + 0) (backTo pos (starEach args env)) []) := rfl
  have hf : methodCallForm (args.length + 0) (backTo pos (starEach args env)) [] = true := by
    unfold methodCallForm
    rw [notStar_all hs]
    simp; omega
  rw [e, base_whole hb]
  unfold methodCall
  rw [hf]
  have hc : methodCallPos true o env apos pos = pure pos := by
    unfold methodCallPos
    simp only [Bool.not_true, Bool.false_or, hp, if_true]
  rw [hc]
  rfl
theorem c_meth (ok : TOk g tb) {o : Expr} {n : Str} {apos pos : Pos} {args : List Expr} (hb : baseOk o = true) (hs : noStars args = true) (hl : args.length < 30) (hp : (apos.endLine == pos.line) = true)
    (h : XE g d env ρ σ o fun x σ₁ => VM g tb x n σ₁ fun f fx => WEs g d env T0 ρ σ₁ (spliced (backTo pos (starEach args env))) (fun xs σ₂ => VC g tb d f (fx ++ xs) σ₂ k)) :
    XE g d env ρ σ (.Call (.Attribute o n apos) args [] pos) k := by
  obtain ⟨pl, e⟩ := eval_method (env := env) hb hs hl hp
  rw [XE, e]
  refine WE.next h fun x σ₁ v q => W.stand ?_
  refine W.bind pers_VR (W.holding (q.run ok)) fun y ρ' σ' fs z => ?_
  cases z with | mk z => cases z with | mk kp z =>
  exact (W_callWith kp hs (z.kk fun xs σ'' z => z.run ok)).weaken fun _ _ p => p.2
/-- a call of what is no attribute -/
theorem c_callE (ok : TOk g tb) {f : Expr} {pos : Pos} {args : List Expr} {k₁ : V → Sto → Prop} (ha : baseNotAttr f = true) (hs : noStars args = true) (h : XE g d env ρ σ f k₁)
    (m : ∀ x σ₁, k₁ x σ₁ → Keeps g x ∧ WEs g d env T0 ρ σ₁ (spliced (backTo pos (starEach args env))) (fun xs σ₂ => VC g tb d x xs σ₂ k)) :
    XE g d env ρ σ (.Call f args [] pos) k := by
  have e : eval (.Call f args [] pos) env = (do callWith pos (← eval f env) [] (backTo pos (starEach args env)) []) := by
    cases f <;> first | rfl | cases ha
  rw [XE, e]
  refine WE.next h fun x σ₁ v q => ?_
  obtain ⟨kp, z⟩ := m x σ₁ q
  exact (W_callWith (fx := []) kp hs (z.kk fun xs σ'' z => z.run ok)).weaken fun _ _ p => ⟨p, rfl⟩
theorem c_attr (ok : TOk g tb) {o : Expr} {n : Str} {pos : Pos} (hb : baseOk o = true) (h : XE g d env ρ σ o fun x σ₁ => VG g tb x n σ₁ fun v => k v σ₁) : XE g d env ρ σ (.Attribute o n pos) k := by
  show WE g d env T0 ρ σ (do
    let ov ← attributeBase o n env (eval o env)
    standAt pos.atName
    let r ← holding [ov] (getAttr ov n true)
    letTemporaryGo o ov r
    pure r) k
  rw [base_whole hb]
  refine WE.next h fun x σ₁ v q => W.stand ?_
  refine W.bind pers_VR (W.holding (q.run ok)) fun y ρ' σ' u z A s r i p => ?_
  cases z with | mk z => cases z with | mk z =>
  exact wpAny_bind (wpAny_letTemporaryGo (wpAny_pure (Post.here i p.2 ⟨z⟩)))
end
end Mine

namespace Mine

inductive Fl where
  | next | brk | cont
  | ret (v : V)
noncomputable def FR (g : GE) (σ : Sto) (h : Heap) : Fl → Flow → Prop
  | .next, f => f = .next
  | .brk, f => f = .brk
  | .cont, f => f = .cont
  | .ret x, f => ∃ v, f = .ret v ∧ VR g σ h x v
abbrev WF (g : GE) (d : Nat) (env : Env) (P : Sto → Heap → Prop) (ρ : Loc) (σ : Sto) (t : Sem Flow) (k : Fl → Loc → Sto → Prop) : Prop := W g d env (FR g) P ρ σ t k
abbrev XS (g : GE) (d : Nat) (env : Env) (ρ : Loc) (σ : Sto) (st : Stmt) (k : Fl → Loc → Sto → Prop) : Prop := WF g d env T0 ρ σ (exec st env) k
abbrev XSs (g : GE) (d : Nat) (env : Env) (ρ : Loc) (σ : Sto) (st : List Stmt) (k : Fl → Loc → Sto → Prop) : Prop := WF g d env T0 ρ σ (execs st env) k

/-! ## stores -/
structure SX (g : GE) (d : Nat) (env : Env) (x : Str) (v : V) (ρ : Loc) (σ : Sto) (k : Loc → Sto → Prop) : Prop where
  run : ∀ {u}, WU g d env (T1 g v u) ρ σ (storeName env x u) k
section
variable {g : GE} {tb : TB} {d : Nat} {env : Env} {ρ : Loc} {σ : Sto}
theorem sx_loc (he : EnvOk env) {x : Str} {v : V} {k : Loc → Sto → Prop} (hk : env.kindOf x = some .local) (q : k (ρ.set (ixN x env.scope.names) (some v)) σ) : SX g d env x v ρ σ k := ⟨fun {u} A s r i pv => by
  obtain ⟨m, n, f⟩ := i.fr
  refine wpAny_storeName_local hk n (fun h' hn hs => ?_) (by rw [he.kind]; rfl)
  have keep : ∀ b y, b ≠ env.locals → s.heap.get? b = some y → h'.get? b = some y := fun b y ne e => (hs.2 b ne).trans e
  have ev : Ev (some env.locals) σ s.heap σ h' := fun b y ne u => ⟨keep b y (fun e => ne (by rw [e])) u.1, u.2⟩
  have kp := ev.kp i
  refine .mk () _ σ h' _ ⟨⟨fun b y e => ⟨keep b y (fun q => ?_) (i.ok.keep b y e), (i.ok.base b y e).2⟩, fun a c e => ?_⟩, ⟨_, hn, fun y w e => ?_⟩, i.loc, i.above⟩ ev trivial q
  · exact Nat.not_lt.mpr i.above (q ▸ Heap.lt_size e)
  · obtain ⟨y, e1, e2⟩ := i.ok.rep a c e
    exact ⟨y, keep a y (i.loc_ne e) e1, e2.keep kp⟩
  · rcases LocAt.put hk e with ⟨hy, rfl⟩ | ⟨hy, e⟩
    · exact ⟨u, if_pos hy, pv.keep kp⟩
    · obtain ⟨w', a, b⟩ := f y w e
      exact ⟨w', (if_neg hy).trans a, b.keep kp⟩⟩
theorem sx_cel (he : EnvOk env) {x : Str} {v : V} {c : Addr} {v₀ : Option V} {k : Loc → Sto → Prop} (hk : env.kindOf x = some .cell) (hc : env.cells.lookup x = some c) (hv : σ c = some (.cell v₀)) (q : k ρ (upd σ c (.cell (some v)))) : SX g d env x v ρ σ k := ⟨fun A s r i pv => by
  obtain ⟨o, f1, w, f2, _⟩ := i.ok.rep _ _ hv
  refine wpAny_storeName_cell he.kind hk hc ⟨o, f1, f2⟩ fun h' hv' hs => ?_
  obtain ⟨o', g1, g2⟩ := hv'
  exact Post.turn (x := ()) (c' := .cell (some v)) (tk := s.toks) i (some_none hv) (fun b y ne e => (hs.2 b ne).trans e) g1 (fun σ' h' kp => ⟨some _, g2, pv.keep kp⟩) trivial q⟩
theorem SX.bind {x : Str} {v : V} {k : Loc → Sto → Prop} (h : SX g d env x v ρ σ k) {u : Value} : WU g d env (T1 g v u) ρ σ (bindName env x u) k := fun A s r i pv => wpAny_bindName (h.run A s r i pv)
theorem SX.name {x : Str} {v : V} {pos : Pos} {k : Loc → Sto → Prop} (h : SX g d env x v ρ σ k) {u : Value} : WU g d env (T1 g v u) ρ σ (assign (.Name x pos) env u) k := fun A s r i p => wpAny_assign_Name (h.run A s r i p)
/-- two targets, one behind the other -/
theorem W_two {t1 t2 : Value → Sem Unit} {a b : V} {us : List Value} {k₁ k : Loc → Sto → Prop} (h1 : ∀ {u}, WU g d env (T1 g a u) ρ σ (t1 u) k₁) (h2 : ∀ {u ρ₁ σ₁}, k₁ ρ₁ σ₁ → WU g d env (T1 g b u) ρ₁ σ₁ (t2 u) k) :
    WU g d env (fun σ h => VRs g σ h [a, b] us) ρ σ (assignInOrder [t1, t2] us) k := fun A s r i p => by
  obtain ⟨u1, us, rfl, p1, p2⟩ := p
  obtain ⟨u2, rfl, p3⟩ := one_arg p2
  refine wpAny_bind (wpAny_holding (h1.run r i p1 fun _ ρ₁ σ₁ h₁ tk _ i₁ ev _ q => ?_))
  exact wpAny_bind (wpAny_holding ((h2 q).run (s := { s with heap := h₁, toks := tk }) r i₁ (p3.keep (ev.kp i)) fun _ ρ₂ σ₂ h₂ tk₂ _ i₂ ev₂ _ q₂ => wpAny_pure (.mk () ρ₂ σ₂ h₂ tk₂ i₂ (ev.trans ev₂) trivial q₂)))
theorem VRs.isTup {l : List V} {v : Value} {h : Heap} (p : VR g σ h (.tup l) v) : ∃ t items, v = .ref t ∧ IsTup h t items ∧ VRs g σ h l items.toList := by
  obtain ⟨t, items, n, rfl, e2, e3⟩ := p
  exact ⟨t, items, rfl, ⟨_, e2.1, rfl, n, rfl⟩, e3⟩
theorem grow_ext {h h' : Heap} (x : Heap.ExtBut h.objs.size h h') : ∀ b o, h.get? b = some o → h'.get? b = some o := fun b o e => x b o (Nat.ne_of_lt (Heap.lt_size e)) e
theorem tgt_tuple {x y : Str} {px py tp : Pos} {kk : Nat} {a b : V} {u : Value} {k : Loc → Sto → Prop} (h : SX g d env x a ρ σ fun ρ₁ σ₁ => SX g d env y b ρ₁ σ₁ k) :
    WU g d env (T1 g (.tup [a, b]) u) ρ σ (assign (.Tuple [.Name x px, .Name y py] kk tp) env u) k := fun A s r i pv => by
  obtain ⟨t, items, rfl, ht, hr⟩ := VRs.isTup pv
  rw [arm_assign_Tuple]
  refine wpAny_bind (wpAny_standAt (unpack_tuple r.handled ht (by rw [hr.size]; rfl) rfl fun h'' hx => ?_))
  have kg := grow_ext hx
  refine (W_two (t1 := assign (.Name x px) env) (t2 := assign (.Name y py) env) h.name (fun q => q.name)).run (s := { s with heap := h'' }) r (i.grow kg) (hr.keep (kp_of_grow kg)) fun _ ρ₂ σ₂ h₂ tk₂ _ i₂ ev₂ _ q₂ => ?_
  exact .mk () ρ₂ σ₂ h₂ tk₂ i₂ ((ev_grow kg).trans ev₂) trivial q₂

/-! ## statements -/
noncomputable def notComp : Expr → Bool
  | .ListComp .. | .SetComp .. | .DictComp .. => false
  | _ => true
theorem swaps_no {e : Expr} {t : Option Expr} {l : Nat} (h : notComp e = true) : swapsWith e t l env = pure false := by
  cases e <;> first | rfl | cases h
theorem inter_no (he : EnvOk env) : interactive env = false := by
  unfold interactive
  rw [he.kind]; rfl
variable {k : Fl → Loc → Sto → Prop}
theorem s_nil (q : k .next ρ σ) : XSs g d env ρ σ [] k := fun A s r i p => wpAny_execs_nil (Post.here (x := Fl.next) i rfl q)
/-- what a statement's rest makes of its end -/
noncomputable def thenF (A : Loc → Sto → Prop) (k : Fl → Loc → Sto → Prop) (f : Fl) (ρ : Loc) (σ : Sto) : Prop := match f with
  | .next => A ρ σ
  | f => k f ρ σ
set_option backward.match.sparseCases true in
theorem s_cons {st : Stmt} {rest : List Stmt} (h : XS g d env ρ σ st (thenF (fun ρ σ => XSs g d env ρ σ rest k) k)) : XSs g d env ρ σ (st :: rest) k := by
  have e : execs (st :: rest) env = (do
    match ← exec st env with
    | .next => execs rest env
    | f => pure f) := rfl
  rw [XSs, e]
  refine W.bind pers_T0 h fun f ρ₁ σ₁ fl q A s r i p => ?_
  cases f with
  | next => cases (show fl = _ from p.2); exact q A s r i trivial
  | brk => cases (show fl = _ from p.2); exact wpAny_pure (Post.here (x := Fl.brk) i rfl q)
  | cont => cases (show fl = _ from p.2); exact wpAny_pure (Post.here (x := Fl.cont) i rfl q)
  | ret x =>
    obtain ⟨v, rfl, pv⟩ := p.2
    exact wpAny_pure (Post.here (x := Fl.ret x) i ⟨v, rfl, pv⟩ q)
theorem s_expr (he : EnvOk env) {e : Expr} {pos : Pos} (hc : notComp e = true) (h : XE g d env ρ σ e fun _ σ₁ => k .next ρ σ₁) : XS g d env ρ σ (.Expr e pos) k := fun A s r i p =>
  wpAny_Expr_any (h.runE r i trivial fun x σ' h' tk v i' ev rr q => .mk Fl.next ρ σ' h' tk i' ev rfl q) (inter_no he) (swaps_no hc)
theorem s_return {e : Expr} {pos : Pos} (h : XE g d env ρ σ e fun x σ₁ => k (.ret x) ρ σ₁) : XS g d env ρ σ (.Return (some e) pos) k := fun A s r i p =>
  wpAny_Return_some (h.runE r i trivial fun x σ' h' tk v i' ev rr q => .mk (Fl.ret x) ρ σ' h' tk i' ev ⟨v, rfl, rr⟩ q)
theorem s_return0 {pos : Pos} (q : k (.ret .none) ρ σ) : XS g d env ρ σ (.Return none pos) k := fun A s r i p =>
  wpAny_Return_none (Post.here (x := Fl.ret .none) i ⟨_, rfl, rfl⟩ q)
theorem s_continue {pos : Pos} (q : k .cont ρ σ) : XS g d env ρ σ (.Continue pos) k := fun A s r i p =>
  wpAny_bind (wpAny_standAt (wpAny_pure (Post.here (x := Fl.cont) i rfl q)))
theorem s_if {t : Expr} {a b : List Stmt} {pos : Pos} (h : XT g d env ρ σ t fun c σ₁ => Br c (XSs g d env ρ σ₁ a k) (XSs g d env ρ σ₁ b k)) : XS g d env ρ σ (.If t a b pos) k := fun A s r i p =>
  wpAny_If (h.runE r i trivial fun x σ' h' tk c i' ev rr q => by
    cases (show x = c from rr)
    cases x with
    | false => exact wpAny_mono (q A { s with heap := h', toks := tk } r i' trivial) (fun _ _ z => z.after ev) fun _ _ e => e
    | true => exact wpAny_mono (q A { s with heap := h', toks := tk } r i' trivial) (fun _ _ z => z.after ev) fun _ _ e => e)
/-- an expression, then a step that is done with -/
theorem W.thenU {e : Expr} {k₁ : V → Sto → Prop} {f : Value → Sem Unit} {A : Around} {s : Shared} (r : Rm A d) (i : Inv g env ρ σ s.heap) (h : XE g d env ρ σ e k₁) (n : ∀ {x σ₁ v}, k₁ x σ₁ → WU g d env (T1 g x v) ρ σ₁ (f v) (k .next)) :
    wpAny g.M A (eval e env) (fun v s₁ => wpAny g.M A (f v) (fun _ => Post g env (FR g) σ s k .next) NoE s₁) NoE s :=
  h.runE r i trivial fun x σ' h' tk v i' ev rr q => (n q).run (s := { s with heap := h', toks := tk }) r i' rr fun _ ρ₂ σ₂ h₂ tk₂ _ i₂ ev₂ _ q₂ => .mk Fl.next ρ₂ σ₂ h₂ tk₂ i₂ (ev.trans ev₂) rfl q₂
theorem s_assign {x : Str} {e : Expr} {tp pos : Pos} (hc : notComp e = true) (h : XE g d env ρ σ e fun v σ₁ => SX g d env x v ρ σ₁ (k .next)) : XS g d env ρ σ (.Assign [.Name x tp] e pos) k := fun A s r i p =>
  wpAny_Assign_Name (W.thenU r i h fun q => q.run) (swaps_no hc)
end
end Mine

namespace Mine

noncomputable def constsOk : Expr → Bool
  | .Tuple vs _ _ => !(vs.all (constantsAlone 8))
  | _ => true
section
variable {g : GE} {tb : TB} {d : Nat} {env : Env} {ρ : Loc} {σ : Sto} {k : Fl → Loc → Sto → Prop}
noncomputable def locAt (env : Env) (line : Nat) : Expr → Option Str
  | .Name id pos => if env.kindOf id == some .local && pos.line == line then some id else none
  | _ => none
theorem loc_names {x y : Str} {px py : Pos} {l : Nat} : ([Expr.Name x px, .Name y py].filterMap (locAt env l)).length ≠ 2 ∨ ([Expr.Name x px, .Name y py].filterMap (locAt env l) = [x, y] ∧ env.kindOf x = some .local ∧ env.kindOf y = some .local) := by
  rw [List.filterMap_cons, List.filterMap_cons]
  cases h1 : (env.kindOf x == some .local && px.line == l) with
  | false =>
    rw [show locAt env l (.Name x px) = none by show (if _ = true then _ else _) = _; rw [h1]; rfl]
    cases locAt env l (.Name y py) with
    | none => exact .inl (by show 0 ≠ 2; decide)
    | some z => exact .inl (by show 1 ≠ 2; decide)
  | true =>
    rw [show locAt env l (.Name x px) = some x by show (if _ = true then _ else _) = _; rw [h1]; rfl]
    cases h2 : (env.kindOf y == some .local && py.line == l) with
    | false => rw [show locAt env l (.Name y py) = none by show (if _ = true then _ else _) = _; rw [h2]; rfl]; exact .inl (by show 1 ≠ 2; decide)
    | true =>
      rw [show locAt env l (.Name y py) = some y by show (if _ = true then _ else _) = _; rw [h2]; rfl]
      exact .inr ⟨rfl, eq_of_beq (Bool.and_eq_true_iff.mp h1).1, eq_of_beq (Bool.and_eq_true_iff.mp h2).1⟩
set_option backward.match.sparseCases true in
theorem swapped_cases {x y : Str} {px py tp : Pos} {value : Expr} {kk : Nat} (hc : constsOk value = true) :
    swappedStores [.Tuple [.Name x px, .Name y py] kk tp] value env = pure none ∨ (swappedStores [.Tuple [.Name x px, .Name y py] kk tp] value env = pure (some [x, y]) ∧ env.kindOf x = some .local ∧ env.kindOf y = some .local) := by
  cases value with
  | Tuple vs k2 p2 =>
    have e : swappedStores [.Tuple [.Name x px, .Name y py] kk tp] (.Tuple vs k2 p2) env = (do
      if !([Expr.Name x px, .Name y py].length == 2 || [Expr.Name x px, .Name y py].length == 3) || vs.length != [Expr.Name x px, .Name y py].length || env.blockKind != .function then return none
      if vs.any fun | .Starred .. => true | _ => false then return none
      let names := [Expr.Name x px, .Name y py].filterMap (locAt env px.line)
      if names.length != 2 || names.eraseDups.length != names.length then return none
      if vs.all (foldedForSure 8) then return none
      if vs.all (constantsAlone 8) then unsupported "assign.tuple-of-constant-expressions:order-of-the-stores"
      return some names) := rfl
    rw [e, (Bool.not_eq_true' _).mp hc]
    dsimp only
    split
    · exact .inl rfl
    split
    · exact .inl rfl
    rcases loc_names (env := env) (x := x) (y := y) (px := px) (py := py) (l := px.line) with h | ⟨h, h1, h2⟩
    · rw [if_pos (by rw [bne_iff_ne.mpr h]; rfl)]; exact .inl rfl
    · rw [h]
      split
      · exact .inl rfl
      split
      · exact .inl rfl
      · exact .inr ⟨rfl, h1, h2⟩
  | _ => exact .inl rfl
theorem s_tuple {x y : Str} {px py : Pos} {value : Expr} {kk : Nat} {tp pos : Pos} (hc : constsOk value = true) (hv : notComp value = true)
    (h : XE g d env ρ σ value fun v σ₁ => ∃ a b, v = .tup [a, b] ∧ SX g d env x a ρ σ₁ (fun ρ₂ σ₂ => SX g d env y b ρ₂ σ₂ (k .next)) ∧ (env.kindOf x = some .local → env.kindOf y = some .local → SX g d env y b ρ σ₁ fun ρ₂ σ₂ => SX g d env x a ρ₂ σ₂ (k .next))) :
    XS g d env ρ σ (.Assign [.Tuple [.Name x px, .Name y py] kk tp] value pos) k := fun A s r i p => by
  have hsw : swapsWithSole [.Tuple [.Name x px, .Name y py] kk tp] value pos.line env = pure false := by unfold swapsWithSole; exact swaps_no hv
  rcases swapped_cases (env := env) (kk := kk) (tp := tp) hc with hw | ⟨hw, h1, h2⟩
  · refine wpAny_Assign_stores ?_ hsw hw
    refine W.thenU (f := assign (.Tuple [.Name x px, .Name y py] kk tp) env) r i h fun q => ?_
    obtain ⟨a, b, rfl, q, _⟩ := q
    exact tgt_tuple q
  · refine Assign_Tuple_swapped (names := [x, y]) (h.runE r i trivial fun v σ' h' tk u i' ev rr q => ?_) hsw hw
    obtain ⟨a, b, rfl, _, q⟩ := q
    obtain ⟨t, items, rfl, ht, hr⟩ := VRs.isTup rr
    rw [show [x, y].length = items.size from hr.size.symm]
    refine unpackItems_tuple r.handled ht fun h'' hx => ?_
    have kg := grow_ext hx
    refine (W_two (t1 := bindName env y) (t2 := bindName env x) (q h1 h2).bind fun q => q.bind).run (s := { s with heap := h'', toks := tk }) r (i'.grow kg) (VRs.reverse (hr.keep (kp_of_grow kg))) fun _ ρ₂ σ₂ h₂ tk₂ _ i₂ ev₂ _ q₂ => ?_
    exact .mk Fl.next ρ₂ σ₂ h₂ tk₂ i₂ ((ev.trans (ev_grow kg)).trans ev₂) rfl q₂

/-! ### attributes and items -/
theorem s_setAttr (ok : TOk g tb) {o e : Expr} {n : Str} {tp pos : Pos} (hv : notComp e = true) (h : XE g d env ρ σ e fun v σ₁ => XE g d env ρ σ₁ o fun x σ₂ => VS g tb x n v σ₂ fun σ₃ => k .next ρ σ₃) :
    XS g d env ρ σ (.Assign [.Attribute o n tp] e pos) k := fun A s r i p => by
  refine plainObj_wpAny_Assign_Attribute (h.runE r i trivial fun v σ₁ h₁ tk₁ u i₁ ev₁ rv q => ?_) (swaps_no hv)
  refine q.runE (s := { s with heap := h₁, toks := tk₁ }) r i₁ trivial fun x σ₂ h₂ tk₂ ov i₂ ev₂ rx q => ?_
  refine (q.run ok).run (s := { s with heap := h₂, toks := tk₂ }) r i₂ ⟨rv.keep (ev₂.kp i₁), rx⟩ fun _ ρ₃ σ₃ h₃ tk₃ _ i₃ ev₃ _ q => ?_
  cases q with | mk q => exact .mk Fl.next ρ σ₃ h₃ tk₃ i₃ ((ev₁.trans ev₂).trans ev₃) rfl q
noncomputable def putM (x : Str) (v : V) (l : List (Str × V)) : List (Str × V) := if l.any (fun kv => kv.1 = x) then l.map (fun kv => if kv.1 = x then (kv.1, v) else kv) else l ++ [(x, v)]
theorem kv_any {h : Heap} {x : Str} {l : List (Str × V)} {kvs : List (Str × Value)} (e : KvR g σ h l kvs) : (kvs.any fun kv => kv.1 = x) = (l.any fun kv => kv.1 = x) := by
  induction l generalizing kvs with
  | nil => cases (show kvs = [] from e); rfl
  | cons p l ih =>
    obtain ⟨u, r, rfl, e2, e3⟩ := e
    rw [List.any_cons, List.any_cons, ih e3]
theorem kv_map {h : Heap} {x : Str} {v : V} {u : Value} (p : VR g σ h v u) {l : List (Str × V)} {kvs : List (Str × Value)} (e : KvR g σ h l kvs) :
    KvR g σ h (l.map (fun kv => if kv.1 = x then (kv.1, v) else kv)) (kvs.map (fun kv => if kv.1 = x then (kv.1, u) else kv)) := by
  induction l generalizing kvs with
  | nil => cases (show kvs = [] from e); rfl
  | cons q l ih =>
    obtain ⟨w, r, rfl, e2, e3⟩ := e
    rw [List.map_cons, List.map_cons]
    by_cases hq : q.1 = x
    · rw [if_pos hq, if_pos hq]; exact ⟨u, _, rfl, p, ih e3⟩
    · rw [if_neg hq, if_neg hq]; exact ⟨w, _, rfl, e2, ih e3⟩
theorem kv_snoc {h : Heap} {x : Str} {v : V} {u : Value} (p : VR g σ h v u) {l : List (Str × V)} {kvs : List (Str × Value)} (e : KvR g σ h l kvs) : KvR g σ h (l ++ [(x, v)]) (kvs ++ [(x, u)]) := by
  induction l generalizing kvs with
  | nil => cases (show kvs = [] from e); exact ⟨u, [], rfl, p, rfl⟩
  | cons q l ih =>
    obtain ⟨w, r, rfl, e2, e3⟩ := e
    exact ⟨w, _, rfl, e2, ih e3⟩
theorem kv_put {h : Heap} {x : Str} {v : V} {u : Value} (p : VR g σ h v u) {l : List (Str × V)} {kvs : List (Str × Value)} (q : KvR g σ h l kvs) : KvR g σ h (putM x v l) (stored kvs x u) := by
  unfold putM stored
  rw [kv_any q]
  by_cases e : (l.any fun kv => kv.1 = x) = true
  · rw [if_pos e, if_pos e]; exact kv_map p q
  · rw [if_neg e, if_neg e]; exact kv_snoc p q
theorem kv_length {h : Heap} {l : List (Str × V)} {kvs : List (Str × Value)} (e : KvR g σ h l kvs) : kvs.length = l.length := by
  induction l generalizing kvs with
  | nil => cases (show kvs = [] from e); rfl
  | cons q l ih => obtain ⟨w, r, rfl, e2, e3⟩ := e; exact congrArg Nat.succ (ih e3)
structure VI (g : GE) (o i x : V) (σ : Sto) (k : Sto → Prop) : Prop where
  run : ∀ {d env ρ ov jv xv}, WU g d env (fun σ h => VR g σ h o ov ∧ VR g σ h i jv ∧ VR g σ h x xv) ρ σ (setItem ov jv xv) (QU ρ k)
theorem VRs.set {h : Heap} {x : V} {u : Value} (p : VR g σ h x u) {l : List V} {vs : List Value} {n : Nat} (e : VRs g σ h l vs) : VRs g σ h (l.set n x) (vs.set n u) := by
  induction l generalizing vs n with
  | nil => cases (show vs = [] from e); exact rfl
  | cons y l ih =>
    obtain ⟨v, r, rfl, e2, e3⟩ := e
    cases n with
    | zero => exact ⟨u, r, rfl, p, e3⟩
    | succ n => exact ⟨v, _, rfl, e2, ih e3⟩
theorem i_list {a : Addr} {l : List V} {j : Nat} {x : V} {KS : Sto → Prop} (ha : σ a = some (.list l)) (h1 : j < l.length) (h2 : l.length ≤ big) (q : KS (upd σ a (.list (l.set j x)))) : VI g (.ref a) (.int j) x σ KS := ⟨fun A s r i p => by
  obtain ⟨e, ⟨t, rfl⟩, p3⟩ := p
  cases e
  obtain ⟨items, n, y⟩ := list_at i.ok ha
  refine ki_setAt (n := n) y.il (Int.natCast_nonneg j) (Int.lt_trans (Int.ofNat_lt.mpr h1) (big_63 h2)) (by rw [y.vl.size]; exact Int.ofNat_lt.mpr h1) ?_
  exact Post.turn (x := ()) (c' := .list (l.set j x)) (tk := s.toks) i (some_none ha) (fun b y n e => (Heap.get?_update_other _ _ (Ne.symm n)).trans e) (y.il.update _) (fun σ' h' kp => ⟨_, _, rfl, by rw [Array.toList_setIfInBounds]; exact VRs.set (p3.keep kp) (y.vl.keep kp)⟩) trivial ⟨q⟩⟩
theorem i_map {a : Addr} {l : List (Str × V)} {y : Str} {x : V} {KS : Sto → Prop} (ha : σ a = some (.map l)) (h : l.length ≤ 100000) (q : KS (upd σ a (.map (putM y x l)))) : VI g (.ref a) (.str y) x σ KS := ⟨fun A s r i p => by
  obtain ⟨e, ⟨t, rfl⟩, p3⟩ := p
  cases e
  obtain ⟨kvs, m1, m2⟩ := map_at i.ok ha
  refine wpAny_setItem_pairs (strKind_is _ _ _ _) m1 (fun h' hd hs => ?_) ?_
  case refl.refine_2 => rw [kv_length m2]; exact Nat.le_trans h (by decide)
  obtain ⟨o', g1, g2⟩ := Heap.dictOf_iff.mp hd
  exact Post.turn (x := ()) (c' := .map (putM y x l)) i (some_none ha) (fun b y' ne e => (hs.2 b ne).trans e) g1 (fun σ' h' kp => ⟨_, g2, kv_put (p3.keep kp) (m2.keep kp)⟩) trivial ⟨q⟩⟩
theorem s_setItem {o j e : Expr} {tp pos : Pos} (hv : notComp e = true) (h : XE g d env ρ σ e fun v σ₁ => XE g d env ρ σ₁ o fun x σ₂ => XE g d env ρ σ₂ j fun y σ₃ => VI g x y v σ₃ fun σ₄ => k .next ρ σ₄) :
    XS g d env ρ σ (.Assign [.Subscript o j tp] e pos) k := fun A s r i p => by
  refine wpAny_Assign_Subscript (h.runE r i trivial fun v σ₁ h₁ tk₁ u i₁ ev₁ rv q => ?_) (swaps_no hv)
  refine q.runE (s := { s with heap := h₁, toks := tk₁ }) r i₁ trivial fun x σ₂ h₂ tk₂ ov i₂ ev₂ rx q => ?_
  refine q.runE (s := { s with heap := h₂, toks := tk₂ }) r i₂ trivial fun y σ₃ h₃ tk₃ jv i₃ ev₃ ry q => ?_
  refine q.run.run (s := { s with heap := h₃, toks := tk₃ }) r i₃ ⟨rx.keep (ev₃.kp i₂), ry, (rv.keep (ev₂.kp i₁)).keep (ev₃.kp i₂)⟩ fun _ ρ₃ σ₄ h₄ tk₄ _ i₄ ev₄ _ q => ?_
  cases q with | mk q => exact .mk Fl.next ρ σ₄ h₄ tk₄ i₄ (((ev₁.trans ev₂).trans ev₃).trans ev₄) rfl q

/-! ### x += e -/
theorem W_inplace {A : Around} {s : Shared} {a b : Int} {v u : Value} {Q : Value → Shared → Prop} (p : VR g σ s.heap (.int a) v) (q : VR g σ s.heap (.int b) u) (h : ∀ w tk, VR g σ s.heap (.int (a + b)) w → Q w { s with toks := tk }) : wpAny g.M A (inplaceOp .Add v u) Q NoE s := by
  obtain ⟨t, rfl⟩ := p; obtain ⟨t', rfl⟩ := q
  exact PyProof.Rows.iadd_int (h _ _ ⟨_, rfl⟩)
theorem s_augName {x : Str} {e : Expr} {tp pos : Pos} (he : EnvOk env) {a : Int} (hx : LocAt env ρ x (.int a))
    (h : XE g d env ρ σ e fun y σ₁ => ∃ b, y = .int b ∧ k .next (ρ.set (ixN x env.scope.names) (some (.int (a + b)))) σ₁) : XS g d env ρ σ (.AugAssign (.Name x tp) .Add e pos) k := fun A s r i p => by
  refine wpAny_AugAssign_Name ((W_loadL (P := T0) (k := fun w σ' => w = .int a ∧ σ' = σ) he hx ⟨rfl, rfl⟩).runE r i trivial fun v σ₁ h₁ tk₁ u i₁ ev₁ rv q => ?_)
  obtain ⟨rfl, rfl⟩ := q
  refine h.runE (s := { s with heap := h₁, toks := tk₁ }) r i₁ trivial fun y σ₂ h₂ tk₂ w i₂ ev₂ ry q => ?_
  obtain ⟨b, rfl, q⟩ := q
  refine W_inplace (s := { s with heap := h₂, toks := tk₂ }) (rv.keep (ev₂.kp i₁)) ry fun w tk rw => ?_
  exact (sx_loc (k := k .next) he hx.k q).run.run (s := { s with heap := h₂, toks := tk }) r i₂ rw fun _ ρ₃ σ₃ h₃ tk₃ _ i₃ ev₃ _ q => .mk Fl.next ρ₃ σ₃ h₃ tk₃ i₃ ((ev₁.trans ev₂).trans ev₃) rfl q
theorem s_augAttr (ok : TOk g tb) {o e : Expr} {n : Str} {tp pos : Pos}
    (h : XE g d env ρ σ o fun x σ₁ => VG g tb x n σ₁ fun v => XE g d env ρ σ₁ e fun y σ₂ => ∃ a b, v = .int a ∧ y = .int b ∧ VS g tb x n (.int (a + b)) σ₂ fun σ₃ => k .next ρ σ₃) :
    XS g d env ρ σ (.AugAssign (.Attribute o n tp) .Add e pos) k := fun A s r i p => by
  refine wpAny_AugAssign_AttributeAny (h.runE r i trivial fun x σ₁ h₁ tk₁ ov i₁ ev₁ rx q => ?_)
  refine (q.run ok).runE (s := { s with heap := h₁, toks := tk₁ }) r i₁ rx fun v σ₂ h₂ tk₂ old i₂ ev₂ rv q => ?_
  cases q with | mk q =>
  refine q.runE (s := { s with heap := h₂, toks := tk₂ }) r i₂ trivial fun y σ₃ h₃ tk₃ u i₃ ev₃ ry q => ?_
  obtain ⟨a, b, rfl, rfl, q⟩ := q
  refine W_inplace (s := { s with heap := h₃, toks := tk₃ }) (rv.keep (ev₃.kp i₂)) ry fun w tk rw => ?_
  refine (q.run ok).run (s := { s with heap := h₃, toks := tk }) r i₃ ⟨rw, (rx.keep (ev₂.kp i₁)).keep (ev₃.kp i₂)⟩ fun _ ρ₄ σ₄ h₄ tk₄ _ i₄ ev₄ _ q => ?_
  cases q with | mk q => exact .mk Fl.next ρ σ₄ h₄ tk₄ i₄ (((ev₁.trans ev₂).trans ev₃).trans ev₄) rfl q
end
end Mine

namespace Mine

/-- what is gone through, item by item -/
inductive Its (σ : Sto) : V → List V → Prop
  | list {a l} (e : σ a = some (.list l)) : Its σ (.ref a) l
  | tup {l} : Its σ (.tup l) l
  | rng {a b : Int} (h : 0 ≤ a ∧ a ≤ big ∧ 0 ≤ b ∧ b ≤ big) : Its σ (.rng a b) (rangeV a b)
  | str {s : Str} (h : s.cps.all (· < 128) = true) : Its σ (.str s) (s.cps.toList.map fun c => .str ⟨#[c]⟩)
noncomputable def ItO (i : Nat) (x : V) (v : Value) (o : Obj) : Prop := match x with
  | .ref a => o.cls = .type "list_iterator" ∧ o.data = .fields #[.ref a, .int i 0]
  | .tup _ => ∃ t, v = .ref t ∧ o.cls = .type "tuple_iterator" ∧ o.data = .fields #[.ref t, .int i 0]
  | .rng a b => o = { cls := .type "range_iterator", dict := none, data := .fields #[rawInt (a + i), rawInt (((b - a).toNat : Int) - i), rawInt 1], slots := #[] }
  | .str s => ∃ t, o.cls = .type "str_ascii_iterator" ∧ o.data = .fields #[.str s t, .int i 0]
  | _ => False
theorem ItO.iter {x : V} {v : Value} {i : Nat} {o : Obj} (h : ItO i x v o) : ¬ notIter o ∧ notDict o := by
  have key : ∀ {T : String} {fs : Array Value} {b : Int} {u : Tok}, o.cls = .type T → T ≠ "range" → o.data = .fields fs → fs[1]? = some (.int b u) → ¬ notIter o ∧ notDict o := fun e1 e2 e3 e4 => by
    refine ⟨fun n => ?_, fun es n e => by rw [e3] at e; cases e⟩
    rcases n _ e3 with ⟨q, t, z⟩ | z
    · rw [e4] at z; cases z
    · rw [e1] at z; cases z; exact e2 rfl
  cases x with
  | ref a => exact key h.1 (by decide) h.2 rfl
  | tup l => obtain ⟨t, _, h1, h2⟩ := h; exact key h1 (by decide) h2 rfl
  | rng a b => cases (show o = _ from h); exact key (T := "range_iterator") rfl (by decide) rfl rfl
  | str s => obtain ⟨t, h1, h2⟩ := h; exact key h1 (by decide) h2 rfl
  | _ => exact h.elim
structure IterAt (g : GE) (σ : Sto) (h : Heap) (x : V) (v : Value) (it : Addr) (i : Nat) : Prop where
  ob : ∃ o, U σ h it o ∧ ItO i x v o
  above : g.h₀.get? it = none
  src : VR g σ h x v

section
variable {g : GE} {tb : TB} {d : Nat} {env : Env} {ρ : Loc} {σ : Sto} {k : Fl → Loc → Sto → Prop}

theorem Inv.but {h h' : Heap} {it : Addr} {o : Obj} (i : Inv g env ρ σ h) (hu : U σ h it o) (hi : ¬ notIter o ∧ notDict o) (hb : g.h₀.get? it = none) (k : ∀ b y, b ≠ it → h.get? b = some y → h'.get? b = some y) :
    Inv g env ρ σ h' ∧ Kp σ h σ h' := by
  have kp : Kp σ h σ h' := fun b y _ ni u => ⟨k b y (fun e => by subst e; cases hu.1.symm.trans u.1; exact hi.1 ni) u.1, u.2⟩
  obtain ⟨m, ⟨y, es, ep, e1, e2, e3⟩, q⟩ := i.fr
  refine ⟨⟨⟨fun b y e => ⟨k b y (fun q => by subst q; cases hb.symm.trans e) (i.ok.base b y e).1, (i.ok.base b y e).2⟩, fun a c e => ?_⟩, ⟨m, ⟨y, es, ep, k _ _ (fun q => ?_) e1, e2, e3⟩, fun z v e => ?_⟩, i.loc, i.above⟩, kp⟩
  · obtain ⟨y, e1, e2⟩ := i.ok.rep a c e
    exact ⟨y, k a y (fun q => by subst q; cases hu.2.symm.trans e) e1, e2.keep kp⟩
  · rw [q] at e1; cases hu.1.symm.trans e1
    exact hi.2 es ep e2
  · obtain ⟨u, e1, e2⟩ := q z v e
    exact ⟨u, e1, e2.keep kp⟩
theorem IterAt.ne {h : Heap} {x : V} {v : Value} {it : Addr} {i : Nat} (z : IterAt g σ h x v it i) (iv : Inv g env ρ σ h) : it ≠ env.locals := fun e => by
  obtain ⟨o, u, io⟩ := z.ob
  obtain ⟨m, ⟨y, es, ep, e1, e2, e3⟩, q⟩ := iv.fr
  rw [e] at u
  cases u.1.symm.trans e1
  exact io.iter.2 es ep e2
theorem IterAt.keep {σ' : Sto} {h h' : Heap} {x : V} {v : Value} {it : Addr} {i : Nat} (z : IterAt g σ h x v it i) (iv : Inv g env ρ σ h) (ev : Ev (some env.locals) σ h σ' h') : IterAt g σ' h' x v it i := by
  have hne := z.ne iv
  obtain ⟨o, u, io⟩ := z.ob
  exact ⟨⟨o, ev it o (fun e => hne (Option.some.inj e)) u, io⟩, z.above, z.src.keep (ev.kp iv)⟩
theorem U_new {h : Heap} (o : HOk g σ h) {x : Obj} (hf : x.isFreed = false) : U σ (h.push x) h.objs.size x ∧ g.h₀.get? h.objs.size = none := by
  refine ⟨U_push o x hf, ?_⟩
  cases q : g.h₀.get? h.objs.size with
  | none => rfl
  | some z => have := (o.base _ _ q).1; rw [Heap.get?_none_of_le (Nat.le_refl _)] at this; cases this

/-- an iterator is made -/
theorem iter_of {A : Around} {s : Shared} {x : V} {v : Value} {l : List V} {E : Value → Shared → Prop} {Q : Value → Shared → Prop} (i : Inv g env ρ σ s.heap) (p : VR g σ s.heap x v) (hx : Its σ x l)
    (hQ : ∀ o, IterAt g σ (s.heap.push o) x v s.heap.objs.size 0 → Q (.ref s.heap.objs.size) { s with heap := s.heap.push o }) : wpAny g.M A (pyIter v) Q E s := by
  have fin : ∀ {o : Obj}, o.isFreed = false → ItO 0 x v o → Q (.ref s.heap.objs.size) { s with heap := s.heap.push o } := fun {o} hf io =>
    hQ o ⟨⟨o, (U_new i.ok hf).1, io⟩, (U_new i.ok hf).2, p.keep (kp_of_grow fun _ _ e => Heap.get?_push_of_some _ e)⟩
  cases hx with
  | list e =>
    cases p
    obtain ⟨items, n, y⟩ := list_at i.ok e
    exact wpAny_pyIter_list y.il.isList (fin rfl ⟨rfl, rfl⟩)
  | tup =>
    obtain ⟨t, items, n, rfl, e2, e3⟩ := id p
    exact iter_tuple (items := items) ⟨_, e2.1, rfl, n, rfl⟩ (fin rfl ⟨t, rfl, rfl, rfl⟩)
  | @rng a b h =>
    obtain ⟨r, ob, t, u, w, rfl, e2, rfl⟩ := id p
    obtain ⟨s1, s2, _⟩ := range_small h
    refine wpAny_pyIter_range e2.1 s1 (fin rfl ?_)
    show Obj.mk .. = Obj.mk ..
    rw [show a + ((0 : Nat) : Int) = a from Int.add_zero a, show ((b - a).toNat : Int) - ((0 : Nat) : Int) = _ from Int.sub_zero _, ← s2]
  | str h =>
    obtain ⟨t, rfl⟩ := id p
    exact wpAny_pyIter_ascii h (fin rfl ⟨t, rfl, rfl⟩)

theorem range_get {a b : Int} {n : Nat} {y : V} (hy : (rangeV a b)[n]? = some y) : y = .int (a + n) ∧ n < (b - a).toNat := by
  unfold rangeV at hy
  rw [List.getElem?_map] at hy
  obtain ⟨m, e1, e2⟩ := Option.map_eq_some_iff.mp hy
  obtain ⟨h1, h2⟩ := List.getElem?_eq_some_iff.mp e1
  rw [List.getElem_range] at h2
  rw [List.length_range] at h1
  exact ⟨by rw [← e2, h2], h1⟩
/-- one item more -/
theorem next_of {A : Around} {s : Shared} {x : V} {v : Value} {it : Addr} {n : Nat} {l : List V} {y : V} {E : Value → Shared → Prop} {Q : Option Value → Shared → Prop} (i : Inv g env ρ σ s.heap) (z : IterAt g σ s.heap x v it n) (hx : Its σ x l) (hy : l[n]? = some y)
    (hQ : ∀ u h' tk, Inv g env ρ σ h' → (∀ b y, b ≠ it → s.heap.get? b = some y → h'.get? b = some y) → IterAt g σ h' x v it (n + 1) → VR g σ h' y u → Q (some u) { s with heap := h', toks := tk }) :
    wpAny g.M A (pyNext (.ref it)) Q E s := by
  obtain ⟨⟨o, u, io⟩, z2, p⟩ := id z
  have fin : ∀ {w h' tk o'}, Heap.SameBut it s.heap h' → h'.get? it = some o' → ItO (n + 1) x v o' → (Kp σ s.heap σ h' → VR g σ h' y w) → Q (some w) { s with heap := h', toks := tk } := fun {w h' tk o'} sb e1 e2 e3 => by
    have k : ∀ b y, b ≠ it → s.heap.get? b = some y → h'.get? b = some y := fun b y ne e => (sb.2 b ne).trans e
    obtain ⟨i', kp⟩ := i.but u io.iter z2 k
    exact hQ w h' tk i' k ⟨⟨o', ⟨e1, u.2⟩, e2⟩, z2, p.keep kp⟩ (e3 kp)
  cases hx with
  | list e =>
    cases p
    obtain ⟨h1, h2⟩ := io
    obtain ⟨items, m, t⟩ := list_at i.ok e
    obtain ⟨w, f1, f2⟩ := t.vl.get hy
    exact wpAny_pyNext_list_item (items := items) ⟨o, u.1, h1, h2⟩ t.il.isList (by rw [← Array.getElem?_toList]; exact f1) fun h' e sb => by
      obtain ⟨o', g1, g2, g3⟩ := e
      exact fin sb g1 ⟨g2, g3⟩ fun kp => f2.keep kp
  | tup =>
    obtain ⟨t, items, m, rfl, e2, e3⟩ := p
    obtain ⟨t', e1, h1, h2⟩ := io
    cases e1
    obtain ⟨w, f1, f2⟩ := e3.get hy
    exact next_tuple_item (items := items) ⟨o, u.1, h1, h2⟩ ⟨_, e2.1, rfl, m, rfl⟩ (by rw [← Array.getElem?_toList]; exact f1) fun h' e sb => by
      obtain ⟨o', g1, g2, g3⟩ := e
      exact fin sb g1 ⟨_, rfl, g2, g3⟩ fun kp => f2.keep kp
  | @rng a b h =>
    cases (show o = _ from io)
    obtain ⟨rfl, hn⟩ := range_get hy
    refine wpAny_pyNext_range_item (it := it) (x := a + n) (left := ((b - a).toNat : Int) - n) (step := 1) u.1 (Int.sub_pos.mpr (Int.ofNat_lt.mpr hn)) fun h' g1 sb => fin sb g1 ?_ fun kp => ⟨_, rfl⟩
    show Obj.mk .. = Obj.mk ..
    rw [show a + ((n + 1 : Nat) : Int) = a + n + 1 from (Int.add_assoc a n 1).symm, show ((b - a).toNat : Int) - ((n + 1 : Nat) : Int) = ((b - a).toNat : Int) - n - 1 from Int.sub_sub _ n 1 |>.symm]
  | str h =>
    obtain ⟨t, h1, h2⟩ := io
    rw [List.getElem?_map] at hy
    obtain ⟨c, c1, rfl⟩ := Option.map_eq_some_iff.mp hy
    exact wpAny_pyNext_ascii_item (c := c) ⟨o, u.1, h1, h2⟩ (by rw [← Array.getElem?_toList]; exact c1) fun h' e sb => by
      obtain ⟨o', g1, g2, g3⟩ := e
      exact fin sb g1 ⟨_, g2, g3⟩ fun kp => ⟨_, rfl⟩
/-- the end -/
theorem next_end {A : Around} {s : Shared} {x : V} {v : Value} {it : Addr} {l : List V} {E : Value → Shared → Prop} {Q : Option Value → Shared → Prop} (hh : A.handled = none) (i : Inv g env ρ σ s.heap) (z : IterAt g σ s.heap x v it l.length) (hx : Its σ x l)
    (hQ : ∀ h', Inv g env ρ σ h' → (∀ b y, b ≠ it → s.heap.get? b = some y → h'.get? b = some y) → Q none { s with heap := h' }) :
    wpAny g.M A (pyNext (.ref it)) Q E s := by
  obtain ⟨⟨o, u, io⟩, z2, p⟩ := id z
  have fin : ∀ h', Heap.ExtBut it s.heap h' → Q none { s with heap := h' } := fun h' sb => hQ h' (i.but u io.iter z2 fun b y ne e => sb b y ne e).1 fun b y ne e => sb b y ne e
  cases hx with
  | list e =>
    cases p
    obtain ⟨h1, h2⟩ := io
    obtain ⟨items, m, t⟩ := list_at i.ok e
    exact wpAny_pyNext_list_end (items := items) hh ⟨o, u.1, h1, h2⟩ t.il.isList (by rw [← t.vl.size]; exact Array.getElem?_eq_none (Nat.le_refl _)) fin
  | tup =>
    obtain ⟨t, items, m, rfl, e2, e3⟩ := p
    obtain ⟨t', e1, h1, h2⟩ := io
    cases e1
    exact next_tuple_end (items := items) hh ⟨o, u.1, h1, h2⟩ ⟨_, e2.1, rfl, m, rfl⟩ (by rw [← e3.size]; exact Array.getElem?_eq_none (Nat.le_refl _)) fin
  | @rng a b h =>
    cases (show o = _ from io)
    refine wpAny_pyNext_range_end (it := it) hh u.1 ?_ fin
    have hl : (rangeV a b).length = (b - a).toNat := by unfold rangeV; rw [List.length_map, List.length_range]
    rw [hl, Int.sub_self]; decide
  | str h =>
    obtain ⟨t, h1, h2⟩ := io
    exact wpAny_pyNext_ascii_end hh ⟨o, u.1, h1, h2⟩ (by rw [List.length_map, Array.length_toList]; exact Array.getElem?_eq_none (Nat.le_refl _)) fin

/-! ## loops -/
/-- where a loop stands ahead of a turn -/
inductive LoopI (g : GE) (env : Env) (s : Shared) (σ₁ : Sto) (h₁ : Heap) (x : V) (v : Value) (it : Addr) (l : List V) (J : Nat → Loc → Sto → Prop) (m : Nat) : Shared → Prop
  | mk {i : Nat} {ρ' : Loc} {σ' : Sto} {h' : Heap} {tk : Nat} (iv : Inv g env ρ' σ' h') (ev : Ev (some env.locals) σ₁ h₁ σ' h') (ia : IterAt g σ' h' x v it i) (em : m = l.length - i) (le : i ≤ l.length) (j : J i ρ' σ') : LoopI g env s σ₁ h₁ x v it l J m { s with heap := h', toks := tk }
theorem ev_it {σ₁ σ' : Sto} {h₁ h' h₂ : Heap} {L : Option Addr} {it : Addr} (hit : h₁.get? it = none) (ev : Ev L σ₁ h₁ σ' h') (kk : ∀ b y, b ≠ it → h'.get? b = some y → h₂.get? b = some y) : Ev L σ₁ h₁ σ' h₂ := fun b y ne ub =>
  ⟨kk b y (fun q => by have z := ub.1; rw [q, hit] at z; cases z) (ev b y ne ub).1, (ev b y ne ub).2⟩
theorem LoopI.next {A : Around} {s s' : Shared} {σ₁ : Sto} {h₁ : Heap} {x : V} {v : Value} {it : Addr} {l : List V} {J : Nat → Loc → Sto → Prop} {m : Nat} {E : Value → Shared → Prop} {Q : Option Value → Shared → Prop} (I : LoopI g env s σ₁ h₁ x v it l J m s') (hh : A.handled = none) (hit : h₁.get? it = none)
    (jl : ∀ i ρ' σ', J i ρ' σ' → i ≤ l.length → Its σ' x l)
    (item : ∀ {i ρ' σ' h₂ tk₂ u y}, l[i]? = some y → Inv g env ρ' σ' h₂ → Ev (some env.locals) σ₁ h₁ σ' h₂ → IterAt g σ' h₂ x v it (i + 1) → VR g σ' h₂ y u → J i ρ' σ' → l.length - (i + 1) < m → i + 1 ≤ l.length → Q (some u) { s with heap := h₂, toks := tk₂ })
    (done : ∀ {ρ' σ' h₂ tk}, Inv g env ρ' σ' h₂ → Ev (some env.locals) σ₁ h₁ σ' h₂ → J l.length ρ' σ' → Q none { s with heap := h₂, toks := tk }) : wpAny g.M A (pyNext (.ref it)) Q E s' := by
  cases I with | @mk i ρ' σ' h' tk iv ev ia em le j =>
  have ix := jl i _ _ j le
  by_cases hlt : i < l.length
  · exact next_of (s := { s with heap := h', toks := tk }) iv ia ix (List.getElem?_eq_getElem hlt) fun u h₂ tk₂ iv₂ kk ia₂ pu => item (List.getElem?_eq_getElem hlt) iv₂ (ev_it hit ev kk) ia₂ pu j (by rw [em]; exact Nat.sub_succ_lt_self _ _ hlt) hlt
  · cases (Nat.le_antisymm le (Nat.not_lt.mp hlt))
    exact next_end (s := { s with heap := h', toks := tk }) hh iv ia ix fun h₂ iv₂ kk => done iv₂ (ev_it hit ev kk) j
/-- what a turn's end leads to -/
noncomputable def loopF (J : Loc → Sto → Prop) (k : Fl → Loc → Sto → Prop) (f : Fl) (ρ : Loc) (σ : Sto) : Prop := match f with
  | .next => J ρ σ
  | .cont => J ρ σ
  | .brk => k .next ρ σ
  | .ret v => k (.ret v) ρ σ
/-- what a for loop wants -/
inductive ForJ (g : GE) (d : Nat) (env : Env) (T : V → Loc → Sto → (Loc → Sto → Prop) → Prop) (body : List Stmt) (k : Fl → Loc → Sto → Prop) (ρ : Loc) (x : V) (σ₁ : Sto) : Prop
  | mk (l : List V) (J : Nat → Loc → Sto → Prop) (j0 : J 0 ρ σ₁) (jl : ∀ i ρ' σ', J i ρ' σ' → i ≤ l.length → Its σ' x l)
      (jt : ∀ i y ρ' σ', J i ρ' σ' → l[i]? = some y → T y ρ' σ' fun ρ₂ σ₂ => XSs g d env ρ₂ σ₂ body (loopF (J (i + 1)) k)) (je : ∀ ρ' σ', J l.length ρ' σ' → k .next ρ' σ') : ForJ g d env T body k ρ x σ₁
theorem s_for {target : Expr} {iter : Expr} {body : List Stmt} {pos : Pos} (T : V → Loc → Sto → (Loc → Sto → Prop) → Prop)
    (hT : ∀ v u ρ σ k, T v ρ σ k → WU g d env (T1 g v u) ρ σ (assign target env u) k) (hl : ∀ it v, letOwnedTupleGo target it v = pure ()) (hs : ∀ x, foldedSetIterable iter env x = pure x)
    (h : XE g d env ρ σ iter (ForJ g d env T body k ρ)) : XS g d env ρ σ (.For target iter body [] pos) k := fun A s r i p => by
  refine wpAny_For (h.runE r i trivial fun x σ₁ h₁ tk v i₁ ev₁ rr q => ?_) hs
  obtain ⟨l, J, j0, jl, jt, je⟩ := q
  refine iter_of (s := { s with heap := h₁, toks := tk }) i₁ rr (jl 0 _ _ j0 (Nat.zero_le _)) fun o ia => ?_
  have hit : h₁.get? h₁.objs.size = none := Heap.get?_none_of_le (Nat.le_refl _)
  refine codeAny_forLoop (LoopI g env s σ₁ h₁ x v h₁.objs.size l J) (fun m s' I => ?_) l.length ⟨i₁.push o, ev_push o, ia, rfl, Nat.zero_le _, j0⟩ (hl _)
  refine I.next r.handled hit jl (fun {i ρ' σ' h₂ tk₂ u y} hy iv₂ ev₂ ia₂ pu j lt le => ?_) (fun {ρ' σ' h₂ tk} iv₂ ev₂ j => ?_)
  · refine (hT _ u _ _ _ (jt i _ _ _ j hy)).run (s := { s with heap := h₂, toks := tk₂ }) r iv₂ pu fun _ ρ₃ σ₃ h₃ tk₃ _ iv₃ ev₃ _ q₃ => ?_
    refine q₃.run (s := { s with heap := h₃, toks := tk₃ }) r iv₃ trivial fun fl ρ₄ σ₄ h₄ tk₄ f iv₄ ev₄ rf q₄ => ?_
    have ev' := (ev₂.trans ev₃).trans ev₄
    have nxt : J (i + 1) ρ₄ σ₄ → ∃ m', m' < m ∧ LoopI g env s σ₁ h₁ x v h₁.objs.size l J m' { s with heap := h₄, toks := tk₄ } := fun j' => ⟨_, lt, iv₄, ev', (ia₂.keep iv₂ ev₃).keep iv₃ ev₄, rfl, le, j'⟩
    cases fl with
    | next => cases (show f = .next from rf); exact nxt q₄
    | cont => cases (show f = .cont from rf); exact nxt q₄
    | brk => cases (show f = .brk from rf); exact .mk Fl.next ρ₄ σ₄ h₄ tk₄ iv₄ (ev₁.trans ev') rfl q₄
    | ret w => obtain ⟨w', rfl, rw'⟩ := rf; exact .mk (Fl.ret w) ρ₄ σ₄ h₄ tk₄ iv₄ (ev₁.trans ev') ⟨w', rfl, rw'⟩ q₄
  · exact wpAny_execs_nil (.mk Fl.next ρ' σ' h₂ tk iv₂ (ev₁.trans ev₂) rfl (je _ _ j))

inductive WhileI (g : GE) (env : Env) (s : Shared) (σ : Sto) (J : Nat → Loc → Sto → Prop) (m : Nat) : Shared → Prop
  | mk {ρ' : Loc} {σ' : Sto} {h' : Heap} {tk : Nat} (iv : Inv g env ρ' σ' h') (ev : Ev (some env.locals) σ s.heap σ' h') (j : J m ρ' σ') : WhileI g env s σ J m { s with heap := h', toks := tk }
theorem s_while {test : Expr} {body : List Stmt} {pos : Pos} (J : Nat → Loc → Sto → Prop) (m : Nat) (j0 : J m ρ σ)
    (jt : ∀ m ρ' σ', J m ρ' σ' → XT g d env ρ' σ' test fun b σ₂ => Br b (XSs g d env ρ' σ₂ body (loopF (fun ρ₃ σ₃ => ∃ m', m' < m ∧ J m' ρ₃ σ₃) k)) (k .next ρ' σ₂)) : XS g d env ρ σ (.While test body [] pos) k := fun A s r i p => by
  refine wpAny_While (codeAny_whileLoop (WhileI g env s σ J) (fun m s' I => ?_) m ⟨i, Ev.refl, j0⟩)
  cases I with | @mk ρ' σ' h' tk' iv ev j =>
  refine (jt m _ _ j).runE (s := { s with heap := h', toks := tk' }) r iv trivial fun c σ₂ h₂ tk₂ b iv₂ ev₂ rb q => ?_
  cases (show c = b from rb)
  cases c with
  | false => exact wpAny_execs_nil (.mk Fl.next ρ' σ₂ h₂ tk₂ iv₂ (ev.trans ev₂) rfl q)
  | true =>
    refine W.run q (s := { s with heap := h₂, toks := tk₂ }) r iv₂ trivial fun fl ρ₄ σ₄ h₄ tk₄ f iv₄ ev₄ rf q₄ => ?_
    have ev' := (ev.trans ev₂).trans ev₄
    have nxt : (∃ m', m' < m ∧ J m' ρ₄ σ₄) → ∃ m', m' < m ∧ WhileI g env s σ J m' { s with heap := h₄, toks := tk₄ } := fun q => by obtain ⟨m', a, b⟩ := q; exact ⟨m', a, iv₄, ev', b⟩
    cases fl with
    | next => cases (show f = .next from rf); exact nxt q₄
    | cont => cases (show f = .cont from rf); exact nxt q₄
    | brk => cases (show f = .brk from rf); exact .mk Fl.next ρ₄ σ₄ h₄ tk₄ iv₄ ev' rfl q₄
    | ret w => obtain ⟨w', rfl, rw'⟩ := rf; exact .mk (Fl.ret w) ρ₄ σ₄ h₄ tk₄ iv₄ ev' ⟨w', rfl, rw'⟩ q₄
end
end Mine

namespace Mine

/-! ## plain parameters -/
noncomputable def parsOf (i : FnI) : List Str := i.params.args.map (·.arg)
noncomputable def fnOk (i : FnI) (n : Nat) : Bool := ((parsOf i).length == n) && (decide (parsOf i).Nodup && ((i.scope.kind == .function) && ((!i.scope.isGenerator && !i.scope.isCoroutine) && (((i.scope.names.map (·.1)).take n == parsOf i) && (decide (i.scope.names.map (·.1)).Nodup &&
  (((parsOf i).all fun x => i.scope.names.lookup x == some .local || i.scope.names.lookup x == some .cell) && i.scope.names.all fun p => nameOk p.1))))))
structure Binds (i : FnI) (n : Nat) : Prop where
  run : ∀ nm q bo sc gl cl kd doc pm an co ct bu (f : Nat → Value), bindArgs { name := nm, qualname := q, params := i.params, body := bo, scope := sc, globals := gl, closure := cl, defaults := .none, kwdefaults := kd, doc := doc, pyModule := pm, annotations := an, code := co, closureTuple := ct, builtins := bu } ⟨(List.range n).map f, []⟩ = pure ((parsOf i).zip ((List.range n).map f))
/-- a def's own facts -/
structure FnOk (i : FnI) (n : Nat) : Prop where
  ok : fnOk i n = true
  bd : Binds i n
structure FnP (i : FnI) (n : Nat) : Prop where
  len : (parsOf i).length = n
  nodup : (parsOf i).Nodup
  kind : i.scope.kind = .function
  nogen : i.scope.isGenerator = false
  nocor : i.scope.isCoroutine = false
  take : (i.scope.names.map (·.1)).take n = parsOf i
  nn : (i.scope.names.map (·.1)).Nodup
  loc : ∀ x ∈ parsOf i, i.scope.names.lookup x = some .local ∨ i.scope.names.lookup x = some .cell
  nm : (i.scope.names.all fun p => nameOk p.1) = true
theorem FnOk.p {i : FnI} {n : Nat} (h : FnOk i n) : FnP i n := by
  have z := h.ok
  unfold fnOk at z
  rw [Bool.and_eq_true_iff, Bool.and_eq_true_iff, Bool.and_eq_true_iff, Bool.and_eq_true_iff, Bool.and_eq_true_iff, Bool.and_eq_true_iff, Bool.and_eq_true_iff, Bool.and_eq_true_iff, Bool.not_eq_true', Bool.not_eq_true'] at z
  obtain ⟨a, b, c, ⟨d, e⟩, f, g, l, m⟩ := z
  exact ⟨eq_of_beq a, of_decide_eq_true b, eq_of_beq c, d, e, eq_of_beq f, of_decide_eq_true g, fun x hx => (Bool.or_eq_true_iff.mp (List.all_eq_true.mp l x hx)).imp eq_of_beq eq_of_beq, m⟩
theorem as_range {vs : List Value} {n : Nat} (h : vs.length = n) : ∃ f : Nat → Value, vs = (List.range n).map f := by
  subst h
  refine ⟨fun i => vs.getD i .none, List.ext_getElem (by rw [List.length_map, List.length_range]) fun i h1 h2 => ?_⟩
  rw [List.getElem_map, List.getElem_range, List.getD_eq_getElem?_getD, List.getElem?_eq_getElem h1]; rfl
theorem Binds.of {i : FnI} {n : Nat} (b : Binds i n) {fd : FuncData} {vs : List Value} (hp : fd.params = i.params) (hd : fd.defaults = .none) (hl : vs.length = n) : bindArgs fd ⟨vs, []⟩ = pure ((parsOf i).zip vs) := by
  obtain ⟨a1, a2, a3, a4, a5, a6, a7, a8, a9, a10, a11, a12, a13, a14, a15⟩ := fd
  cases (show a3 = i.params from hp)
  cases (show a8 = Value.none from hd)
  obtain ⟨f, rfl⟩ := as_range hl
  exact b.run ..
theorem lookup_mem {α : Type} {l : List (Str × α)} {x : Str} {u : α} (hn : (l.map (·.1)).Nodup) (hm : (x, u) ∈ l) : l.lookup x = some u := by
  induction l with
  | nil => cases hm
  | cons p l ih =>
    rw [List.map_cons, List.nodup_cons] at hn
    rw [List.lookup_cons]
    rcases List.mem_cons.mp hm with e | hm
    · cases e; rw [beq_self_eq_true]
    · rw [beq_eq_false_iff_ne.mpr fun e : x = p.1 => hn.1 (e ▸ List.mem_map_of_mem (f := Prod.fst) hm)]
      exact ih hn.2 hm
theorem nodup_rev {xs : List Str} (h : xs.Nodup) : xs.reverse.Nodup := List.pairwise_reverse.mpr (h.imp fun e => Ne.symm e)
section
variable {g : GE} {tb : TB} {d : Nat} {env : Env} {ρ : Loc} {σ : Sto}
theorem args_at {h : Heap} {n : Nat} {xs : List Str} {ns : List (Str × NameKind)} {args : List V} {vs : List Value} (ht : (ns.map (·.1)).take xs.length = xs) (r : VRs g σ h args vs) (hl : args.length = xs.length) {x : Str} {v : V} (e : (args.map some ++ List.replicate n none)[ixN x ns]? = some (some v)) :
    ∃ u, (x, u) ∈ xs.zip vs ∧ VR g σ h v u := by
  induction xs generalizing ns args vs with
  | nil =>
    cases List.length_eq_zero_iff.mp hl
    have e : (List.replicate n (none : Option V))[ixN x ns]? = some (some v) := e
    rw [List.getElem?_replicate] at e
    split at e <;> cases e
  | cons y xs ih =>
    cases args with
    | nil => cases hl
    | cons a args => cases ns with
      | nil => cases ht
      | cons p ns =>
        obtain ⟨w, vs, rfl, r1, r2⟩ := r
        have ht : p.1 :: (ns.map (·.1)).take xs.length = y :: xs := ht
        injection ht with h1 h2
        by_cases hq : x = p.1
        · rw [show ixN x (p :: ns) = 0 from if_pos hq] at e
          cases e
          exact ⟨w, by rw [hq, h1]; exact .head _, r1⟩
        · rw [show ixN x (p :: ns) = ixN x ns + 1 from if_neg hq] at e
          obtain ⟨u, m, q⟩ := ih h2 r2 (Nat.succ.inj hl) e
          exact ⟨u, .tail _ m, q⟩
theorem Rm.deeper {A : Around} (r : Rm A (d + 1)) : Rm (A.deeper env) d := ⟨by
    have e : (A.deeper env).depth = A.depth + 1 := rfl
    have := r.depth; omega, by
    have e : (A.deeper env).units = A.units + 3 := rfl
    have := r.units; omega, r.handled⟩
theorem Rm.lim {A : Around} (r : Rm A d) : A.depth < recursionLimit := Nat.lt_of_le_of_lt (Nat.le_add_right _ _) r.depth
/-- what is known of a def's frame -/
structure EnvIs (env : Env) (i : FnI) (cl : List (Str × Addr)) : Prop where
  ok : EnvOk env
  sc : env.scope = i.scope
  cl : env.cells = cl
  qual : env.qual = i.qual ++ ".<locals>."
  code : ∀ c, i.tab = some c → env.code = .ref c
theorem FdOk.rec' {h : Heap} {i : FnI} {fd : FuncData} (fk : FdOk σ h i fd) : h.CodeRec fd.code fd.qualname := by
  obtain ⟨c, oc, ws, t, c1, c2, c3, c4, c5⟩ := fk.code
  exact ⟨c, oc, ws, t, c1, c2.1, c3, by rw [fk.qual]; exact c4⟩
theorem FdOk.tab {h : Heap} {i : FnI} {fd : FuncData} (fk : FdOk σ h i fd) : ∀ c, i.tab = some c → fd.code = .ref c := fun c hc => by
  obtain ⟨c', oc, ws, t, c1, c2, c3, c4, c5⟩ := fk.code
  rw [c1, c5 c hc]
theorem zip_fst {xs : List Str} {vs : List Value} (h : vs.length = xs.length) : (xs.zip vs).map (·.1) = xs := List.map_fst_zip (Nat.le_of_eq h.symm)
/-- a frame whose names are all local -/
theorem enterP {i : FnI} {n : Nat} (m : Nat) {args : List V} {A : Around} {s : Shared} {f : Addr} {fd : FuncData} {vs : List Value} (fo : FnOk i n) (hcells : (i.scope.names.all fun x => x.2 != .cell) = true) (hlen : args.length = n) (o : HOk g σ s.heap) (fk : FdOk σ s.heap i fd) (q : VRs g σ s.heap args vs)
    {E : Value → Shared → Prop} {Z : Env → Shared → Prop}
    (h : ∀ {env h₁ tk}, EnvIs env i i.closure → Inv g env (args.map some ++ List.replicate m none) σ h₁ → s.heap.get? env.locals = none → (∀ b o, s.heap.get? b = some o → h₁.get? b = some o) → Z env { s with heap := h₁, toks := tk }) :
    wpAny g.M A (bindArgs fd ⟨vs, []⟩) (fun binds s₁ => wpAny g.M A (newFunctionEnv fd.scope fd.globals fd.closure binds (fd.qualname ++ ".<locals>.") (some f) fd.code none fd.builtins) (fun env s₂ => s₂.heap.NoLimit ∧ Z env s₂) E s₁) E s := by
  have P := fo.p
  have hvl : vs.length = n := q.length.trans hlen
  have hvp : vs.length = (parsOf i).length := hvl.trans P.len.symm
  have hc : ∀ x ∈ i.scope.names, x.2 ≠ .cell := fun x hx => bne_iff_ne.mp (List.all_eq_true.mp hcells x hx)
  rw [fo.bd.of fk.params fk.defaults hvl, fk.scope, fk.globals, fk.closure, fk.qual, fk.builtins]
  refine wpAny_pure (wpAny_newFunctionEnv hc (fun x hx => ?_) (fun h₁ hns hsb => ⟨((g.T.nolimit).keeps o.keep).fresh _ hsb, ?_⟩) P.kind)
  · rcases P.loc x.1 (List.of_mem_zip hx).1 with z | z
    · exact z
    · exact absurd rfl (hc _ (PySem.mem_of_lookup z))
  have kk : ∀ b o, s.heap.get? b = some o → h₁.get? b = some o := fun b o e => hsb.extBut b o (Nat.ne_of_lt (Heap.lt_size e)) (Heap.get?_push_of_some _ e)
  refine h ⟨⟨P.kind, rfl, rfl⟩, rfl, rfl, rfl, fk.tab⟩ ⟨o.grow kk, ⟨_, hns, fun x v e => ?_⟩, o.none_size, o.size⟩ (Heap.get?_none_of_le (Nat.le_refl _)) kk
  obtain ⟨u, m1, m2⟩ := args_at (by rw [P.len]; exact P.take) (q.keep (kp_of_grow kk)) (hlen.trans P.len.symm) e.v
  exact ⟨u, lookup_mem (by rw [List.map_reverse, zip_fst hvp]; exact nodup_rev P.nodup) (List.mem_reverse.mpr m1), m2⟩
/-- after a def's body -/
noncomputable def endF (k : V → Sto → Prop) (f : Fl) (_ρ : Loc) (σ' : Sto) : Prop := match f with
  | .ret v => k v σ'
  | .next => k .none σ'
  | .brk => False
  | .cont => False
theorem RPost.of {s : Shared} {h₁ : Heap} {tk : Nat} {k : V → Sto → Prop} {f : Flow} {s' : Shared} (hL : s.heap.get? env.locals = none) {σ₁ : Sto} (ks : ∀ {b o}, U σ s.heap b o → U σ₁ h₁ b o)
    {v : Value} (hv : ∀ w, f = .ret w → v = w) (hn : f = .next → v = .none) (p : Post g env (FR g) σ₁ { s with heap := h₁, toks := tk } (endF k) f s') : RPost g σ s k (.ok (.ret v)) s' := by
  cases p with | mk x ρ' σ' h' tk' i ev fr q =>
  have ev' : Ev none σ s.heap σ' h' := fun b o _ u => ev b o (fun e => by
    rw [show b = env.locals from Option.some.inj e] at u
    cases hL.symm.trans u.1) (ks u)
  cases x with
  | next => cases hn fr; exact ⟨.mk .none σ' h' tk' i.ok ev' rfl q⟩
  | ret w => obtain ⟨v, rfl, rv⟩ := fr; cases hv v rfl; exact ⟨.mk w σ' h' tk' i.ok ev' rv q⟩
  | brk => exact q.elim
  | cont => exact q.elim
theorem U_kk {h h₁ : Heap} (kk : ∀ b o, h.get? b = some o → h₁.get? b = some o) {b : Addr} {o : Obj} (u : U σ h b o) : U σ h₁ b o := ⟨kk b o u.1, u.2⟩
/-- a def's body, its names all local -/
theorem CallC.body {i : FnI} {n : Nat} (m : Nat) {args : List V} {k : V → Sto → Prop} {b : List Stmt} (hb : i.body = .stmts b) (fo : FnOk i n) (hcells : (i.scope.names.all fun x => x.2 != .cell) = true) (hlen : args.length = n)
    (h : ∀ env, EnvIs env i i.closure → XSs g d env (args.map some ++ List.replicate m none) σ b (endF k)) : CallC g (d + 1) i args σ k := ⟨fun r o p q => by
  obtain ⟨f', ob, fd, e1, e2, e3, fk⟩ := id p
  cases e1
  have P := fo.p
  refine codeAny_call_function r.lim e2.1 e3 (by rw [fk.scope]; exact P.nocor) (by rw [fk.scope]; exact P.nogen) (fk.body.trans hb) fk.rec' (enterP m fo hcells hlen o fk q fun ei iv hL kk => codeAny_func ?_)
  exact wpAny_mono (h _ ei _ _ r.deeper iv trivial) (fun fl s' z => RPost.of hL (U_kk kk) (fun w e => by subst e; rfl) (fun e => by subst e; rfl) z) fun _ _ e => e.elim⟩
/-- a lambda's body -/
theorem CallC.expr {i : FnI} {n : Nat} (m : Nat) {args : List V} {k : V → Sto → Prop} {b : Expr} (hb : i.body = .expr b) (fo : FnOk i n) (hcells : (i.scope.names.all fun x => x.2 != .cell) = true) (hlen : args.length = n)
    (h : ∀ env, EnvIs env i i.closure → XE g d env (args.map some ++ List.replicate m none) σ b k) : CallC g (d + 1) i args σ k := ⟨fun r o p q => by
  obtain ⟨f', ob, fd, e1, e2, e3, fk⟩ := id p
  cases e1
  have P := fo.p
  refine kla_callFunE r.lim e2.1 e3 (by rw [fk.scope]; exact P.nocor) (by rw [fk.scope]; exact P.nogen) (fk.body.trans hb) fk.rec' (enterP m fo hcells hlen o fk q fun ei iv hL kk => kla_codeExpr ?_)
  refine wpAny_mono (h _ ei _ _ r.deeper iv trivial) (fun v s' z => ?_) fun _ _ e => e.elim
  cases z with | mk x ρ' σ' h' tk' iv ev rv z => cases z with | mk z =>
  exact RPost.of hL (U_kk kk) (fun w e => by cases e; rfl) (fun e => by cases e) (Post.mk (Fl.ret x) _ σ' h' tk' iv ev ⟨v, rfl, rv⟩ z)⟩
end
end Mine

namespace Mine

/-! ## closures -/
noncomputable def freeN (ns : List (Str × NameKind)) : List Str := (ns.filter fun p => p.2 == .free).map (·.1)
theorem closure_eq {scope : Scope} {env : Env} {f : Str → Addr} (h : ∀ n ∈ freeN scope.names, env.cells.lookup n = some (f n)) : closureFor scope env = pure ((freeN scope.names).reverse.map fun n => (n, f n)) := by
  have key : ∀ (names : List (Str × NameKind)) (acc : List (Str × Addr)), (∀ n ∈ freeN names, env.cells.lookup n = some (f n)) →
      (forIn names acc (fun x (cs : List (Str × Addr)) => (do
        if x.2 == .free then do
          let a ← PySem.cellOf env x.1
          pure (ForInStep.yield ((x.1, a) :: cs))
        else pure (ForInStep.yield cs) : Sem (ForInStep (List (Str × Addr)))))) = (pure (((freeN names).reverse.map fun n => (n, f n)) ++ acc) : Sem (List (Str × Addr))) := by
    intro names
    induction names with
    | nil => intro acc h; rfl
    | cons x r ih =>
      intro acc h
      rw [List.forIn_cons]
      cases hk : (x.2 == NameKind.free) with
      | true =>
        have e : freeN (x :: r) = x.1 :: freeN r := by unfold freeN; rw [List.filter_cons_of_pos (p := fun p : Str × NameKind => p.2 == NameKind.free) hk]; rfl
        rw [e] at h ⊢
        have e' : PySem.cellOf env x.1 = pure (f x.1) := by unfold PySem.cellOf; rw [h x.1 (.head _)]
        rw [if_pos rfl, e', pure_bind, pure_bind, List.reverse_cons, List.map_append, List.append_assoc]
        exact ih _ fun n hn => h n (.tail _ hn)
      | false =>
        have e : freeN (x :: r) = freeN r := by unfold freeN; rw [List.filter_cons_of_neg (by rw [hk]; decide)]
        rw [e] at h ⊢
        rw [if_neg (by decide), pure_bind]
        exact ih _ h
  have z := key scope.names [] h
  rw [List.append_nil] at z
  exact (bind_pure _).trans z

/-! ## a def whose names are in cells -/
noncomputable def cellN (ns : List (Str × NameKind)) : List Str := (ns.filter fun p => p.2 == .cell).map (·.1)
noncomputable def cellW : List (Option V) → Sto → List Addr → (List Addr → Sto → Prop) → Prop
  | [], σ, acc, k => k acc σ
  | v :: r, σ, acc, k => ∀ a, σ a = none → cellW r (upd σ a (.cell v)) (a :: acc) k
/-- the new cells, one behind the other -/
noncomputable def stC : List (Option V) → Nat → Sto → Sto
  | [], _, σ => σ
  | v :: r, n, σ => stC r (n + 1) (upd σ n (.cell v))
theorem cellsFrom_eq {names : List (Str × NameKind)} {n : Nat} {acc : List (Str × Addr)} : cellsFrom n names acc = ((cellN names).zip (List.range' n (cellN names).length)).reverse ++ acc := by
  induction names generalizing n acc with
  | nil => rfl
  | cons p r ih =>
    cases hk : (p.2 == NameKind.cell) with
    | true =>
      have e : cellN (p :: r) = p.1 :: cellN r := by unfold cellN; rw [List.filter_cons_of_pos (p := fun p : Str × NameKind => p.2 == NameKind.cell) hk]; rfl
      have e2 : cellsFrom n (p :: r) acc = cellsFrom (n + 1) r ((p.1, n) :: acc) := if_pos hk
      rw [e, e2, ih, List.length_cons, List.range'_succ, List.zip_cons_cons, List.reverse_cons, List.append_assoc]; rfl
    | false =>
      have e : cellN (p :: r) = cellN r := by unfold cellN; rw [List.filter_cons_of_neg (by rw [hk]; decide)]
      have e2 : cellsFrom n (p :: r) acc = cellsFrom n r acc := if_neg (by rw [hk]; decide)
      rw [e, e2, ih]
theorem cellW_use {k : List Addr → Sto → Prop} {vals : List (Option V)} {n : Nat} {σ : Sto} {acc : List Addr} (hs : ∀ a, n ≤ a → σ a = none) (h : cellW vals σ acc k) : k ((List.range' n vals.length).reverse ++ acc) (stC vals n σ) := by
  induction vals generalizing n σ acc with
  | nil => exact h
  | cons v r ih =>
    rw [List.length_cons, List.range'_succ, List.reverse_cons, List.append_assoc]
    exact ih (fun a ha => (upd_ne (Nat.ne_of_gt ha)).trans (hs a (Nat.le_of_succ_le ha))) (h n (hs n (Nat.le_refl _)))
theorem stC_lt {vals : List (Option V)} {n : Nat} {σ : Sto} {b : Addr} (h : b < n) : stC vals n σ b = σ b := by
  induction vals generalizing n σ with
  | nil => rfl
  | cons v r ih => exact (ih (Nat.lt_succ_of_lt h)).trans (upd_ne (Nat.ne_of_lt h))
theorem stC_some {vals : List (Option V)} {n : Nat} {σ : Sto} {b : Addr} {c : Cell} (h : stC vals n σ b = some c) : σ b = some c ∨ ∃ j v, vals[j]? = some v ∧ b = n + j ∧ c = .cell v := by
  induction vals generalizing n σ with
  | nil => exact .inl h
  | cons v r ih =>
    rcases ih h with q | ⟨j, w, q1, q2, q3⟩
    · by_cases e : b = n
      · cases (show some (Cell.cell v) = some c by rw [e, upd_eq] at q; exact q)
        exact .inr ⟨0, v, rfl, e, rfl⟩
      · rw [upd_ne e] at q; exact .inl q
    · exact .inr ⟨j + 1, w, q1, by rw [q2, Nat.add_assoc, Nat.add_comm 1 j], q3⟩
theorem lookup_R {g : GE} {σ : Sto} {h : Heap} {xs : List Str} {args : List V} {vs : List Value} (hl : args.length = xs.length) (r : VRs g σ h args vs) (x : Str) : CellR g σ h ((xs.zip args).lookup x) ((xs.zip vs).lookup x) := by
  induction xs generalizing args vs with
  | nil => exact trivial
  | cons y xs ih =>
    cases args with
    | nil => cases hl
    | cons a args =>
      obtain ⟨w, vs, rfl, e2, e3⟩ := r
      rw [List.zip_cons_cons, List.zip_cons_cons, List.lookup_cons, List.lookup_cons]
      cases x == y with
      | true => exact e2
      | false => exact ih (Nat.succ.inj hl) e3
theorem lookup_none {α : Type} {l : List (Str × α)} {x : Str} (h : x ∉ l.map (·.1)) : l.lookup x = none := by
  cases q : l.lookup x with
  | none => rfl
  | some u => exact absurd (List.mem_map_of_mem (f := Prod.fst) (PySem.mem_of_lookup q)) h
theorem bindC_get {kd : Str → Option NameKind} {x : Str} (hx : kd x ≠ some .local) {l : List (Str × Value)} {m : Str → Option Value} (hn : (l.map (·.1)).Nodup) : bindC kd l m x = (l.lookup x).or (m x) := by
  induction l generalizing m with
  | nil => rfl
  | cons p r ih =>
    rw [List.map_cons, List.nodup_cons] at hn
    refine (ih hn.2).trans ?_
    rw [List.lookup_cons]
    by_cases hq : x = p.1
    · rw [lookup_none (hq ▸ hn.1), hq, beq_self_eq_true, if_neg (hq ▸ hx)]
      show (if p.1 = p.1 then some p.2 else m p.1) = _
      rw [if_pos rfl]; rfl
    · rw [beq_eq_false_iff_ne.mpr hq]
      refine congrArg _ ?_
      by_cases hk : kd p.1 = some .local
      · rw [if_pos hk]
      · rw [if_neg hk]; exact if_neg hq
theorem bindL_get {kd : Str → Option NameKind} {x : Str} (hx : kd x = some .local) {l : List (Str × Value)} {m : Str → Option Value} (hn : (l.map (·.1)).Nodup) : bindL kd l m x = (l.lookup x).or (m x) := by
  induction l generalizing m with
  | nil => rfl
  | cons p r ih =>
    rw [List.map_cons, List.nodup_cons] at hn
    refine (ih hn.2).trans ?_
    rw [List.lookup_cons]
    by_cases hq : x = p.1
    · rw [lookup_none (hq ▸ hn.1), hq, beq_self_eq_true, if_pos (hq ▸ hx)]
      show (if p.1 = p.1 then some p.2 else m p.1) = _
      rw [if_pos rfl]; rfl
    · rw [beq_eq_false_iff_ne.mpr hq]
      refine congrArg _ ?_
      by_cases hk : kd p.1 = some .local
      · rw [if_pos hk]; exact if_neg hq
      · rw [if_neg hk]

section
variable {g : GE} {tb : TB} {d : Nat} {env : Env} {ρ : Loc} {σ : Sto}
/-- what the cells hold at first -/
noncomputable def cellV (i : FnI) (args : List V) : List (Option V) := (cellN i.scope.names).map fun n => ((parsOf i).zip args).lookup n
theorem CallC.bodyC {i : FnI} {n : Nat} (m : Nat) {args : List V} {k : V → Sto → Prop} {b : List Stmt} (hb : i.body = .stmts b) (fo : FnOk i n) (hclos : i.closure = []) (hlen : args.length = n)
    (h : cellW (cellV i args) σ [] fun cv σ' => ∀ env, EnvIs env i ((cellN i.scope.names).reverse.zip cv) → XSs g d env (args.map some ++ List.replicate m none) σ' b (endF k)) : CallC g (d + 1) i args σ k := ⟨fun {A s f vs} r o p q => by
  obtain ⟨f', ob, fd, e1, e2, e3, fk⟩ := id p
  cases e1
  have P := fo.p
  have hvl : vs.length = n := q.length.trans hlen
  have hvp : vs.length = (parsOf i).length := hvl.trans P.len.symm
  have hal : args.length = (parsOf i).length := hlen.trans P.len.symm
  have hzn : (((parsOf i).zip vs).map (·.1)).Nodup := by rw [zip_fst hvp]; exact P.nodup
  refine codeAny_call_function r.lim e2.1 e3 (by rw [fk.scope]; exact P.nocor) (by rw [fk.scope]; exact P.nogen) (fk.body.trans hb) fk.rec' ?_
  rw [fo.bd.of fk.params fk.defaults hvl, fk.closure, hclos, fk.scope, fk.globals, fk.qual, fk.builtins]
  have hl : (cellV i args).length = (cellN i.scope.names).length := List.length_map _
  have hr : (cellN i.scope.names).length = (List.range' (s.heap.objs.size + 1) (cellN i.scope.names).length).length := (List.length_range' ..).symm
  have ecl : cellsFrom (s.heap.objs.size + 1) i.scope.names [] = (cellN i.scope.names).reverse.zip ((List.range' (s.heap.objs.size + 1) (cellV i args).length).reverse ++ []) := by
    rw [cellsFrom_eq, List.append_nil, List.append_nil, hl]; exact List.reverse_zipWith hr
  have hcn : ((cellsFrom (s.heap.objs.size + 1) i.scope.names []).map (·.1)).Nodup := by
    rw [cellsFrom_eq, List.append_nil, List.map_reverse, List.map_fst_zip (Nat.le_of_eq hr)]
    exact nodup_rev (List.Nodup.sublist (List.Sublist.map _ List.filter_sublist) P.nn)
  have hmem : ∀ x, i.scope.names.lookup x = some .cell → ((cellsFrom (s.heap.objs.size + 1) i.scope.names []).lookup x).isSome = true := fun x hx => by
    have mm : x ∈ (cellsFrom (s.heap.objs.size + 1) i.scope.names []).map (·.1) := by
      rw [cellsFrom_eq, List.append_nil, List.map_reverse, List.map_fst_zip (Nat.le_of_eq hr), List.mem_reverse]
      exact List.mem_map.mpr ⟨(x, .cell), List.mem_filter.mpr ⟨PySem.mem_of_lookup hx, rfl⟩, rfl⟩
    obtain ⟨p, m1, rfl⟩ := List.mem_map.mp mm
    rw [lookup_mem hcn m1]; rfl
  refine wpAny_pure (wpAny_newFunctionEnv_cells P.kind (fun x hx => (P.loc x.1 (List.of_mem_zip hx).1).imp id fun z => ⟨z, hmem _ z⟩) fun env eenv s₁ ic => ?_)
  obtain ⟨⟨⟨h₁, tk, es⟩, ns, keep, fresh⟩, icell, _, above⟩ := ic
  cases es
  have eL : env.locals = s.heap.objs.size := by rw [eenv]; rfl
  have ec : env.cells = cellsFrom (s.heap.objs.size + 1) i.scope.names [] := by rw [eenv]; rfl
  have esc : env.scope = i.scope := by rw [eenv]; rfl
  have eo : EnvIs env i ((cellN i.scope.names).reverse.zip ((List.range' (s.heap.objs.size + 1) (cellV i args).length).reverse ++ [])) := ⟨⟨by rw [esc]; exact P.kind, by rw [eenv]; rfl, by rw [eenv]; rfl⟩, esc, ec.trans ecl, by rw [eenv]; rfl, by rw [eenv]; exact fk.tab⟩
  have hs : ∀ a, s.heap.objs.size ≤ a → σ a = none := fun a ha => o.fresh (Heap.get?_none_of_le ha)
  have w := cellW_use (fun a ha => hs a (Nat.le_of_succ_le ha)) h env eo
  have U1 : ∀ {b o}, U σ s.heap b o → U (stC (cellV i args) (s.heap.objs.size + 1) σ) h₁ b o := fun u => ⟨keep _ _ u.1, (stC_lt (Nat.lt_succ_of_lt (Heap.lt_size u.1))).trans u.2⟩
  have kp : Kp σ s.heap (stC (cellV i args) (s.heap.objs.size + 1) σ) h₁ := fun b o _ _ u => U1 u
  have kd : ∀ x, env.kindOf x = i.scope.names.lookup x := fun x => by unfold Env.kindOf; rw [esc]
  have hok : HOk g (stC (cellV i args) (s.heap.objs.size + 1) σ) h₁ := by
    refine ⟨fun b x e => U1 (o.base b x e), fun a c e => ?_⟩
    rcases stC_some e with e | ⟨j, v, ej, rfl, rfl⟩
    · obtain ⟨x, x1, x2⟩ := o.rep a c e
      exact ⟨x, keep a x x1, x2.keep kp⟩
    · unfold cellV at ej
      rw [List.getElem?_map] at ej
      obtain ⟨name, en, rfl⟩ := Option.map_eq_some_iff.mp ej
      have hj := (List.getElem?_eq_some_iff.mp en).1
      have mz : (name, s.heap.objs.size + 1 + j) ∈ cellsFrom (s.heap.objs.size + 1) i.scope.names [] := by
        rw [cellsFrom_eq, List.append_nil, List.mem_reverse]
        refine List.mem_iff_getElem?.mpr ⟨j, List.getElem?_zip_eq_some.mpr ⟨en, ?_⟩⟩
        rw [List.getElem?_range' hj, Nat.one_mul]
      obtain ⟨x, x1, x2⟩ := icell name _ (by rw [ec]; exact lookup_mem hcn mz)
      refine ⟨x, x1, _, x2, ?_⟩
      obtain ⟨pp, p1, rfl⟩ := List.mem_map.mp (List.mem_of_getElem? en)
      obtain ⟨p3, p4⟩ := List.mem_filter.mp p1
      have hk : i.scope.names.lookup pp.1 = some .cell := lookup_mem P.nn ((show pp = (pp.1, NameKind.cell) from Prod.ext rfl (eq_of_beq p4)) ▸ p3)
      rw [bindC_get (by rw [kd, hk]; decide) hzn, Option.or_none]
      exact (lookup_R hal q pp.1).keep kp
  refine ⟨((g.T.nolimit).keeps o.keep).keeps keep, codeAny_func (wpAny_mono (w _ { s with heap := h₁, toks := tk } r.deeper ⟨hok, ⟨_, ns, fun x v e => ?_⟩, ?_, by rw [eL]; exact o.size⟩ trivial)
    (fun fl s' z => RPost.of (by rw [eL]; exact Heap.get?_none_of_le (Nat.le_refl _)) U1 (fun w e => by subst e; rfl) (fun e => by subst e; rfl) z) fun _ _ e => e.elim)⟩
  · obtain ⟨e1, e2⟩ := e
    rw [esc] at e2
    obtain ⟨u, m1, m2⟩ := args_at (by rw [P.len]; exact P.take) q hal e2
    rw [bindL_get e1 hzn, lookup_mem hzn m1]
    exact ⟨u, rfl, m2.keep kp⟩
  · rw [eL, stC_lt (Nat.lt_succ_self _)]; exact hs _ (Nat.le_refl _)⟩
end
end Mine

namespace Mine

section
variable {g : GE} {tb : TB} {d : Nat} {env : Env} {ρ : Loc} {σ : Sto}

theorem upd_same {a : Addr} {c : Cell} (h : σ a = some c) : upd σ a c = σ := funext fun b => by
  by_cases e : b = a
  · rw [e, upd_eq, h]
  · exact upd_ne e
theorem triples_snoc {pos : Pos} {c : Value} : ∀ {n : Nat} {l : List Value}, l.length ≤ n → TriplesOk l → TriplesOk (l ++ [rawInt pos.line, rawInt pos.col, c]) := fun {n} => by
  induction n with
  | zero => intro l hn h; cases List.length_eq_zero_iff.mp (Nat.le_zero.mp hn); exact trivial
  | succ n ih =>
    intro l hn h
    cases l with
    | nil => exact trivial
    | cons a l => cases a with
      | int _ _ => cases l with
        | nil => cases h
        | cons b l => cases b with
          | int _ _ => cases l with
            | nil => cases h
            | cons _ l => exact ih (l := l) (Nat.le_trans (Nat.le_add_right l.length 2) (Nat.le_of_succ_le_succ hn)) h
          | _ => cases h
      | _ => cases h
theorem bAt {P : Addr} {h : Heap} (T : Top g.p g.loose g.mean g.mg g.mb g.h₀) (o : HOk g σ h) {c : Cell} (e : σ P = some c) : h.BuiltinsAt g.mg P ∧ mainGlobals ≠ P := by
  obtain ⟨bm, ob, b1, b2, b3, b4, b5, b6⟩ := T.bmain
  have nb : ∀ b o', g.h₀.get? b = some o' → b ≠ P := fun b o' e' q => by
    subst q; cases (o.base b o' e').2.symm.trans e
  obtain ⟨og, es, ep, eg, hd, r⟩ := T.g
  refine ⟨⟨bm, ob, b1, b2, fun q => ?_, nb _ _ b3, o.keep _ _ b3, b4, b5, b6⟩, nb _ _ eg⟩
  subst q; cases eg.symm.trans b3; rw [hd] at b6; cases b6

/-- a function object just made -/
structure Made1 (i : FnI) (cv : Value) (ob : Obj) (fd : FuncData) : Prop where
  data : ob.data = .func fd
  qual : fd.qualname = i.qual
  params : fd.params = i.params
  body : fd.body = i.body
  scope : fd.scope = i.scope
  globals : fd.globals = mainGlobals
  closure : fd.closure = i.closure
  defaults : fd.defaults = .none
  kwdefaults : fd.kwdefaults = .none
  builtins : fd.builtins = builtinsNs
  code : fd.code = cv
/-- a def or a lambda is made: the table of its place's code -/
theorem made_of {c Pt : Addr} {pos : Pos} {q : Str} {A : Around} {s : Shared} {t : Sem Value} {i : FnI} {Q : V → Loc → Sto → Prop} (hC : CodeHd g.h₀ c Pt) (iv : Inv g env ρ σ s.heap) (hP : σ Pt = some (.tab pos q)) (hi : i.qual = q) (ht : i.tab = none)
    (new : ∀ {ps : Array Value} {Q' : Value → Shared → Prop}, s.heap.get? Pt = some (tabObj ps) → TriplesOk ps.toList → codeAmong pos ps.toList = none → (∀ {c' : Addr} {ob : Obj} {fd : FuncData} {h' : Heap} {tk : Nat}, Heap.ExtBut Pt s.heap h' → s.heap.objs.size ≤ c' → h'.CodeRec (.ref c') q →
      h'.get? Pt = some (tabObj (ps ++ #[rawInt pos.line, rawInt pos.col, .ref c'])) → Made1 i (.ref c') ob fd → Q' (.ref h'.objs.size) { s with heap := h'.push ob, toks := tk }) → wpAny g.M A t Q' NoE s)
    (hit : ∀ {ps : Array Value} {cv : Value} {Q' : Value → Shared → Prop}, s.heap.get? Pt = some (tabObj ps) → TriplesOk ps.toList → codeAmong pos ps.toList = some cv → (∀ {ob : Obj} {fd : FuncData} {h' : Heap} {tk : Nat}, (∀ b o, s.heap.get? b = some o → h'.get? b = some o) →
      Made1 i cv ob fd → Q' (.ref h'.objs.size) { s with heap := h'.push ob, toks := tk }) → wpAny g.M A t Q' NoE s)
    (k : Q (.fn i) ρ σ) : wpAny g.M A t (Post g env (VR g) σ s Q) NoE s := by
  obtain ⟨o, o1, ps, rfl, o2, o3⟩ := iv.ok.rep _ _ hP
  have fin : ∀ {h' : Heap} {ob : Obj} {fd : FuncData} {tk : Nat} {c' : Addr}, Inv g env ρ σ h' → Ev (some env.locals) σ s.heap σ h' → codeAtU σ h' (.ref c') q → Made1 i (.ref c') ob fd →
      Post g env (VR g) σ s Q (.ref h'.objs.size) { s with heap := h'.push ob, toks := tk } := fun {h' ob fd tk c'} iv' ev hc m => by
    obtain ⟨c₂, oc, vs, t, e2, hoc, hd, hv⟩ := hc
    cases e2
    have hf : ob.isFreed = false := by obtain ⟨oc, od, oda, os⟩ := ob; cases (show oda = _ from m.data); rfl
    exact .mk (V.fn i) ρ σ _ tk (iv'.push ob) (ev.trans (ev_push ob)) ⟨_, ob, fd, rfl, U_push iv'.ok ob hf, m.data, m.qual, m.params, m.body, m.scope, m.globals, m.closure, m.defaults, m.kwdefaults, m.builtins, c', oc, vs, t, m.code, ⟨Heap.get?_push_of_some _ hoc.1, hoc.2⟩, hd, by rw [hi]; exact hv, fun c hc => by rw [ht] at hc; cases hc⟩ k
  rcases o3 with o3 | ⟨cv, o3, o4⟩
  · refine new o1 o2 o3 fun {c' ob fd h' tk} hx hge hrec htb m => ?_
    obtain ⟨c₂, oc, vs, t, e2, hoc, hd, hv⟩ := hrec
    cases e2
    have hcu : codeAtU σ h' (.ref c') q := ⟨c', oc, vs, t, rfl, ⟨hoc, iv.ok.fresh (Heap.get?_none_of_le hge)⟩, hd, hv⟩
    have kk : ∀ b y, b ≠ Pt → s.heap.get? b = some y → h'.get? b = some y := fun b y n e => hx b y n e
    have es : upd σ Pt (.tab pos q) = σ := upd_same hP
    have iv' := iv.upd (a := Pt) (c := .tab pos q) kk (some_none hP) htb (by
      rw [es]
      refine ⟨_, rfl, ?_, .inr ⟨.ref c', ?_, hcu⟩⟩
      · rw [Array.toList_append]; exact triples_snoc (Nat.le_refl _) o2
      · rw [Array.toList_append]; exact codeAmong_snoc _ o2 o3)
    have ev : Ev (some env.locals) σ s.heap (upd σ Pt (.tab pos q)) h' := ev_upd kk (some_none hP)
    rw [es] at iv' ev
    exact fin iv' ev hcu m
  · obtain ⟨c', oc, vs, t, rfl, u, hd, hv⟩ := o4
    exact hit o1 o2 o3 fun kk m => fin (iv.grow kk) (ev_grow kk) ⟨c', oc, vs, t, rfl, ⟨kk _ _ u.1, u.2⟩, hd, hv⟩ m

theorem s_def (he : EnvOk env) {c Pt : Addr} {name q : Str} {params : Arguments} {body : List Stmt} {scope : Scope} {pos : Pos} {f : Str → Addr} {k : Fl → Loc → Sto → Prop} (hcode : env.code = .ref c) (hC : CodeHd g.h₀ c Pt) (hP : σ Pt = some (.tab pos q))
    (hcl : ∀ n ∈ freeN scope.names, env.cells.lookup n = some (f n)) (hd0 : params.defaults = []) (hk0 : params.kw_defaults = []) (ha : annTrees params none env = []) (hq : qualnameIn env name name = q)
    (n : SX g d env name (.fn { name, qual := q, params, body := .stmts body, scope, closure := (freeN scope.names).reverse.map fun n => (n, f n) }) ρ σ (k .next)) :
    XS g d env ρ σ (.FunctionDef name params body [] none [] scope none name pos) k := fun A s r iv _ => by
  obtain ⟨b1, b2⟩ := bAt g.T iv.ok hP
  refine nestDef_K hd0 hk0 ha ?_
  rw [hq]
  refine wpAny_mono (made_of (i := { name, qual := q, params, body := .stmts body, scope, closure := (freeN scope.names).reverse.map fun n => (n, f n) }) (Q := fun x ρ' σ' => x = .fn { name, qual := q, params, body := .stmts body, scope, closure := (freeN scope.names).reverse.map fun n => (n, f n) } ∧ ρ' = ρ ∧ σ' = σ) hC iv hP rfl rfl
    (fun h1 h2 h3 h4 => makeFunction_K (closure_eq hcl) he.globals (g.T.g.keeps iv.ok.keep) hcode (hC.keeps iv.ok.keep) h1 h2 h3 b2 b1 fun c' ctv doc h' tk hx hge hlt hrec htb => h4 hx hge hrec htb ⟨rfl, rfl, rfl, rfl, rfl, rfl, rfl, rfl, rfl, rfl, rfl⟩)
    (fun h1 h2 h3 h4 => makeFunction_hit (closure_eq hcl) he.globals (g.T.g.keeps iv.ok.keep) hcode (hC.keeps iv.ok.keep) h1 h2 h3 b1 fun ctv doc h' tk kk hge => h4 kk ⟨rfl, rfl, rfl, rfl, rfl, rfl, rfl, rfl, rfl, rfl, rfl⟩) ⟨rfl, rfl, rfl⟩) (fun v s₁ z => ?_) fun _ _ e => e
  cases z with | mk x ρ' σ' h' tk i' ev rr q =>
  obtain ⟨rfl, rfl, rfl⟩ := q
  exact n.run.run (s := { s with heap := h', toks := tk }) r i' rr fun _ ρ₂ σ₂ h₂ tk₂ _ i₂ ev₂ _ q₂ => .mk Fl.next ρ₂ σ₂ h₂ tk₂ i₂ (ev.trans ev₂) rfl q₂
theorem c_lam (he : EnvOk env) {c Pt : Addr} {q : Str} {params : Arguments} {body : Expr} {scope : Scope} {pos : Pos} {f : Str → Addr} {k : V → Sto → Prop} (hcode : env.code = .ref c) (hC : CodeHd g.h₀ c Pt) (hP : σ Pt = some (.tab pos q))
    (hcl : ∀ n ∈ freeN scope.names, env.cells.lookup n = some (f n)) (hdef : defaultsOf params env = ([], [])) (hq : env.qual ++ "<lambda>" = q)
    (n : k (.fn { name := "<lambda>", qual := q, params, body := .expr body, scope, closure := (freeN scope.names).reverse.map fun n => (n, f n) }) σ) :
    XE g d env ρ σ (.Lambda params body scope pos) k := fun A s r iv _ => by
  obtain ⟨b1, b2⟩ := bAt g.T iv.ok hP
  refine kla_eval hdef ?_
  rw [hq]
  exact made_of (i := { name := "<lambda>", qual := q, params, body := .expr body, scope, closure := (freeN scope.names).reverse.map fun n => (n, f n) }) hC iv hP rfl rfl
    (fun h1 h2 h3 h4 => kla_makeFunction (closure_eq hcl) he.globals (g.T.g.keeps iv.ok.keep) hcode (hC.keeps iv.ok.keep) h1 h2 h3 b2 b1 fun c' ctv h' tk hx hge hlt hrec htb => h4 hx hge hrec htb ⟨rfl, rfl, rfl, rfl, rfl, rfl, rfl, rfl, rfl, rfl, rfl⟩)
    (fun h1 h2 h3 h4 => kla_makeFunctionHit (closure_eq hcl) he.globals (g.T.g.keeps iv.ok.keep) hcode (hC.keeps iv.ok.keep) h1 h2 h3 b1 fun ctv h' tk kk hge => h4 kk ⟨rfl, rfl, rfl, rfl, rfl, rfl, rfl, rfl, rfl, rfl, rfl⟩) ⟨n⟩

/-! ## a minus, dicts -/
noncomputable def intW (v : V) (f : Int → Prop) : Prop := match v with
  | .int i => f i
  | _ => False
theorem c_neg {e : Expr} {pos : Pos} {k : V → Sto → Prop} (h : XE g d env ρ σ e fun x σ₁ => intW x fun i => k (.int (-i)) σ₁) : XE g d env ρ σ (.UnaryOp .USub e pos) k := by
  rw [XE, arm_eval_UnaryOp]
  refine WE.next h fun x σ₁ v q => W.stand (W.holding fun A s r i p => ?_)
  cases x with
  | int n => obtain ⟨t, rfl⟩ := p; exact PyProof.Rows.neg_int (Post.same (x := V.int _) i ⟨_, rfl⟩ ⟨q⟩)
  | _ => exact q.elim

theorem Inv.track {h h' : Heap} {a : Addr} {c : Cell} {o o' : Obj} (i : Inv g env ρ σ h) (hu : U σ h a o) (hd : ¬ notDict o) (hb : g.h₀.get? a = none) (hl : a ≠ env.locals) (k : ∀ b y, b ≠ a → h.get? b = some y → h'.get? b = some y) (e : h'.get? a = some o')
    (r : Kp σ h (Mine.upd σ a c) h' → ORep g (Mine.upd σ a c) h' c o') : Inv g env ρ (Mine.upd σ a c) h' := by
  have kp : Kp σ h (Mine.upd σ a c) h' := fun b y nd _ u => by
    have n : b ≠ a := fun q => by subst q; cases hu.1.symm.trans u.1; exact hd nd
    exact ⟨k b y n u.1, (upd_ne n).trans u.2⟩
  obtain ⟨m, ⟨y, es, ep, e1, e2⟩, q⟩ := i.fr
  refine ⟨⟨fun b x q => ?_, fun b d q => ?_⟩, ⟨m, ⟨y, es, ep, k _ _ hl.symm e1, e2⟩, fun x v e => by obtain ⟨u, e1, e2⟩ := q x v e; exact ⟨u, e1, e2.keep kp⟩⟩, (upd_ne hl.symm).trans i.loc, i.above⟩
  · have n : b ≠ a := fun e => by subst e; cases hb.symm.trans q
    have u := i.ok.base b x q
    exact ⟨k b x n u.1, (upd_ne n).trans u.2⟩
  · by_cases n : b = a
    · subst n
      cases (show some c = some d from upd_eq.symm.trans q)
      exact ⟨o', e, r kp⟩
    · obtain ⟨x, e1, e2⟩ := i.ok.rep b d ((upd_ne n).symm.trans q)
      exact ⟨x, k b x n e1, e2.keep kp⟩

noncomputable def mergedV (acc : List (Str × V)) (l : List (Str × V)) : List (Str × V) := l.foldl (fun acc kv => putM kv.1 kv.2 acc) acc
theorem kv_merged {h : Heap} {l acc : List (Str × V)} {kvs acc' : List (Str × Value)} (p : KvR g σ h acc acc') (e : KvR g σ h l kvs) : KvR g σ h (mergedV acc l) (merged acc' kvs) := by
  induction l generalizing acc kvs acc' with
  | nil => cases (show kvs = [] from e); exact p
  | cons q l ih =>
    obtain ⟨u, r, rfl, e2, e3⟩ := e
    exact ih (acc := putM q.1 q.2 acc) (acc' := stored acc' q.1 u) (kv_put e2 p) e3
/-- a dict's pairs -/
inductive RKv (g : GE) (σ : Sto) (h : Heap) (x : List (Str × V)) (a : List (Value × Value)) : Prop
  | mk (kvs : List (Str × Value)) (c : Carries (strKind PySem.Challenge.pw_np0310_01 g.w) a kvs) (r : KvR g σ h x kvs) : RKv g σ h x a
abbrev XKv (g : GE) (d : Nat) (env : Env) (ρ : Loc) (σ : Sto) (pos : Pos) (ks : List (Option Expr)) (vs : List Expr) (k : List (Str × V) → Sto → Prop) : Prop := W g d env (RKv g) T0 ρ σ (evalPairs (pairTrees ks vs env pos)) (QE ρ k)
theorem kv_nil {pos : Pos} {k : List (Str × V) → Sto → Prop} (q : k [] σ) : XKv g d env ρ σ pos [] [] k := fun A s r i p => evalPairs_nil (Post.here (x := []) i ⟨[], trivial, rfl⟩ ⟨q⟩)
theorem kv_cons {y : Str} {kd : Nat} {kp pos : Pos} {ks : List (Option Expr)} {e : Expr} {vs : List Expr} {k : List (Str × V) → Sto → Prop} (h : XE g d env ρ σ e fun v σ₁ => XKv g d env ρ σ₁ pos ks vs fun x σ₂ => k ((y, v) :: x) σ₂) :
    XKv g d env ρ σ pos (some (.Constant (.str y) kd kp) :: ks) (e :: vs) k := fun A s r i p => by
  show wpAny _ _ (evalPairs ((eval (.Constant (.str y) kd kp) env, do let x ← eval e env; standAt pos; pure x) :: pairTrees ks vs env pos)) _ _ _
  refine evalPairs_cons ((W_str (P := T0) (k := fun v σ' => v = .str y ∧ σ' = σ) ⟨rfl, rfl⟩).runE r i trivial fun x σ₁ h₁ tk₁ kv i₁ ev₁ rr q => ?_)
  obtain ⟨rfl, rfl⟩ := q
  obtain ⟨t, rfl⟩ := rr
  refine wpAny_bind (h.runE (s := { s with heap := h₁, toks := tk₁ }) r i₁ trivial fun v σ₂ h₂ tk₂ vv i₂ ev₂ rv q => wpAny_bind (wpAny_standAt (wpAny_pure ?_)))
  refine W.runE q (s := { s with heap := h₂, toks := tk₂ }) r i₂ trivial fun xs σ₃ h₃ tk₃ l i₃ ev₃ c q => ?_
  cases c with | mk kvs c1 c2 =>
  exact .mk ((y, v) :: xs) ρ σ₃ h₃ tk₃ i₃ ((ev₁.trans ev₂).trans ev₃) ⟨(y, vv) :: kvs, ⟨strKind_is _ _ _ _, rfl, c1⟩, vv, kvs, rfl, rv.keep (ev₃.kp i₂), c2⟩ ⟨q⟩
theorem c_dict {ks : List (Option Expr)} {vs : List Expr} {pos : Pos} {k : V → Sto → Prop} (hall : ks.all (·.isSome) = true) (hl : ks.length = vs.length) (h0 : 0 < ks.length) (hlen : ks.length ≤ 15)
    (h : XKv g d env ρ σ pos ks vs fun x σ' => ∀ a, σ' a = none → k (.ref a) (upd σ' a (.map (mergedV [] x)))) : XE g d env ρ σ (.Dict ks vs pos) k := fun A s r i p => by
  have hn := pairTrees_length ks vs env pos hall hl
  refine wpAny_Dict_pairs (knd := strKind PySem.Challenge.pw_np0310_01 g.w) (zip_pairTrees ks vs env pos hall hl) (List.ne_nil_of_length_pos (hn ▸ h0)) (by rw [hn]; exact hlen) ?_
  have hu := U_new i.ok (x := { cls := .type "dict", data := .dict #[] }) rfl
  have hloc : s.heap.objs.size ≠ env.locals := fun e => by
    obtain ⟨m, ⟨y, es, ep, e1, _⟩, _⟩ := i.fr
    rw [← e, Heap.get?_none_of_le (Nat.le_refl _)] at e1; cases e1
  refine h.runE (s := { s with heap := s.heap.push { cls := .type "dict", data := .dict #[] } }) r (i.push _) trivial fun x σ₁ h₁ tk₁ l i₁ ev₁ c q => ?_
  cases c with | mk kvs c1 c2 =>
  have hu₁ := ev₁ _ _ (fun e => hloc (Option.some.inj e)) hu.1
  refine ⟨kvs, c1, ⟨_, _, _, hu₁.1, ⟨rfl, rfl, rfl⟩, rfl, fun e he => (Array.not_mem_empty _ he).elim, .nil, List.Pairwise.nil⟩, fun h' hd hs => ?_⟩
  obtain ⟨o', f1, f2⟩ := Heap.dictOf_iff.mp hd
  have i₂ := i₁.track (c := .map (mergedV [] x)) hu₁ (fun nd => nd _ _ rfl) hu.2 hloc (fun b y ne e => (hs.2 b ne).trans e) f1 (fun kp => ⟨_, f2, kv_merged (acc := []) (acc' := []) rfl (c2.keep kp)⟩)
  refine .mk (V.ref _) ρ _ h' _ i₂ (fun b y ne u => ?_) rfl ⟨q _ hu₁.2⟩
  have nb : b ≠ s.heap.objs.size := fun e => by rw [e] at u; cases (Heap.get?_none_of_le (Nat.le_refl _)).symm.trans u.1
  have u₁ := ev₁ b y ne ⟨Heap.get?_push_of_some _ u.1, u.2⟩
  exact ⟨(hs.2 b nb).trans u₁.1, (upd_ne nb).trans u₁.2⟩
end
end Mine

namespace Mine

section
variable {g : GE} {tb : TB} {d : Nat} {env : Env} {ρ : Loc} {σ : Sto}

theorem HOk.but {h h' : Heap} {c : Addr} {o : Obj} (i : HOk g σ h) (hu : U σ h c o) (hd : ¬ notDict o) (hb : g.h₀.get? c = none) (k : ∀ b y, b ≠ c → h.get? b = some y → h'.get? b = some y) : HOk g σ h' ∧ Kp σ h σ h' := by
  have kp : Kp σ h σ h' := fun b y nd _ u => ⟨k b y (fun e => by subst e; cases hu.1.symm.trans u.1; exact hd nd) u.1, u.2⟩
  refine ⟨⟨fun b y e => ⟨k b y (fun q => by subst q; cases hb.symm.trans e) (i.base b y e).1, (i.base b y e).2⟩, fun a c e => ?_⟩, kp⟩
  obtain ⟨y, e1, e2⟩ := i.rep a c e
  exact ⟨y, k a y (fun q => by subst q; cases hu.2.symm.trans e) e1, e2.keep kp⟩
theorem Inv.back {σ' : Sto} {h h' : Heap} (i : Inv g env ρ σ h) (o : HOk g σ' h') (kp : Kp σ h σ' h') (u : ∀ o, U σ h env.locals o → U σ' h' env.locals o) : Inv g env ρ σ' h' := by
  obtain ⟨m, ⟨x, es, ep, e1, e2⟩, q⟩ := i.fr
  have u' := u x ⟨e1, i.loc⟩
  exact ⟨o, ⟨m, ⟨x, es, ep, u'.1, e2⟩, fun y v e => by obtain ⟨w, a, b⟩ := q y v e; exact ⟨w, a, b.keep kp⟩⟩, u'.2, i.above⟩
theorem at_none {n : Nat} {x : Str} {v : V} (e : LocAt env (List.replicate n none) x v) : False := by
  have e := e.v
  rw [List.getElem?_replicate] at e
  split at e <;> cases e
theorem Inv.forget {n : Nat} {h : Heap} (i : Inv g env ρ σ h) : Inv g env (List.replicate n none) σ h := by
  obtain ⟨m, n, q⟩ := i.fr
  exact ⟨i.ok, ⟨m, n, fun x v e => (at_none e).elim⟩, i.loc, i.above⟩
set_option backward.match.sparseCases true in
theorem ownGo {A : Around} {s : Shared} {x : V} {v u : Value} {it : Addr} {i : Nat} {target : Expr} {E : Value → Shared → Prop} {Q : Unit → Shared → Prop} (z : IterAt g σ s.heap x v it i) (q : Q () s) : wpAny g.M A (letOwnedTupleGo target (.ref it) u) Q E s := by
  obtain ⟨o, hu, io⟩ := z.ob
  have hc : ∃ T fs, o.cls = .type T ∧ o.data = .fields fs ∧ ["enumerate", "zip", "dict_itemiterator", "dict_reverseitemiterator", "odict_iterator", "itertools.zip_longest", "itertools.pairwise"].contains T = false := by
    cases x with
    | ref a => exact ⟨_, _, io.1, io.2, by decide⟩
    | tup l => obtain ⟨t, _, a, b⟩ := io; exact ⟨_, _, a, b, by decide⟩
    | rng a b => cases (show o = _ from io); exact ⟨"range_iterator", _, rfl, rfl, by decide⟩
    | str s => obtain ⟨t, a, b⟩ := io; exact ⟨_, _, a, b, by decide⟩
    | _ => exact io.elim
  have key : wpAny g.M A (do
      let (.ref r, .ref a) := ((Value.ref it : Value), u) | return
      let o ← load r
      match o.cls, o.data with
      | .type n, .fields vs =>
        if ["enumerate", "zip", "dict_itemiterator", "dict_reverseitemiterator", "odict_iterator", "itertools.zip_longest", "itertools.pairwise"].contains n && vs[0]? == some (rawInt a) then
          rule "for.unpacks-the-owned-tuple"
          updateField r 0 .none
      | _, _ => pure () : Sem Unit) Q E s := by
    cases u with
    | ref a =>
      refine wpAny_bind (wpAny_load hu.1 ?_)
      obtain ⟨T, fs, c1, c2, c3⟩ := hc
      rw [c1, c2]
      dsimp only
      rw [c3]
      exact wpAny_pure q
    | _ => exact wpAny_pure q
  cases target with
  | Tuple ts kk p => exact key
  | List ts p => exact key
  | _ => exact wpAny_pure q

abbrev testsT (ifs : List Expr) (env : Env) : Sem Bool := forIn ifs true fun c r => if r = true then do let ok ← isTrue c env (eval c env); pure (ForInStep.yield ok) else pure (ForInStep.yield r)
abbrev XI (g : GE) (d : Nat) (env : Env) (ρ : Loc) (σ : Sto) (es : List Expr) (k : Bool → Sto → Prop) : Prop := WB g d env T0 ρ σ (testsT es env) k
theorem i_nil {k : Bool → Sto → Prop} (q : k true σ) : XI g d env ρ σ [] k := fun A s r i p => wpAny_tests_nil (Post.here (x := true) i rfl ⟨q⟩)
theorem i_one {c : Expr} {k : Bool → Sto → Prop} (h : XT g d env ρ σ c k) : XI g d env ρ σ [c] k := fun A s r i p => wpAny_tests_one (h A s r i trivial)

theorem compLoop_own {A : Around} {s : Shared} {elt target iter : Expr} {ifs : List Expr} {scope : Scope} {pos : Pos} {it acc : Value} {R : Result → Shared → Prop} (I : Nat → Shared → Prop)
    (turn : ∀ n s, I n s → wpAny g.M A (pyNext it) (fun r s₁ => match r with
      | none => R (.ok .next) s₁
      | some v => wpAny g.M A (letOwnedTupleGo target it v) (fun _ s₀ => wpAny g.M A (assign target env v) (fun _ s₂ =>
          wpAny g.M A (testsT ifs env) (fun ok s₃ =>
            if ok = true then wpAny g.M A (eval elt env) (fun x s₄ =>
              wpAny g.M A (call (.builtin "list.append") [acc, x]) (fun _ s₅ => ∃ m, m < n ∧ I m s₅) (notedBy g.M A env fun e s' => R (.error e) s') s₄) (notedBy g.M A env fun e s' => R (.error e) s') s₃
            else ∃ m, m < n ∧ I m s₃) (notedBy g.M A env fun e s' => R (.error e) s') s₂) (notedBy g.M A env fun e s' => R (.error e) s') s₀) (notedBy g.M A env fun e s' => R (.error e) s') s₁) (notedBy g.M A env fun e s' => R (.error e) s') s)
    (n : Nat) (h : I n s) : codeAny g.M A (.compLoop (.ListComp elt [⟨target, iter, ifs, 0⟩] scope pos) 0 it acc env) R s := by
  refine codeAny_loop rfl I (fun n s hI => ?_) n h
  show wpAny _ A ((compTurn (.ListComp elt [⟨target, iter, ifs, 0⟩] scope pos) 0 it acc env).onRaise (fun x => do noteFrame x env; theTreesLotGoes x)) _ _ s
  refine wpAny_noted ?_
  rw [compTurn_list]
  refine wpAny_bind (wpAny_standAt (wpAny_bind (wpAny_mono (turn n s hI) (fun r s₁ h₁ => ?_) fun _ _ h' => h')))
  cases r with
  | none => exact wpAny_pure h₁
  | some v =>
    refine wpAny_bind (wpAny_mono h₁ (fun _ s₀ h₀' => ?_) fun _ _ h' => h')
    refine wpAny_bind (wpAny_mono h₀' (fun _ s₂ h₂ => wpAny_bind (wpAny_mono h₂ (fun ok s₃ h₃ => ?_) fun _ _ h' => h')) fun _ _ h' => h')
    cases ok with
    | false => exact wpAny_pure ⟨rfl, h₃⟩
    | true =>
      exact wpAny_bind (wpAny_bind (wpAny_mono h₃ (fun x s₄ h₄ => wpAny_bind (wpAny_mono h₄ (fun _ s₅ h₅ => wpAny_pure (wpAny_pure ⟨rfl, h₅⟩)) fun _ _ h' => h')) fun _ _ h' => h'))

theorem pyIter_iter {A : Around} {s : Shared} {x : V} {v : Value} {it : Addr} {i : Nat} {E : Value → Shared → Prop} {Q : Value → Shared → Prop} (z : IterAt g σ s.heap x v it i) (q : Q (.ref it) s) : wpAny g.M A (pyIter (.ref it)) Q E s := by
  obtain ⟨o, hu, io⟩ := z.ob
  cases x with
  | ref a => exact wpAny_pyIter_listiter (l := _) (i := i) ⟨o, hu.1, io⟩ q
  | tup l => obtain ⟨t, _, a⟩ := io; exact wpAny_pyIter_tupleiter (t := t) (i := i) ⟨o, hu.1, a⟩ q
  | rng a b => cases (show o = _ from io); exact wpAny_pyIter_rangeiter hu.1 q
  | str s => obtain ⟨t, a⟩ := io; exact wpAny_pyIter_striter_ascii (i := i) ⟨o, hu.1, a⟩ q
  | _ => exact io.elim

/-- what a comprehension's scope must be -/
noncomputable def scOk (scope : Scope) : Bool := (scope.kind == .function) && scope.names.all (fun x => x.2 != .cell && (x.2 != .local || scope.names.lookup x.1 == some .local))
theorem scOk_of {scope : Scope} (h : scOk scope = true) : scope.kind = .function ∧ (∀ x ∈ scope.names, x.2 ≠ .cell) ∧ (∀ x ∈ scope.names, x.2 = .local → scope.names.lookup x.1 = some .local) := by
  obtain ⟨a, b⟩ := Bool.and_eq_true_iff.mp h
  refine ⟨eq_of_beq a, fun x hx => bne_iff_ne.mp (Bool.and_eq_true_iff.mp (List.all_eq_true.mp b x hx)).1, fun x hx hl => ?_⟩
  have := (Bool.and_eq_true_iff.mp (List.all_eq_true.mp b x hx)).2
  rw [hl] at this
  exact eq_of_beq this
/-- what a comprehension wants -/
inductive CompJ (g : GE) (d : Nat) (env : Env) (n : Nat) (elt target : Expr) (ifs : List Expr) (scope : Scope) (cl : List (Str × Addr)) (k : V → Sto → Prop) (x : V) (σ₁ : Sto) : Prop
  | mk (l : List V) (J : Addr → Nat → List V → Sto → Prop) (jx : Its σ₁ x l) (j0 : ∀ acc, σ₁ acc = none → J acc 0 [] (upd σ₁ acc (.list []))) (jl : ∀ acc i out σ', J acc i out σ' → i ≤ l.length → Its σ' x l)
      (jt : ∀ C acc i out y σ', J acc i out σ' → l[i]? = some y → ∃ ρ₂, (∀ {u k}, k ρ₂ σ' → WU g d (compEnvC scope cl C env) (T1 g y u) (List.replicate n none) σ' (assign target (compEnvC scope cl C env) u) k) ∧
        XI g d (compEnvC scope cl C env) ρ₂ σ' ifs fun b σ₃ => Br b (XE g d (compEnvC scope cl C env) ρ₂ σ₃ elt fun v σ₄ => σ₄ acc = some (.list out) ∧ out.length ≤ big ∧ J acc (i + 1) (out ++ [v]) (upd σ₄ acc (.list (out ++ [v])))) (J acc (i + 1) out σ₃))
      (je : ∀ acc out σ', J acc l.length out σ' → k (.ref acc) σ') : CompJ g d env n elt target ifs scope cl k x σ₁

theorem comp_core (ok : TOk g tb) (he : EnvOk env) {n : Nat} {elt target iter : Expr} {ifs : List Expr} {scope : Scope} {f : Str → Addr} {cl : List (Str × Addr)} {pos ipos : Pos} {use : Option (Value → Sem Unit)} {Q : Value → Shared → Prop} {k : V → Sto → Prop} (hs : ∀ x, foldedSetIterable iter env x = pure x)
    (hsc : scOk scope = true) (hcl : ∀ n ∈ freeN scope.names, env.cells.lookup n = some (f n)) (ecl : (freeN scope.names).reverse.map (fun n => (n, f n)) = cl)
    (h : XE g d env ρ σ iter (CompJ g d env n elt target ifs scope cl k))
    {A : Around} {s : Shared} (r : Rm A d) (iv : Inv g env ρ σ s.heap)
    (fin : ∀ {acc C h' tk σ' m o}, Inv g env ρ σ' h' → Ev (some env.locals) σ s.heap σ' h' → k (.ref acc) σ' → h'.Ns C m → U σ' h' C o → ¬ notDict o → g.h₀.get? C = none → C ≠ env.locals → (∀ {b y}, some b ≠ some env.locals → U σ s.heap b y → b ≠ C) → compPost g.M A NoE use Q (.ref acc) C (.ok .next) { s with heap := h', toks := tk }) :
    wpAny g.M A (comprehension (.ListComp elt [⟨target, iter, ifs, 0⟩] scope pos) scope env ipos (newList []) false (eval iter env) use) Q NoE s := by
  obtain ⟨hkind, hcell, hnames⟩ := scOk_of hsc
  refine wpAny_comprehension_free (g := ⟨target, iter, ifs, 0⟩) (gs := []) rfl hs (by rw [closure_eq hcl, ecl]) hkind hnames (h.runE r iv trivial fun x σ₁ h₁ tk v i₁ ev₁ rr q => ?_)
  obtain ⟨l, J, jx, j0, jl, jt, je⟩ := q
  refine iter_of (s := { s with heap := h₁, toks := tk }) i₁ rr jx fun o ia => wpAny_newObj_type ?_
  have i₂ := i₁.push o
  have hk3 : ∀ b y, b ≠ (h₁.push o).objs.size → (h₁.push o).get? b = some y → ((h₁.push o).push { cls := .type "list", data := .seq ([] : List Value).toArray }).get? b = some y := fun b y _ e => Heap.get?_push_of_some _ e
  have hn3 : σ₁ (h₁.push o).objs.size = none → (h₁.push o).get? (h₁.push o).objs.size = none := fun _ => Heap.get?_none_of_le (Nat.le_refl _)
  have i₃ := i₂.upd (c := .list []) hk3 hn3 (Heap.get?_push_size _ rfl) ⟨_, _, rfl, rfl⟩
  have ev₂ : Ev none σ₁ h₁ σ₁ (h₁.push o) := ev_push o
  have ev₃ : Ev none σ₁ (h₁.push o) (upd σ₁ (h₁.push o).objs.size (.list [])) ((h₁.push o).push { cls := .type "list", data := .seq ([] : List Value).toArray }) := ev_upd hk3 hn3
  have ia₃ := ia.keep i₂ ev₃.weak
  have j0 := j0 _ i₂.ok.none_size
  have ev₃ := ev₂.trans ev₃
  generalize (h₁.push o).objs.size = acc at i₃ ev₃ ia₃ j0 ⊢
  generalize (h₁.push o).push { cls := .type "list", data := .seq ([] : List Value).toArray } = h₃ at i₃ ev₃ ia₃ ⊢
  refine wpAny_newFunctionEnv hcell (fun _ hy => (List.not_mem_nil hy).elim) (fun h₄ hns hsb => ?_) hkind
  have up34 : ∀ b y, h₃.get? b = some y → h₄.get? b = some y := fun b y e => hsb.extBut b y (Nat.ne_of_lt (Heap.lt_size e)) (Heap.get?_push_of_some _ e)
  show codeAny _ _ (.compStart _ 0 _ _ (compEnvC scope cl h₃.objs.size env)) (compPost _ _ _ _ _ _ h₃.objs.size) _
  have hCn : h₃.get? h₃.objs.size = none := Heap.get?_none_of_le (Nat.le_refl _)
  have hC1 : ∀ {b y}, U σ₁ h₁ b y → b ≠ h₃.objs.size := fun {b y} u e => by cases hCn.symm.trans (e ▸ (ev₃ b y (fun e => by cases e) u).1)
  have hCσ := i₃.ok.none_size
  have hCL : h₃.objs.size ≠ env.locals := fun e => by
    obtain ⟨m, ⟨y, es, ep, e1, _⟩, _⟩ := i₃.fr
    rw [← e] at e1; cases hCn.symm.trans e1
  have hCb : g.h₀.get? h₃.objs.size = none := by
    cases z : g.h₀.get? h₃.objs.size with
    | none => rfl
    | some y => cases hCn.symm.trans (i₃.ok.keep _ y z)
  have i₄ := i₃.grow up34
  have hsz := i₃.ok.size
  generalize h₃.objs.size = C at hns hC1 hCσ hCL hCb hsz ⊢
  have ic : Inv g (compEnvC scope cl C env) (List.replicate n none) (upd σ₁ acc (.list [])) h₄ := ⟨i₄.ok, ⟨_, hns, fun x v e => (at_none e).elim⟩, hCσ, hsz⟩
  have ev₄ : Ev (some C) σ₁ h₁ (upd σ₁ acc (.list [])) h₄ := ev₃.weak.trans (ev_grow up34)
  have ia₄ : IterAt g (upd σ₁ acc (.list [])) h₄ x v h₁.objs.size 0 := ia₃.keep i₃ (ev_grow up34)
  have hit : h₁.get? h₁.objs.size = none := Heap.get?_none_of_le (Nat.le_refl _)
  have key : ∀ {tk}, codeAny g.M A (.compLoop (.ListComp elt [⟨target, iter, ifs, 0⟩] scope pos) 0 (.ref h₁.objs.size) (.ref acc) (compEnvC scope cl C env)) (compPost g.M A NoE use Q (.ref acc) C) { s with heap := h₄, toks := tk } := fun {tk} => by
    refine compLoop_own (LoopI g (compEnvC scope cl C env) s σ₁ h₁ x v h₁.objs.size l fun i ρ' σ' => ρ' = List.replicate n none ∧ ∃ out, J acc i out σ') (fun m s' I => ?_) l.length ⟨ic, ev₄, ia₄, rfl, Nat.zero_le _, rfl, _, j0⟩
    refine I.next r.handled hit (fun i ρ' σ' j le => by obtain ⟨_, out, j⟩ := j; exact jl acc i out _ j le) (fun {i ρ' σ' h₂ tk₂ u y} hy iv₂ ev₂ ia₂ pu j lt le => ?_) (fun {ρ' σ' h₂ tk} iv₂ ev₂ j => ?_)
    · obtain ⟨rfl, out, j⟩ := j
      obtain ⟨ρ₂, hT, hI⟩ := jt C acc i out y _ j hy
      refine ownGo (s := { s with heap := h₂, toks := tk₂ }) ia₂ ?_
      refine (hT (u := u) (k := fun ρ σ => ρ = ρ₂ ∧ σ = σ') ⟨rfl, rfl⟩).run (s := { s with heap := h₂, toks := tk₂ }) r iv₂ pu fun _ ρ₃ σ₃ h₃ tk₃ _ iv₃ ev₃ _ q₃ => ?_
      obtain ⟨rfl, rfl⟩ := q₃
      refine hI.runE (s := { s with heap := h₃, toks := tk₃ }) r iv₃ trivial fun b' σ₄ h₄ tk₄ b iv₄ ev₄ rb q₄ => ?_
      cases (show b' = b from rb)
      have ia₄ := (ia₂.keep iv₂ ev₃).keep iv₃ ev₄
      have ev₄ := (ev₂.trans ev₃).trans ev₄
      cases b' with
      | false => exact ⟨_, lt, iv₄.forget, ev₄, ia₄, rfl, le, rfl, _, q₄⟩
      | true =>
        refine W.runE q₄ (s := { s with heap := h₄, toks := tk₄ }) r iv₄ trivial fun w σ₅ h₅ tk₅ xv iv₅ ev₅ rw₅ q₅ => ?_
        obtain ⟨q5a, q5b, q5c⟩ := q₅
        have ap : VC g tb d (.bi "list.append") [.ref acc, w] σ₅ (fun _ σ' => J acc (i + 1) (out ++ [w]) σ') := v_app q5a q5b q5c
        refine (W_call (fv := .builtin "list.append") (vs := [.ref acc, xv]) (ap.run ok)).runE (s := { s with heap := h₅, toks := tk₅ }) r iv₅ ⟨rfl, _, _, rfl, rfl, _, _, rfl, rw₅, rfl⟩ fun _ σ₆ h₆ tk₆ _ iv₆ ev₆ _ q₆ => ?_
        exact ⟨_, lt, iv₆.forget, (ev₄.trans ev₅).trans ev₆, (ia₄.keep iv₄ ev₅).keep iv₅ ev₆, rfl, le, rfl, _, q₆⟩
    · obtain ⟨rfl, out, j⟩ := j
      have ev0 : Ev none σ₁ h₁ σ' h₂ := fun b y _ ub => ev₂ b y (fun q => hC1 ub (Option.some.inj q)) ub
      obtain ⟨mC, ⟨oC', esC', epC', c1', c2', c3'⟩, _⟩ := id iv₂.fr
      exact fin (i₁.back iv₂.ok ev0.kp0 fun o u => ev0 _ _ (fun e => by cases e) u) (ev₁.trans ev0.weak) (je acc out σ' j) ⟨oC', esC', epC', c1', c2', c3'⟩ ⟨c1', iv₂.loc⟩ (fun nd => nd _ _ c2') hCb hCL fun ne u => hC1 (ev₁ _ _ ne u)
  refine codeAny_compStart_list key ?_
  exact pyIter_iter (s := { s with heap := h₄, toks := _ }) ia₄ key

theorem c_comp (ok : TOk g tb) (he : EnvOk env) {n : Nat} {elt target iter : Expr} {ifs : List Expr} {scope : Scope} {f : Str → Addr} {cl : List (Str × Addr)} {pos : Pos} {k : V → Sto → Prop} (hs : ∀ x, foldedSetIterable iter env x = pure x)
    (hsc : scOk scope = true) (hcl : ∀ n ∈ freeN scope.names, env.cells.lookup n = some (f n)) (ecl : (freeN scope.names).reverse.map (fun n => (n, f n)) = cl)
    (h : XE g d env ρ σ iter (CompJ g d env n elt target ifs scope cl k)) : XE g d env ρ σ (.ListComp elt [⟨target, iter, ifs, 0⟩] scope pos) k := fun A s r iv _ => by
  rw [eval_ListComp]
  refine comp_core ok he hs hsc hcl ecl h r iv fun {acc C h' tk σ' m o} iv' ev hk hn hu hd hb hl hC => ⟨m, hn, fun h'' hs' => ?_⟩
  have kk : ∀ b y, b ≠ C → h'.get? b = some y → h''.get? b = some y := fun b y ne e => (hs'.2 b ne).trans e
  obtain ⟨o', kp⟩ := iv'.ok.but hu hd hb kk
  exact .mk (V.ref acc) ρ σ' h'' tk (iv'.back o' kp fun o u => ⟨kk _ _ (Ne.symm hl) u.1, u.2⟩) (fun b y ne u => ⟨kk b y (hC ne u) (ev b y ne u).1, (ev b y ne u).2⟩) rfl ⟨hk⟩
/-- x = [.. for ..], the list stored ahead of the names' going -/
theorem s_assignComp (ok : TOk g tb) (he : EnvOk env) {n : Nat} {elt target iter : Expr} {ifs : List Expr} {scope : Scope} {f : Str → Addr} {cl : List (Str × Addr)} {y : Str} {py pos spos : Pos} {k : Fl → Loc → Sto → Prop} (hs : ∀ x, foldedSetIterable iter env x = pure x)
    (hsc : scOk scope = true) (hcl : ∀ n ∈ freeN scope.names, env.cells.lookup n = some (f n)) (ecl : (freeN scope.names).reverse.map (fun n => (n, f n)) = cl)
    (hsw : swapsWith (.ListComp elt [⟨target, iter, ifs, 0⟩] scope pos) (some (.Name y py)) spos.line env = pure true)
    (h : XE g d env ρ σ iter (CompJ g d env n elt target ifs scope cl fun v σ' => SX g d env y v ρ σ' (k .next))) : XS g d env ρ σ (.Assign [.Name y py] (.ListComp elt [⟨target, iter, ifs, 0⟩] scope pos) spos) k := fun A s r iv _ => by
  rw [exec_Assign_Name_used _ _ _ _ hsw]
  refine wpAny_bind (wpAny_standAt (wpAny_bind ?_))
  show wpAny _ A (do let _ ← comprehension (.ListComp elt [⟨target, iter, ifs, 0⟩] scope pos) scope env _ (newList []) false (eval iter env) (some (assign (.Name y py) env))) _ _ s
  refine wpAny_bind (wpAny_mono (comp_core (Q := fun _ s' => Post g env (FR g) σ s k .next s') ok he hs hsc hcl ecl h r iv fun {acc C h' tk σ' m o} iv' ev hk hn hu hd hb hl hC => ?_) (fun _ s' z => wpAny_pure (wpAny_pure z)) fun _ _ e => e)
  refine (SX.name hk (pos := py) (u := .ref acc)).run (s := { s with heap := h', toks := tk }) r iv' (show VR g σ' h' (.ref acc) (.ref acc) from rfl) fun _ ρ₂ σ₂ h₂ tk₂ _ iv₂ ev₂ _ q₂ => ?_
  have hu₂ := ev₂ C o (fun e => hl (Option.some.inj e)) hu
  obtain ⟨oC, es, ep, n1, n2⟩ := hn
  cases hu.1.symm.trans n1
  refine ⟨m, ⟨o, es, ep, hu₂.1, n2⟩, fun h'' hs' => ?_⟩
  have kk : ∀ b y, b ≠ C → h₂.get? b = some y → h''.get? b = some y := fun b y ne e => (hs'.2 b ne).trans e
  obtain ⟨o', kp⟩ := iv₂.ok.but hu₂ hd hb kk
  exact .mk Fl.next ρ₂ σ₂ h'' tk₂ (iv₂.back o' kp fun o u => ⟨kk _ _ (Ne.symm hl) u.1, u.2⟩) (fun b y ne u => ⟨kk b y (hC ne u) (ev₂ b y ne (ev b y ne u)).1, (ev₂ b y ne (ev b y ne u)).2⟩) rfl q₂
end
end Mine

set_option genInjectivity false
namespace Mine

/-! ## a def's body, its names turned to places; what it does, by definition -/
inductive I where
  | bad | nil | cons (a r : I)
  | k (v : V) | x (i : Nat) | c (i : Nat)
  | bin (op : Operator) (a b : I) | neg (a : I) | ite (t a b : I) | cmp (op : CmpOp) (a b : I) | and2 (a b : I)
  | cmp2 (o1 o2 : CmpOp) (a b c : I) | not (a : I) | ort (a b : I) | tst (a : I)
  | att (o : I) (n : Str) | sub (o i : I) | sli (o a b c : I)
  | tup (es : I) | lst (es : I) | call (f es : I) | new (n : Str) (es : I) | meth (o : I) (n : Str) (es : I)
  | kv (y : Str) (a r : I) | dic (a : I)
  | comp (n i j : Nat) (cs : List Nat) (it ifs elt : I)
  | lam (P : Addr) (pos : Pos) (q : Str) (f : FnI) (ns : List (Str × Nat))
  | expr (a : I) | asg (i : Nat) (a : I) | asgC (i : Nat) (a : I) | asg2 (b1 : Bool) (i : Nat) (b2 : Bool) (j : Nat) (a : I) | satt (o : I) (n : Str) (a : I) | sitem (o i a : I)
  | augx (i : Nat) (a : I) | auga (o : I) (n : Str) (a : I) | iff (t a b : I) | ret (a : I) | ret0 | cont | whil (t b : I) | for (i : Nat) (a b : I) | forC (i : Nat) (a b : I)
abbrev Lo := List (Option V)
abbrev KE := V → Sto → Prop
abbrev KF := Fl → Lo → Sto → Prop
section
variable (g : GE)
noncomputable def opW (op : Operator) (x y : V) (σ : Sto) (k : KE) : Prop := match op with
  | .Add => (match x with
    | .int a => (match y with
      | .int b => k (.int (a + b)) σ
      | _ => False)
    | _ => VB g .Add x y σ k)
  | .Sub => (match x with
    | .int a => (match y with
      | .int b => k (.int (a - b)) σ
      | _ => False)
    | _ => VB g .Sub x y σ k)
  | op => VB g op x y σ k
noncomputable def cmW (op : CmpOp) (x y : V) (σ : Sto) (k : Bool → Prop) : Prop := match x with
  | .int a => (match y with
    | .int b => (match op with
      | .Eq => k (decide (a = b))
      | .NotEq => k (!decide (a = b))
      | .Lt => k (decide (a < b))
      | .LtE => k (decide (a ≤ b))
      | .Gt => k (decide (b < a))
      | .GtE => k (decide (b ≤ a))
      | op => VQ g op (.int a) (.int b) σ k)
    | y => VQ g op (.int a) y σ k)
  | .str a => (match y with
    | .str b => (match op with
      | .Eq => k (decide (a = b))
      | .NotEq => k (!decide (a = b))
      | op => VQ g op (.str a) (.str b) σ k)
    | y => VQ g op (.str a) y σ k)
  | x => VQ g op x y σ k
noncomputable def suW (x y : V) (σ : Sto) (k : V → Prop) : Prop := match x with
  | .tup l => (match y with
    | .int i => (match i with
      | .ofNat n => Br (Nat.blt n 1000) (match l[n]? with
        | some v => k v
        | none => False) False
      | _ => False)
    | _ => False)
  | x => VU g x y σ k
end
noncomputable def okF : V → Bool
  | .fn _ => true
  | .bi _ => true
  | .ty _ => true
  | _ => false
noncomputable def tupW (v : V) (f : List V → Prop) : Prop := match v with
  | .tup l => f l
  | _ => False
noncomputable def twoW (v : V) (f : V → V → Prop) : Prop := match v with
  | .tup l => (match l with
    | x :: r => (match r with
      | y :: r => (match r with
        | [] => f x y
        | _ => False)
      | _ => False)
    | _ => False)
  | _ => False
noncomputable def optW (v : Option V) (f : V → Prop) : Prop := match v with
  | some v => f v
  | none => False
noncomputable def locW (ρ : Lo) (i : Nat) (f : V → Prop) : Prop := match ρ[i]? with
  | some v => optW v f
  | none => False
/-- a comprehension's target, in n places -/
noncomputable def tgV (n i j : Nat) (v : V) (f : Lo → Prop) : Prop := match j with
  | 0 => f ((List.replicate n none).set i (some v))
  | j + 1 => twoW v fun a b => f (((List.replicate n none).set i (some a)).set (j + 1) (some b))
noncomputable def kvK : List V → (List (Str × V) → Prop) → Prop
  | [], f => f []
  | u :: r, f => twoW u fun a v => match a with
    | .str y => kvK r fun x => f ((y, v) :: x)
    | _ => False
inductive LD (σ : Sto) (c : Option Addr) (k : V → Prop) : Prop
  | mk {a v} (h : c = some a) (e : σ a = some (.cell (some v))) (q : k v) : LD σ c k
inductive LW (σ : Sto) (c : Option Addr) (v : V) (k : Sto → Prop) : Prop
  | mk {a u} (h : c = some a) (e : σ a = some (.cell u)) (q : k (upd σ a (.cell (some v)))) : LW σ c v k
inductive LP (σ : Sto) (P : Addr) (pos : Pos) (q : Str) (k : Prop) : Prop
  | mk (e : σ P = some (.tab pos q)) (h : k) : LP σ P pos q k
/-- a comprehension's list, an item more -/
noncomputable def accK (J : Addr → Nat → List V → Sto → Prop) (acc : Addr) (i : Nat) (out : List V) : KE := fun v σ => σ acc = some (.list out) ∧ out.length ≤ big ∧ J acc (i + 1) (out ++ [v]) (upd σ acc (.list (out ++ [v])))
noncomputable def fltK (J : Addr → Nat → List V → Sto → Prop) (acc : Addr) (i : Nat) (out : List V) (B : Sto → KE → Prop) : KE := fun v σ => tstW v fun b => Br b (B σ (accK J acc i out)) (J acc (i + 1) out σ)
inductive LC (x : V) (n i j : Nat) (F B : Lo → Sto → KE → Prop) (σ : Sto) (k : KE) : Prop
  | mk (l : List V) (J : Addr → Nat → List V → Sto → Prop) (jx : Its σ x l) (j0 : ∀ acc, σ acc = none → J acc 0 [] (upd σ acc (.list []))) (jl : ∀ acc i out σ', J acc i out σ' → i ≤ l.length → Its σ' x l)
      (jt : ∀ acc m out y σ', J acc m out σ' → l[m]? = some y → tgV n i j y fun ρ => F ρ σ' (fltK J acc m out (B ρ))) (je : ∀ acc out σ', J acc l.length out σ' → k (.ref acc) σ') : LC x n i j F B σ k
/-- a loop's target -/
noncomputable def setX (i : Nat) (z : V) (ρ : Lo) (σ : Sto) (q : Lo → Sto → Prop) : Prop := q (ρ.set i (some z)) σ
noncomputable def setC (c : Option Addr) (z : V) (ρ : Lo) (σ : Sto) (q : Lo → Sto → Prop) : Prop := LW σ c z (q ρ)
inductive LF (T : V → Lo → Sto → (Lo → Sto → Prop) → Prop) (B : Lo → Sto → KF → Prop) (k : KF) (ρ : Lo) (y : V) (σ : Sto) : Prop
  | mk (l : List V) (J : Nat → Lo → Sto → Prop) (j0 : J 0 ρ σ) (jl : ∀ i ρ' σ', J i ρ' σ' → i ≤ l.length → Its σ' y l)
      (jt : ∀ i z ρ' σ', J i ρ' σ' → l[i]? = some z → T z ρ' σ' fun ρ₂ σ₂ => B ρ₂ σ₂ (loopF (J (i + 1)) k)) (je : ∀ ρ' σ', J l.length ρ' σ' → k .next ρ' σ') : LF T B k ρ y σ
noncomputable def whiK (J : Nat → Lo → Sto → Prop) (m : Nat) (B : Lo → Sto → KF → Prop) (k : KF) (ρ : Lo) : KE := fun v σ => tstW v fun b => Br b (B ρ σ (loopF (fun ρ₃ σ₃ => ∃ m', m' < m ∧ J m' ρ₃ σ₃) k)) (k .next ρ σ)
inductive LH (T : Lo → Sto → KE → Prop) (B : Lo → Sto → KF → Prop) (k : KF) (ρ : Lo) (σ : Sto) : Prop
  | mk (J : Nat → Lo → Sto → Prop) (m : Nat) (j0 : J m ρ σ) (jt : ∀ m ρ' σ', J m ρ' σ' → T ρ' σ' (whiK J m B k ρ')) : LH T B k ρ σ
/-! what is done with an answer -/
abbrev WX := Sto → KE → Prop
section
variable (g : GE)
noncomputable def binK (op : Operator) (W : WX) (k : KE) : KE := fun x σ => W σ fun y σ => opW g op x y σ k
noncomputable def cmpK (op : CmpOp) (W : WX) (k : KE) : KE := fun x σ => W σ fun y σ => cmW g op x y σ fun b => k (.bool b) σ
noncomputable def cmp2K (o1 o2 : CmpOp) (B C : WX) (k : KE) : KE := fun x σ => B σ fun y σ => cmW g o1 x y σ fun b => Br b (C σ fun z σ => cmW g o2 y z σ fun c => k (.bool c) σ) (k (.bool false) σ)
noncomputable def subK (W : WX) (k : KE) : KE := fun x σ => W σ fun y σ => suW g x y σ fun z => k z σ
noncomputable def sliK (A B C : WX) (k : KE) : KE := fun x σ => A σ fun y σ => B σ fun z σ => C σ fun u σ => VL g x y z u σ k
end
noncomputable def negK (k : KE) : KE := fun x σ => intW x fun i => k (.int (-i)) σ
noncomputable def iteK (A B : WX) (k : KE) : KE := fun c σ => tstW c fun c => Br c (A σ k) (B σ k)
noncomputable def tstK (k : KE) : KE := fun x σ => tstW x fun b => k (.bool b) σ
noncomputable def notK (k : KE) : KE := fun x σ => tstW x fun b => k (.bool (!b)) σ
noncomputable def andK (B : WX) (k : KE) : KE := fun x σ => tstW x fun c => Br c (B σ k) (k (.bool false) σ)
noncomputable def orK (B : WX) (k : KE) : KE := fun x σ => tstW x fun c => Br c (k (.bool true) σ) (B σ k)
noncomputable def tupK (k : KE) : KE := fun vs σ => tupW vs fun l => Br (Nat.ble l.length 1000000) (k (.tup l) σ) False
noncomputable def consK (W : WX) (k : KE) : KE := fun v σ => W σ fun vs σ => tupW vs fun l => k (.tup (v :: l)) σ
noncomputable def lstK (k : KE) : KE := fun vs σ => tupW vs fun l => Br (Nat.ble l.length 1000000) (∀ a, σ a = none → k (.ref a) (upd σ a (.list l))) False
noncomputable def kvcK (y : Str) (W : WX) (k : KE) : KE := fun v σ => W σ fun vs σ => tupW vs fun l => k (.tup (.tup [.str y, v] :: l)) σ
noncomputable def dicK (k : KE) : KE := fun vs σ => tupW vs fun l => kvK l fun x => ∀ a, σ a = none → k (.ref a) (upd σ a (.map (mergedV [] x)))
noncomputable def iffK (A B : Lo → Sto → KF → Prop) (ρ : Lo) (k : KF) : KE := fun c σ => tstW c fun c => Br c (A ρ σ k) (B ρ σ k)
noncomputable def nextK (ρ : Lo) (k : KF) : KE := fun _ σ => k .next ρ σ
noncomputable def asgK (i : Nat) (ρ : Lo) (k : KF) : KE := fun v σ => k .next (ρ.set i (some v)) σ
noncomputable def asgCK (c : Option Addr) (ρ : Lo) (k : KF) : KE := fun v σ => LW σ c v fun σ => k .next ρ σ
noncomputable def asg2K (b1 : Bool) (i : Nat) (b2 : Bool) (j : Nat) (cv : List Addr) (ρ : Lo) (k : KF) : KE := fun v σ => twoW v fun x y => match b1 with
    | false => k .next ((ρ.set i (some x)).set j (some y)) σ
    | true => (match b2 with
      | false => LW σ cv[i]? x fun σ => k .next (ρ.set j (some y)) σ
      | true => LW σ cv[i]? x fun σ => LW σ cv[j]? y fun σ => k .next ρ σ)
noncomputable def retK (ρ : Lo) (k : KF) : KE := fun v σ => k (.ret v) ρ σ
section
variable (g : GE) (tb : TB) (d : Nat)
noncomputable def attK (n : Str) (k : KE) : KE := fun x σ => VG g tb x n σ fun v => k v σ
noncomputable def callK (W : WX) (k : KE) : KE := fun x σ => Br (okF x) (W σ fun vs σ => tupW vs fun l => VC g tb d x l σ k) False
noncomputable def newK1 (n : Str) (k : KE) : KE := fun vs σ => tupW vs fun l => VC g tb d (.cls n) l σ k
noncomputable def methK (n : Str) (W : WX) (k : KE) : KE := fun x σ => VM g tb x n σ fun f fx => W σ fun vs σ => tupW vs fun l => VC g tb d f (fx ++ l) σ k
noncomputable def sattK (n : Str) (W : WX) (ρ : Lo) (k : KF) : KE := fun v σ => W σ fun x σ => VS g tb x n v σ fun σ => k .next ρ σ
noncomputable def sitK (W U : WX) (ρ : Lo) (k : KF) : KE := fun v σ => W σ fun x σ => U σ fun y σ => VI g x y v σ fun σ => k .next ρ σ
noncomputable def augK (n : Str) (W : WX) (ρ : Lo) (k : KF) : KE := fun x σ => VG g tb x n σ fun v => W σ fun y σ => intW v fun a => intW y fun b => VS g tb x n (.int (a + b)) σ fun σ => k .next ρ σ
noncomputable def wE : I → List Addr → Lo → Sto → KE → Prop
  | .k v, _, _, σ, k => k v σ
  | .x i, _, ρ, σ, k => locW ρ i fun v => k v σ
  | .c i, cv, ρ, σ, k => LD σ cv[i]? fun v => k v σ
  | .bin op a b, cv, ρ, σ, k => wE a cv ρ σ (binK g op (wE b cv ρ) k)
  | .neg a, cv, ρ, σ, k => wE a cv ρ σ (negK k)
  | .ite t a b, cv, ρ, σ, k => wE t cv ρ σ (iteK (wE a cv ρ) (wE b cv ρ) k)
  | .cmp op a b, cv, ρ, σ, k => wE a cv ρ σ (cmpK g op (wE b cv ρ) k)
  | .and2 a b, cv, ρ, σ, k => wE a cv ρ σ (andK (wE b cv ρ) k)
  | .cmp2 o1 o2 a b c, cv, ρ, σ, k => wE a cv ρ σ (cmp2K g o1 o2 (wE b cv ρ) (wE c cv ρ) k)
  | .tst a, cv, ρ, σ, k => wE a cv ρ σ (tstK k)
  | .not a, cv, ρ, σ, k => wE a cv ρ σ (notK k)
  | .ort a b, cv, ρ, σ, k => wE a cv ρ σ (orK (wE b cv ρ) k)
  | .att o n, cv, ρ, σ, k => wE o cv ρ σ (attK g tb n k)
  | .sub o i, cv, ρ, σ, k => wE o cv ρ σ (subK g (wE i cv ρ) k)
  | .sli o a b c, cv, ρ, σ, k => wE o cv ρ σ (sliK g (wE a cv ρ) (wE b cv ρ) (wE c cv ρ) k)
  | .tup es, cv, ρ, σ, k => wE es cv ρ σ (tupK k)
  | .nil, _, _, σ, k => k (.tup []) σ
  | .cons a r, cv, ρ, σ, k => wE a cv ρ σ (consK (wE r cv ρ) k)
  | .lst es, cv, ρ, σ, k => wE es cv ρ σ (lstK k)
  | .call f es, cv, ρ, σ, k => wE f cv ρ σ (callK g tb d (wE es cv ρ) k)
  | .new n es, cv, ρ, σ, k => wE es cv ρ σ (newK1 g tb d n k)
  | .meth o n es, cv, ρ, σ, k => wE o cv ρ σ (methK g tb d n (wE es cv ρ) k)
  | .kv y a r, cv, ρ, σ, k => wE a cv ρ σ (kvcK y (wE r cv ρ) k)
  | .dic a, cv, ρ, σ, k => wE a cv ρ σ (dicK k)
  | .comp n i j cs it ifs elt, cv, ρ, σ, k => wE it cv ρ σ fun x σ => LC x n i j (wE ifs (cs.map fun i => cv.getD i 0)) (wE elt (cs.map fun i => cv.getD i 0)) σ k
  | .lam P pos q f ns, cv, ρ, σ, k => LP σ P pos q (k (.fn { f with closure := ns.map fun p => (p.1, cv.getD p.2 0) }) σ)
  | _, _, _, _, _ => False
termination_by structural a => a
noncomputable def wS : I → List Addr → Lo → Sto → KF → Prop
  | .nil, _, ρ, σ, k => k .next ρ σ
  | .cons a r, cv, ρ, σ, k => wS a cv ρ σ (thenF (fun ρ σ => wS r cv ρ σ k) k)
  | .expr e, cv, ρ, σ, k => wE g tb d e cv ρ σ (nextK ρ k)
  | .asg i e, cv, ρ, σ, k => wE g tb d e cv ρ σ (asgK i ρ k)
  | .asgC i e, cv, ρ, σ, k => wE g tb d e cv ρ σ (asgCK cv[i]? ρ k)
  | .asg2 b1 i b2 j e, cv, ρ, σ, k => wE g tb d e cv ρ σ (asg2K b1 i b2 j cv ρ k)
  | .satt o n e, cv, ρ, σ, k => wE g tb d e cv ρ σ (sattK g tb n (wE g tb d o cv ρ) ρ k)
  | .sitem o i e, cv, ρ, σ, k => wE g tb d e cv ρ σ (sitK g (wE g tb d o cv ρ) (wE g tb d i cv ρ) ρ k)
  | .augx i e, cv, ρ, σ, k => locW ρ i fun v => intW v fun a => wE g tb d e cv ρ σ fun y σ => intW y fun b => k .next (ρ.set i (some (.int (a + b)))) σ
  | .auga o n e, cv, ρ, σ, k => wE g tb d o cv ρ σ (augK g tb n (wE g tb d e cv ρ) ρ k)
  | .iff t a b, cv, ρ, σ, k => wE g tb d t cv ρ σ (iffK (wS a cv) (wS b cv) ρ k)
  | .ret e, cv, ρ, σ, k => wE g tb d e cv ρ σ (retK ρ k)
  | .ret0, _, ρ, σ, k => k (.ret .none) ρ σ
  | .cont, _, ρ, σ, k => k .cont ρ σ
  | .whil t b, cv, ρ, σ, k => LH (wE g tb d t cv) (wS b cv) k ρ σ
  | .for i e b, cv, ρ, σ, k => wE g tb d e cv ρ σ (LF (setX i) (wS b cv) k ρ)
  | .forC i e b, cv, ρ, σ, k => wE g tb d e cv ρ σ (LF (setC cv[i]?) (wS b cv) k ρ)
  | _, _, _, _, _ => False
termination_by structural a => a
end
end Mine

namespace Mine

/-! ## from a def's body to its tree -/
noncomputable def ixS (x : Str) : List Str → Nat
  | [] => 0
  | y :: r => if x = y then 0 else ixS x r + 1
noncomputable def whenB (b : Bool) (a : I) : I := match b with
  | true => a
  | false => .bad
noncomputable def freeOf (ns : List (Str × NameKind)) : List Str := (freeN ns).reverse
noncomputable def innerN (ns : List (Str × NameKind)) (scope : Scope) : List (Str × NameKind) := scope.names.map fun p => if (p.2 == NameKind.free && ns.lookup p.1 == some NameKind.cell) then (p.1, NameKind.cell) else (p.1, p.2)
noncomputable def notSet : Expr → Bool
  | .Set .. => false
  | _ => true
/-- what is known of the def -/
structure CX where
  tab : Option (Addr × Addr)
  qual : Str
  ns : List (Str × NameKind)
  cn : List Str
noncomputable def kOf (ns : List (Str × NameKind)) (x : Str) : Option NameKind := ns.lookup x
noncomputable def CX.isLoc (X : CX) (x : Str) : Bool := kOf X.ns x == some .local
noncomputable def cConst : Const → I
  | .int i => .k (.int i)
  | .str i => .k (.str i)
  | .none => .k .none
  | .bool b => .k (.bool b)
  | _ => .bad
noncomputable def cName (tb : TB) (X : CX) (x : Str) : I := match kOf X.ns x with
  | some .local => .x (ixN x X.ns)
  | some .globalImplicit => (match tb.gv x with
    | some v => .k v
    | none => .bad)
  | some .cell => .c (ixS x X.cn)
  | some .free => .c (ixS x X.cn)
  | _ => .bad
noncomputable def clsOf : I → Option Str
  | .k v => (match v with
    | .cls n => some n
    | _ => none)
  | _ => none
noncomputable def callI (tb : TB) (a b : I) : I := match clsOf a with
  | some n => (match tb.ct n with
    | some _ => .new n b
    | none => .bad)
  | none => .call a b
noncomputable def noAnn (params : Arguments) : Bool := (params.args ++ params.posonlyargs ++ params.vararg.toList ++ params.kwonlyargs ++ params.kwarg.toList).all (·.annotation.isNone)
noncomputable def lamV (X : CX) (params : Arguments) (b : FuncBody) (scope : Scope) (nm : Str) (pos : Pos) : I := match X.tab with
  | some p => whenB ((freeOf scope.names).all X.cn.contains && (params.defaults.isEmpty && (params.kw_defaults.isEmpty && noAnn params)))
      (.lam p.2 pos (X.qual ++ ".<locals>." ++ nm) { name := nm, qual := X.qual ++ ".<locals>." ++ nm, params, body := b, scope } ((freeOf scope.names).map fun n => (n, ixS n X.cn)))
  | none => .bad
noncomputable def nmOf : Expr → Option Str
  | .Name x _ => some x
  | _ => none
noncomputable def twoOf : Expr → Option (Str × Str)
  | .Tuple es _ _ => (match es with
    | a :: r => (match r with
      | b :: r => (match r with
        | [] => (match nmOf a with
          | some x => (match nmOf b with
            | some y => some (x, y)
            | none => none)
          | none => none)
        | _ => none)
      | _ => none)
    | _ => none)
  | _ => none
noncomputable def keyOf : Option Expr → Option Str
  | some e => (match e with
    | .Constant c _ _ => (match c with
      | .str y => some y
      | _ => none)
    | _ => none)
  | none => none
noncomputable def CX.inner (X : CX) (scope : Scope) : CX := ⟨none, X.qual, innerN X.ns scope, freeOf scope.names⟩
noncomputable def isMeth (f : Expr) : Option (Expr × Str × Pos) := match f with
  | .Attribute o m ap => some (o, m, ap)
  | _ => none
mutual
noncomputable def cE (tb : TB) : Nat → CX → Expr → I
  | 0, _, _ => .bad
  | n + 1, X, e => match e with
    | .Constant v _ _ => cConst v
    | .Name x _ => cName tb X x
    | .BinOp l op r _ => .bin op (cE tb n X l) (cE tb n X r)
    | .UnaryOp op e _ => (match op with
      | .USub => .neg (cE tb n X e)
      | _ => .bad)
    | .IfExp t a b _ => .ite (cT tb n X t) (cE tb n X a) (cE tb n X b)
    | .Compare l ops rs _ => (match ops with
      | op :: ops => (match ops with
        | [] => (match rs with
          | r :: rs => (match rs with
            | [] => whenB (!behindInMarks op r) (.cmp op (cE tb n X l) (cE tb n X r))
            | _ => .bad)
          | _ => .bad)
        | _ => .bad)
      | _ => .bad)
    | .BoolOp op es _ => (match op with
      | .And => (match es with
        | a :: r => (match r with
          | b :: r => (match r with
            | [] => .and2 (cE tb n X a) (cE tb n X b)
            | _ => .bad)
          | _ => .bad)
        | _ => .bad)
      | _ => .bad)
    | .Attribute o m _ => whenB (baseOk o) (.att (cE tb n X o) m)
    | .Subscript o i _ => (match i with
      | .Slice a b c _ => .sli (cE tb n X o) (cP tb n X a) (cP tb n X b) (cP tb n X c)
      | i => .sub (cE tb n X o) (cE tb n X i))
    | .Tuple es _ _ => .tup (cA tb n X es)
    | .List es _ => .lst (cA tb n X es)
    | .Call f es kws pos => (match kws with
      | [] => whenB (noStars es) (match isMeth f with
        | some p => whenB (baseOk p.1 && (Nat.ble (es.length + 1) 30 && (p.2.2.endLine == pos.line))) (.meth (cE tb n X p.1) p.2.1 (cA tb n X es))
        | none => callI tb (cE tb n X f) (cA tb n X es))
      | _ => .bad)
    | .Dict ks vs _ => whenB (ks.all (·.isSome) && (ks.length == vs.length && Nat.ble ks.length 15)) (.dic (cK tb n X ks vs))
    | .ListComp elt gens scope _ => (match gens with
      | c :: r => (match r with
        | [] => whenB (decide (c.is_async = 0)) (cC tb n X elt c.target c.iter c.ifs scope)
        | _ => .bad)
      | _ => .bad)
    | .Lambda params body scope pos => lamV X params (.expr body) scope "<lambda>" pos
    | _ => .bad
noncomputable def cP (tb : TB) : Nat → CX → Option Expr → I
  | 0, _, _ => .bad
  | n + 1, X, e => match e with
    | none => .k .none
    | some e => cE tb n X e
noncomputable def cA (tb : TB) : Nat → CX → List Expr → I
  | 0, _, _ => .bad
  | n + 1, X, es => match es with
    | [] => .nil
    | e :: r => whenB (!isStar e) (.cons (cE tb n X e) (cA tb n X r))
noncomputable def cK (tb : TB) : Nat → CX → List (Option Expr) → List Expr → I
  | 0, _, _, _ => .bad
  | n + 1, X, ks, vs => match ks with
    | [] => (match vs with
      | [] => .nil
      | _ => .bad)
    | k :: ks => (match vs with
      | [] => .bad
      | v :: vs => (match keyOf k with
        | some y => .kv y (cE tb n X v) (cK tb n X ks vs)
        | none => .bad))
noncomputable def cC (tb : TB) : Nat → CX → Expr → Expr → Expr → List Expr → Scope → I
  | 0, _, _, _, _, _, _ => .bad
  | n + 1, X, elt, target, iter, ifs, scope =>
    whenB (scOk scope && (((innerN X.ns scope).all fun p => nameOk p.1) && (notSet iter && (freeOf scope.names).all X.cn.contains)))
      (match nmOf target with
        | some x => whenB ((X.inner scope).isLoc x) (.comp (innerN X.ns scope).length (ixN x (innerN X.ns scope)) 0 ((freeOf scope.names).map fun m => ixS m X.cn) (cE tb n X iter) (cI tb n (X.inner scope) ifs) (cE tb n (X.inner scope) elt))
        | none => (match twoOf target with
          | some p => whenB ((X.inner scope).isLoc p.1 && ((X.inner scope).isLoc p.2 && Nat.ble 1 (ixN p.2 (innerN X.ns scope)))) (.comp (innerN X.ns scope).length (ixN p.1 (innerN X.ns scope)) (ixN p.2 (innerN X.ns scope)) ((freeOf scope.names).map fun m => ixS m X.cn) (cE tb n X iter) (cI tb n (X.inner scope) ifs) (cE tb n (X.inner scope) elt))
          | none => .bad))
noncomputable def cI (tb : TB) : Nat → CX → List Expr → I
  | 0, _, _ => .bad
  | n + 1, X, es => match es with
    | [] => .k (.bool true)
    | c :: r => (match r with
      | [] => cT tb n X c
      | _ => .bad)
noncomputable def cT (tb : TB) : Nat → CX → Expr → I
  | 0, _, _ => .bad
  | n + 1, X, e => match e with
    | .Compare l ops rs _ => (match ops with
      | op :: ops => (match ops with
        | [] => (match rs with
          | r :: rs => (match rs with
            | [] => whenB (!lastMarks [op] [r]) (.cmp op (cE tb n X l) (cE tb n X r))
            | _ => .bad)
          | _ => .bad)
        | o2 :: ops => (match ops with
          | [] => (match rs with
            | m :: rs => (match rs with
              | r :: rs => (match rs with
                | [] => whenB (!lastMarks [op, o2] [m, r]) (.cmp2 op o2 (cE tb n X l) (cE tb n X m) (cE tb n X r))
                | _ => .bad)
              | _ => .bad)
            | _ => .bad)
          | _ => .bad))
      | _ => .bad)
    | .UnaryOp op e _ => (match op with
      | .Not => .not (cT tb n X e)
      | _ => .bad)
    | .BoolOp op es _ => (match op with
      | .And => cAnd tb n X es
      | .Or => cOr tb n X es)
    | e => whenB (plainT e) (.tst (cE tb n X e))
noncomputable def cAnd (tb : TB) : Nat → CX → List Expr → I
  | 0, _, _ => .bad
  | n + 1, X, es => match es with
    | [] => .k (.bool true)
    | e :: r => .and2 (cT tb n X e) (cAnd tb n X r)
noncomputable def cOr (tb : TB) : Nat → CX → List Expr → I
  | 0, _, _ => .bad
  | n + 1, X, es => match es with
    | [] => .k (.bool false)
    | e :: r => .ort (cT tb n X e) (cOr tb n X r)
end
/-- what is put at a name -/
noncomputable def asgI (X : CX) (x : Str) (a : I) : I := match kOf X.ns x with
  | some .local => .asg (ixN x X.ns) a
  | some .cell => whenB (X.cn.contains x) (.asgC (ixS x X.cn) a)
  | _ => .bad
noncomputable def asgI2 (X : CX) (x y : Str) (a : I) : I := match kOf X.ns x with
  | some .local => whenB (X.isLoc y) (.asg2 false (ixN x X.ns) false (ixN y X.ns) a)
  | some .cell => whenB (X.cn.contains x) (match kOf X.ns y with
    | some .local => .asg2 true (ixS x X.cn) false (ixN y X.ns) a
    | some .cell => whenB (X.cn.contains y) (.asg2 true (ixS x X.cn) true (ixS y X.cn) a)
    | _ => .bad)
  | _ => .bad
noncomputable def forI (X : CX) (x : Str) (a b : I) : I := match kOf X.ns x with
  | some .local => .for (ixN x X.ns) a b
  | some .cell => whenB (X.cn.contains x) (.forC (ixS x X.cn) a b)
  | _ => .bad
/-- x = [.. for ..] where the list is stored ahead of the names' going -/
noncomputable def lcOf (X : CX) (x : Str) (py : Pos) : Expr → Option Bool
  | .ListComp _ _ scope cp => some (X.isLoc x && (py.line == cp.line && !(scope.names.any fun (n, k) => n == x && (k == .local || k == .cell))))
  | _ => none
mutual
noncomputable def cS (tb : TB) : Nat → CX → Stmt → I
  | 0, _, _ => .bad
  | n + 1, X, s => match s with
    | .Expr e _ => whenB (notComp e) (.expr (cE tb n X e))
    | .Assign ts e pos => (match ts with
      | t :: ts => (match ts with
        | [] => (match t with
          | .Name x py => (match lcOf X x py e with
            | some b => whenB b (.asg (ixN x X.ns) (cE tb n X e))
            | none => whenB (notComp e) (asgI X x (cE tb n X e)))
          | .Attribute o m _ => whenB (notComp e) (.satt (cE tb n X o) m (cE tb n X e))
          | .Subscript o j _ => whenB (notComp e) (.sitem (cE tb n X o) (cE tb n X j) (cE tb n X e))
          | t => (match twoOf t with
            | some p => whenB (notComp e && (constsOk e && !(p.1 == p.2))) (asgI2 X p.1 p.2 (cE tb n X e))
            | none => .bad))
        | _ => .bad)
      | _ => .bad)
    | .AugAssign t op e _ => (match op with
      | .Add => (match t with
        | .Name x _ => whenB (X.isLoc x) (.augx (ixN x X.ns) (cE tb n X e))
        | .Attribute o m _ => .auga (cE tb n X o) m (cE tb n X e)
        | _ => .bad)
      | _ => .bad)
    | .If t a b _ => .iff (cT tb n X t) (cSs tb n X a) (cSs tb n X b)
    | .While t b orelse _ => (match orelse with
      | [] => .whil (cT tb n X t) (cSs tb n X b)
      | _ => .bad)
    | .For t it b orelse _ => (match orelse with
      | [] => (match nmOf t with
        | some x => whenB (notSet it) (forI X x (cE tb n X it) (cSs tb n X b))
        | none => .bad)
      | _ => .bad)
    | .Return e _ => (match e with
      | some e => .ret (cE tb n X e)
      | none => .ret0)
    | .Continue _ => .cont
    | .FunctionDef name params body decs ret tps scope ts bind pos => (match decs with
      | [] => (match ret with
        | none => (match tps with
          | [] => (match ts with
            | none => whenB (X.isLoc name && (bind == name)) (.asg (ixN name X.ns) (lamV X params (.stmts body) scope name pos))
            | _ => .bad)
          | _ => .bad)
        | _ => .bad)
      | _ => .bad)
    | _ => .bad
noncomputable def cSs (tb : TB) : Nat → CX → List Stmt → I
  | 0, _, _ => .bad
  | n + 1, X, es => match es with
    | [] => .nil
    | e :: r => .cons (cS tb n X e) (cSs tb n X r)
end
end Mine

namespace Mine

/-! ## the tree does what the body does -/
theorem no_some {α : Type} {P : Prop} {x : α} (h : none = some x) : P := by cases h
theorem nmOf_of {e : Expr} {x : Str} (h : nmOf e = some x) : ∃ p, e = .Name x p := by
  cases e with
  | Name y p => cases h; exact ⟨p, rfl⟩
  | _ => exact no_some h
/-- a target of two names -/
inductive Two (e : Expr) (p : Str × Str) : Prop
  | mk {px py : Pos} {c : Nat} {tp : Pos} (h : e = .Tuple [.Name p.1 px, .Name p.2 py] c tp) : Two e p
theorem two_of {a b : Expr} {c : Nat} {tp : Pos} {p : Str × Str} (h : twoOf (.Tuple [a, b] c tp) = some p) : Two (.Tuple [a, b] c tp) p := by
  have h : (match nmOf a with
    | some x => (match nmOf b with
      | some y => some (x, y)
      | none => none)
    | none => none) = some p := h
  cases q : nmOf a with
  | none => rw [q] at h; exact no_some h
  | some x => cases q2 : nmOf b with
    | none => rw [q, q2] at h; exact no_some h
    | some y =>
      rw [q, q2] at h
      cases h
      obtain ⟨px, rfl⟩ := nmOf_of q
      obtain ⟨py, rfl⟩ := nmOf_of q2
      exact ⟨rfl⟩
theorem twoOf_of {e : Expr} {p : Str × Str} (h : twoOf e = some p) : Two e p := by
  cases e with
  | Tuple es c tp => cases es with
    | nil => exact no_some h
    | cons a r => cases r with
      | nil => exact no_some h
      | cons b r => cases r with
        | nil => exact two_of h
        | cons _ _ => exact no_some h
  | _ => exact no_some h
theorem const_of {e : Expr} {y : Str} (h : keyOf (some e) = some y) : ∃ kd kp, e = .Constant (.str y) kd kp := by
  cases e with
  | Constant c kd kp => cases c with
    | str z => cases h; exact ⟨kd, kp, rfl⟩
    | _ => exact no_some h
  | _ => exact no_some h
theorem isMeth_of {f : Expr} {p : Expr × Str × Pos} (h : isMeth f = some p) : f = .Attribute p.1 p.2.1 p.2.2 := by
  cases f with
  | Attribute o m ap => cases h; rfl
  | _ => exact no_some h
theorem notMeth_of {f : Expr} (h : isMeth f = none) : baseNotAttr f = true := by
  cases f with
  | Attribute o m ap => cases h
  | _ => rfl
theorem and_t {a b : Bool} (h : (a && b) = true) : a = true ∧ b = true := Bool.and_eq_true_iff.mp h
theorem not_t {a : Bool} (h : (!a) = true) : a = false := (Bool.not_eq_true' _).mp h

section
variable {g : GE} {tb : TB} {d : Nat} {cv : List Addr} {ρ : Lo} {σ : Sto}
theorem whenB_of {b : Bool} {a : I} {k : KE} (h : wE g tb d (whenB b a) cv ρ σ k) : b = true ∧ wE g tb d a cv ρ σ k := by
  cases b with
  | true => exact ⟨rfl, h⟩
  | false => exact False.elim h
theorem whenS_of {b : Bool} {a : I} {k : KF} (h : wS g tb d (whenB b a) cv ρ σ k) : b = true ∧ wS g tb d a cv ρ σ k := by
  cases b with
  | true => exact ⟨rfl, h⟩
  | false => exact False.elim h
theorem tstW_of {v : V} {f : Bool → Prop} (h : tstW v f) : ∃ b, v = .bool b ∧ f b := by
  cases v with
  | bool b => exact ⟨b, rfl, h⟩
  | _ => exact False.elim h
theorem tupW_of {v : V} {f : List V → Prop} (h : tupW v f) : ∃ l, v = .tup l ∧ f l := by
  cases v with
  | tup l => exact ⟨l, rfl, h⟩
  | _ => exact False.elim h
theorem intW_of {v : V} {f : Int → Prop} (h : intW v f) : ∃ i, v = .int i ∧ f i := by
  cases v with
  | int i => exact ⟨i, rfl, h⟩
  | _ => exact False.elim h
theorem twoW_of {v : V} {f : V → V → Prop} (h : twoW v f) : ∃ x y, v = .tup [x, y] ∧ f x y := by
  cases v with
  | tup l => cases l with
    | nil => exact False.elim h
    | cons x l => cases l with
      | nil => exact False.elim h
      | cons y l => cases l with
        | nil => exact ⟨x, y, rfl, h⟩
        | cons _ _ => exact False.elim h
  | _ => exact False.elim h
theorem optW_of {v : Option V} {f : V → Prop} (h : optW v f) : ∃ x, v = some x ∧ f x := by
  cases v with
  | none => exact False.elim h
  | some x => exact ⟨x, rfl, h⟩
theorem locW_of {i : Nat} {f : V → Prop} (h : locW ρ i f) : ∃ x, ρ[i]? = some (some x) ∧ f x := by
  unfold locW at h
  cases e : ρ[i]? with
  | none => rw [e] at h; exact False.elim h
  | some v =>
    rw [e] at h
    obtain ⟨x, rfl, q⟩ := optW_of h
    exact ⟨x, rfl, q⟩
theorem opW_of {op : Operator} {x y : V} {k : KE} (h : opW g op x y σ k) : VB g op x y σ k := by
  cases op with
  | Add => cases x with
    | int a => cases y with
      | int b => exact b_add h
      | _ => exact False.elim h
    | _ => exact h
  | Sub => cases x with
    | int a => cases y with
      | int b => exact b_sub h
      | _ => exact False.elim h
    | _ => exact h
  | _ => exact h
theorem cmW_of {op : CmpOp} {x y : V} {k : Bool → Prop} (h : cmW g op x y σ k) : VQ g op x y σ k := by
  cases x with
  | int a => cases y with
    | int b => cases op with
      | Eq => exact q_eqI h
      | NotEq => exact q_neI h
      | Lt => exact q_lt h
      | LtE => exact q_le h
      | Gt => exact q_gt h
      | GtE => exact q_ge h
      | _ => exact h
    | _ => exact h
  | str a => cases y with
    | str b => cases op with
      | Eq => exact q_eqS h
      | NotEq => exact q_neS h
      | _ => exact h
    | _ => exact h
  | _ => exact h
theorem suW_of {x y : V} {k : V → Prop} (h : suW g x y σ k) : VU g x y σ k := by
  cases x with
  | tup l => cases y with
    | int i => cases i with
      | ofNat n =>
        have h' : Br (Nat.blt n 1000) (match l[n]? with
          | some v => k v
          | none => False) False := h
        cases e : Nat.blt n 1000 with
        | false => rw [e] at h'; exact False.elim h'
        | true =>
          rw [e] at h'
          cases q : l[n]? with
          | none =>
            have h2 : (match l[n]? with
              | some v => k v
              | none => False) := h'
            rw [q] at h2; exact False.elim h2
          | some v =>
            have h2 : (match l[n]? with
              | some v => k v
              | none => False) := h'
            rw [q] at h2
            exact u_tupN (Nat.lt_trans (Nat.le_of_ble_eq_true e) (by decide)) q h2
      | negSucc n => exact False.elim h
    | _ => exact False.elim h
  | _ => exact h
theorem br_of {b : Bool} {A : Prop} (h : Br b A False) : b = true ∧ A := by
  cases b with
  | true => exact ⟨rfl, h⟩
  | false => exact False.elim h
theorem br_mono {b : Bool} {A A' B B' : Prop} (h : Br b A B) (ha : A → A') (hb : B → B') : Br b A' B' := by
  cases b with
  | true => exact ha h
  | false => exact hb h

structure EX (g : GE) (env : Env) (X : CX) (cv : List Addr) : Prop where
  ok : EnvOk env
  ns : env.scope.names = X.ns
  cl : env.cells = X.cn.zip cv
  len : X.cn.length = cv.length
  nm : (X.ns.all fun p => nameOk p.1) = true
  tab : ∀ p, X.tab = some p → env.code = .ref p.1 ∧ CodeHd g.h₀ p.1 p.2 ∧ env.qual = X.qual ++ ".<locals>."
theorem lk_zip {x : Str} {a : Addr} {cn : List Str} {cv : List Addr} (h : cv[ixS x cn]? = some a) (e : cn.length = cv.length) : (cn.zip cv).lookup x = some a := by
  induction cn generalizing cv with
  | nil => cases List.length_eq_zero_iff.mp e.symm; cases h
  | cons y r ih => cases cv with
    | nil => cases e
    | cons b s =>
      rw [List.zip_cons_cons, List.lookup_cons]
      by_cases q : x = y
      · rw [show ixS x (y :: r) = 0 from if_pos q] at h
        rw [beq_iff_eq.mpr q]; exact h
      · rw [show ixS x (y :: r) = ixS x r + 1 from if_neg q] at h
        rw [beq_eq_false_iff_ne.mpr q]
        exact ih h (Nat.succ.inj e)
theorem ixS_lt {x : Str} {cn : List Str} (h : x ∈ cn) : ixS x cn < cn.length := by
  induction cn with
  | nil => cases h
  | cons y r ih =>
    by_cases q : x = y
    · rw [show ixS x (y :: r) = 0 from if_pos q]; exact Nat.zero_lt_succ _
    · rw [show ixS x (y :: r) = ixS x r + 1 from if_neg q]
      cases h with
      | head => exact absurd rfl q
      | tail _ h => exact Nat.succ_lt_succ (ih h)
theorem ixS_some {x : Str} {cn : List Str} {cv : List Addr} (h : cn.contains x = true) (e : cn.length = cv.length) : ∃ c, cv[ixS x cn]? = some c :=
  ⟨_, List.getElem?_eq_getElem (e ▸ ixS_lt (List.contains_iff_mem.mp h))⟩
theorem lk_get {x : Str} {cn : List Str} {cv : List Addr} (h : x ∈ cn) (e : cn.length = cv.length) : (cn.zip cv).lookup x = some (cv.getD (ixS x cn) 0) := by
  refine lk_zip ?_ e
  rw [List.getD_eq_getElem?_getD, List.getElem?_eq_getElem (e ▸ ixS_lt h)]; rfl
variable {X : CX} {env : Env} {k : KE}
theorem EX.kind (E : EX g env X cv) (x : Str) : env.kindOf x = kOf X.ns x := by
  show env.scope.names.lookup x = _
  rw [E.ns]; rfl
theorem EX.at (E : EX g env X cv) {x : Str} {v : V} (hk : kOf X.ns x = some .local) (h : ρ[ixN x X.ns]? = some (some v)) : LocAt env ρ x v := ⟨(E.kind x).trans hk, by rw [E.ns]; exact h⟩
theorem EX.name (E : EX g env X cv) {x : Str} {kd : NameKind} (hk : kOf X.ns x = some kd) : nameOk x = true := List.all_eq_true.mp E.nm _ (PySem.mem_of_lookup hk)
theorem EX.cell (E : EX g env X cv) {x : Str} {a : Addr} (h : cv[ixS x X.cn]? = some a) : env.cells.lookup x = some a := by rw [E.cl]; exact lk_zip h E.len
theorem EX.put (E : EX g env X cv) {x : Str} {v : V} {k : Lo → Sto → Prop} (hk : kOf X.ns x = some .local) (q : k (ρ.set (ixN x X.ns) (some v)) σ) : SX g d env x v ρ σ k := sx_loc E.ok ((E.kind x).trans hk) (by rw [E.ns]; exact q)
theorem EX.putC (E : EX g env X cv) {x : Str} {v : V} {k : Lo → Sto → Prop} (hk : kOf X.ns x = some .cell) (q : LW σ cv[ixS x X.cn]? v (k ρ)) : SX g d env x v ρ σ k := by
  cases q with | mk h e q => exact sx_cel E.ok ((E.kind x).trans hk) (E.cell h) e q
noncomputable def SE (g : GE) (tb : TB) (d n : Nat) : Prop := ∀ {X : CX} {cv : List Addr} {env : Env} {ρ : Lo} {σ : Sto} {e : Expr} {k : KE}, EX g env X cv → wE g tb d (cE tb n X e) cv ρ σ k → XE g d env ρ σ e k
noncomputable def SP (g : GE) (tb : TB) (d n : Nat) : Prop := ∀ {X : CX} {cv : List Addr} {env : Env} {ρ : Lo} {σ : Sto} {e : Option Expr} {k : KE}, EX g env X cv → wE g tb d (cP tb n X e) cv ρ σ k → XP g d env ρ σ e k
noncomputable def SA (g : GE) (tb : TB) (d n : Nat) : Prop := ∀ {X : CX} {cv : List Addr} {env : Env} {ρ : Lo} {σ : Sto} {pos : Pos} {es : List Expr} {k : List V → Sto → Prop}, EX g env X cv → wE g tb d (cA tb n X es) cv ρ σ (fun v σ => tupW v fun l => k l σ) → WEs g d env T0 ρ σ (spliced (backTo pos (starEach es env))) k
noncomputable def ST (g : GE) (tb : TB) (d n : Nat) : Prop := ∀ {X : CX} {cv : List Addr} {env : Env} {ρ : Lo} {σ : Sto} {e : Expr} {k : Bool → Sto → Prop}, EX g env X cv → wE g tb d (cT tb n X e) cv ρ σ (fun v σ => tstW v fun b => k b σ) → XT g d env ρ σ e k
noncomputable def SB (op : BoolOp) (f : Nat → CX → List Expr → I) (g : GE) (tb : TB) (d n : Nat) : Prop := ∀ {X : CX} {cv : List Addr} {env : Env} {ρ : Lo} {σ : Sto} {es : List Expr} {k : Bool → Sto → Prop}, EX g env X cv → wE g tb d (f n X es) cv ρ σ (fun v σ => tstW v fun b => k b σ) → XTs g d env ρ σ op es k
noncomputable def SK (g : GE) (tb : TB) (d n : Nat) : Prop := ∀ {X : CX} {cv : List Addr} {env : Env} {ρ : Lo} {σ : Sto} {pos : Pos} {ks : List (Option Expr)} {vs : List Expr} {k : List (Str × V) → Sto → Prop}, EX g env X cv →
    wE g tb d (cK tb n X ks vs) cv ρ σ (fun v σ => tupW v fun l => kvK l fun x => k x σ) → XKv g d env ρ σ pos ks vs k
noncomputable def SI (g : GE) (tb : TB) (d n : Nat) : Prop := ∀ {X : CX} {cv : List Addr} {env : Env} {ρ : Lo} {σ : Sto} {es : List Expr} {k : Bool → Sto → Prop}, EX g env X cv → wE g tb d (cI tb n X es) cv ρ σ (fun v σ => tstW v fun b => k b σ) → XI g d env ρ σ es k
/-- what a comprehension's rules want -/
inductive CoD (g : GE) (d : Nat) (env : Env) (ρ : Lo) (σ : Sto) (elt target iter : Expr) (ifs : List Expr) (scope : Scope) (k : KE) : Prop
  | mk {f : Str → Addr} {n : Nat} (hs : ∀ x, foldedSetIterable iter env x = pure x) (hsc : scOk scope = true) (hcl : ∀ n ∈ freeN scope.names, env.cells.lookup n = some (f n))
    (h : XE g d env ρ σ iter (CompJ g d env n elt target ifs scope ((freeN scope.names).reverse.map fun n => (n, f n)) k)) : CoD g d env ρ σ elt target iter ifs scope k
noncomputable def SC (g : GE) (tb : TB) (d n : Nat) : Prop := ∀ {X : CX} {cv : List Addr} {env : Env} {ρ : Lo} {σ : Sto} {elt target iter : Expr} {ifs : List Expr} {scope : Scope} {k : KE}, EX g env X cv → wE g tb d (cC tb n X elt target iter ifs scope) cv ρ σ k → CoD g d env ρ σ elt target iter ifs scope k
noncomputable def SL (g : GE) (tb : TB) (d n : Nat) : Prop := ∀ {X : CX} {cv : List Addr} {env : Env} {ρ : Lo} {σ : Sto} {elt : Expr} {gens : List Comprehension} {scope : Scope} {pos : Pos} {k : KE}, EX g env X cv → wE g tb d (cE tb n X (.ListComp elt gens scope pos)) cv ρ σ k →
  ∃ target iter ifs, gens = [⟨target, iter, ifs, 0⟩] ∧ CoD g d env ρ σ elt target iter ifs scope k
structure All (g : GE) (tb : TB) (d n : Nat) : Prop where
  e : SE g tb d n
  p : SP g tb d n
  a : SA g tb d n
  t : ST g tb d n
  kv : SK g tb d n
  i : SI g tb d n
  c : SC g tb d n
  lc : SL g tb d n
  an : SB .And (cAnd tb) g tb d n
  or : SB .Or (cOr tb) g tb d n
variable {n : Nat}
theorem stepP (h : All g tb d n) : SP g tb d (n + 1) := fun {X cv env ρ σ e k} E w => by
  cases e with
  | none => exact c_part0 w
  | some e => exact h.e E w
theorem stepA (h : All g tb d n) : SA g tb d (n + 1) := fun {X cv env ρ σ pos es k} E w => by
  cases es with
  | nil => exact W_spliced_nil w
  | cons e r =>
    obtain ⟨hs, w⟩ := whenB_of w
    rw [starEach_cons (not_t hs)]
    exact W_spliced_cons (h.e E w) fun v σ w => h.a E w
theorem stepAn (h : All g tb d n) : SB .And (cAnd tb) g tb d (n + 1) := fun {X cv env ρ σ es k} E w => by
  cases es with
  | nil => exact t_nil w
  | cons e r => exact t_and ((h.t E w).kk fun b σ w => br_mono w (h.an E) id)
theorem stepOr (h : All g tb d n) : SB .Or (cOr tb) g tb d (n + 1) := fun {X cv env ρ σ es k} E w => by
  cases es with
  | nil => exact t_nil w
  | cons e r => exact t_or ((h.t E w).kk fun b σ w => br_mono w id (h.or E))
theorem VQ.mono {op : CmpOp} {x y : V} {k k' : Bool → Prop} (h : VQ g op x y σ k) (hk : ∀ b, k b → k' b) : VQ g op x y σ k' := ⟨h.run.kk fun x σ z => by
  cases z with | mk b q => exact ⟨b, hk b q⟩⟩
theorem stepTs (h : All g tb d n) : ST g tb d (n + 1) := fun {X cv env ρ σ e k} E w => by
  have plain : wE g tb d (whenB (plainT e) (.tst (cE tb n X e))) cv ρ σ (fun v σ => tstW v fun b => k b σ) → XT g d env ρ σ e k := fun w => by
    obtain ⟨hp, w⟩ := whenB_of w
    exact t_plain hp (h.e E w)
  cases e with
  | Compare l ops rs pos =>
    cases ops with
    | nil => exact False.elim w
    | cons op ops => cases ops with
      | nil => cases rs with
        | nil => exact False.elim w
        | cons r rs => cases rs with
          | nil =>
            obtain ⟨hm, w⟩ := whenB_of w
            exact t_cmp (not_t hm) ((h.e E w).kk fun x σ w => (h.e E w).kk fun y σ w => cmW_of w)
          | cons _ _ => exact False.elim w
      | cons o2 ops => cases ops with
        | nil => cases rs with
          | nil => exact False.elim w
          | cons m rs => cases rs with
            | nil => exact False.elim w
            | cons r rs => cases rs with
              | nil =>
                obtain ⟨hm, w⟩ := whenB_of w
                exact t_cmp2 (not_t hm) ((h.e E w).kk fun x σ w => (h.e E w).kk fun y σ w => (cmW_of w).mono fun b w => br_mono w (fun w => (h.e E w).kk fun z σ w => cmW_of w) id)
              | cons _ _ => exact False.elim w
        | cons _ _ => exact False.elim w
  | UnaryOp op e pos => cases op with
    | Not => exact t_not (h.t E w)
    | _ => exact False.elim w
  | BoolOp op es pos => cases op with
    | And => exact h.an E w
    | Or => exact h.or E w
  | _ => exact plain w
theorem sName {x : Str} {pos : Pos} (ok : TOk g tb) (E : EX g env X cv) (w : wE g tb d (cName tb X x) cv ρ σ k) : XE g d env ρ σ (.Name x pos) k := by
  have cel : (kOf X.ns x = some .cell ∨ kOf X.ns x = some .free) → nameOk x = true → wE g tb d (.c (ixS x X.cn)) cv ρ σ k → XE g d env ρ σ (.Name x pos) k := fun hk hn w => by
    cases (show LD σ cv[ixS x X.cn]? (fun v => k v σ) from w) with | mk h e q =>
    exact W_name hn (W_loadC E.ok hn (hk.imp (E.kind x).trans (E.kind x).trans) (E.cell h) e q)
  unfold cName at w
  cases hk : kOf X.ns x with
  | none => rw [hk] at w; exact False.elim w
  | some kd =>
    have hn := E.name hk
    rw [hk] at w
    cases kd with
    | «local» =>
      obtain ⟨v, e, q⟩ := locW_of w
      exact W_name hn (W_loadL E.ok (E.at hk e) q)
    | globalImplicit =>
      dsimp only at w
      cases e : tb.gv x with
      | none => rw [e] at w; exact False.elim w
      | some v => rw [e] at w; exact W_name hn (W_loadG ok.gv E.ok ((E.kind x).trans hk) e w)
    | cell => exact cel (.inl hk) hn w
    | free => exact cel (.inr hk) hn w
    | _ => exact False.elim w
theorem clos_of (E : EX g env X cv) {ns : List (Str × NameKind)} (h : (freeOf ns).all X.cn.contains = true) : ∀ n ∈ freeN ns, env.cells.lookup n = some (cv.getD (ixS n X.cn) 0) := fun n hn => by
  rw [E.cl]
  exact lk_get (List.contains_iff_mem.mp (List.all_eq_true.mp h n (List.mem_reverse.mpr hn))) E.len
theorem noAnn_of {l : List Arg} (h : l.all (·.annotation.isNone) = true) : annotationsOf l env = [] := by
  induction l with
  | nil => rfl
  | cons a r ih =>
    obtain ⟨x, t, p⟩ := a
    rw [List.all_cons] at h
    cases t with
    | none => exact ih (and_t h).2
    | some t => cases (and_t h).1
theorem ann_of {params : Arguments} (h : noAnn params = true) : annTrees params none env = [] := by
  obtain ⟨po, a, va, ko, kd, kwa, df⟩ := params
  show annotationsOf (a ++ po ++ va.toList ++ ko ++ kwa.toList) env ++ _ = []
  rw [noAnn_of h]; rfl
/-- what a def's or a lambda's rule wants -/
inductive LamD (g : GE) (env : Env) (X : CX) (σ : Sto) (params : Arguments) (b : FuncBody) (scope : Scope) (nm : Str) (pos : Pos) (k : KE) : Prop
  | mk {c P : Addr} {f : Str → Addr} (hcode : env.code = .ref c) (hC : CodeHd g.h₀ c P) (hP : σ P = some (.tab pos (X.qual ++ ".<locals>." ++ nm))) (hcl : ∀ n ∈ freeN scope.names, env.cells.lookup n = some (f n))
    (hd : params.defaults = []) (hk : params.kw_defaults = []) (ha : annTrees params none env = []) (hq : env.qual = X.qual ++ ".<locals>.")
    (q : k (.fn { name := nm, qual := X.qual ++ ".<locals>." ++ nm, params, body := b, scope, closure := (freeN scope.names).reverse.map fun n => (n, f n) }) σ) : LamD g env X σ params b scope nm pos k
theorem lam_of {params : Arguments} {b : FuncBody} {scope : Scope} {nm : Str} {pos : Pos} (E : EX g env X cv) (w : wE g tb d (lamV X params b scope nm pos) cv ρ σ k) : LamD g env X σ params b scope nm pos k := by
  unfold lamV at w
  cases e : X.tab with
  | none => rw [e] at w; exact False.elim w
  | some p =>
    rw [e] at w
    obtain ⟨hb, w⟩ := whenB_of w
    obtain ⟨h1, hb⟩ := and_t hb
    obtain ⟨h2, hb⟩ := and_t hb
    obtain ⟨h3, h4⟩ := and_t hb
    obtain ⟨e1, e2, e3⟩ := E.tab p e
    cases (show LP σ p.2 pos (X.qual ++ ".<locals>." ++ nm) (k _ σ) from w) with | mk hP q =>
    rw [List.map_map] at q
    exact ⟨e1, e2, hP, clos_of E h1, List.isEmpty_iff.mp h2, List.isEmpty_iff.mp h3, ann_of h4, e3, q⟩
theorem stepKv (h : All g tb d n) : SK g tb d (n + 1) := fun {X cv env ρ σ pos ks vs k} E w => by
  cases ks with
  | nil => cases vs with
    | nil => exact kv_nil w
    | cons v vs => exact False.elim w
  | cons y ks => cases vs with
    | nil => exact False.elim w
    | cons v vs =>
      have w : wE g tb d (match keyOf y with
          | some y => .kv y (cE tb n X v) (cK tb n X ks vs)
          | none => .bad) cv ρ σ (fun v σ => tupW v fun l => kvK l fun x => k x σ) := w
      cases q : keyOf y with
      | none => rw [q] at w; exact False.elim w
      | some z =>
        rw [q] at w
        cases y with
        | none => exact no_some q
        | some e =>
          obtain ⟨kd, kp, rfl⟩ := const_of q
          exact kv_cons ((h.e E w).kk fun v σ w => h.kv E w)
theorem stepI (h : All g tb d n) : SI g tb d (n + 1) := fun {X cv env ρ σ es k} E w => by
  cases es with
  | nil => exact i_nil w
  | cons c r => cases r with
    | nil => exact i_one (h.t E w)
    | cons _ _ => exact False.elim w
theorem map_zip {α β : Type} (f : α → β) (l : List α) : l.zip (l.map f) = l.map (fun m => (m, f m)) := by
  induction l with
  | nil => rfl
  | cons a r ih => rw [List.map_cons, List.map_cons, List.zip_cons_cons, ih]
theorem fold_of {iter : Expr} (h : notSet iter = true) : ∀ x, foldedSetIterable iter env x = pure x := by
  intro x
  cases iter <;> first | rfl | cases h
theorem EX.comp (E : EX g env X cv) {scope : Scope} {C : Addr} (hk : scope.kind = .function) (hn : ((innerN X.ns scope).all fun p => nameOk p.1) = true) :
    EX g (compEnvC scope ((freeN scope.names).reverse.map fun n => (n, cv.getD (ixS n X.cn) 0)) C env) (X.inner scope) (((freeOf scope.names).map fun m => ixS m X.cn).map fun i => cv.getD i 0) := by
  refine ⟨⟨hk, E.ok.globals, E.ok.builtins⟩, ?_, ?_, ?_, hn, fun p e => no_some e⟩
  · show (scope.names.map fun p => if (p.2 == NameKind.free && env.scope.kind == ScopeKind.function && env.kindOf p.1 == some NameKind.cell) then (p.1, NameKind.cell) else (p.1, p.2)) = _
    refine List.map_congr_left fun p _ => ?_
    rw [E.ok.kind, E.kind, show (ScopeKind.function == ScopeKind.function) = true from rfl, Bool.and_true]; rfl
  · show _ = (freeOf scope.names).zip _
    rw [List.map_map]; exact (map_zip (fun n => cv.getD (ixS n X.cn) 0) _).symm
  · rw [List.length_map, List.length_map]; rfl
theorem comp_run {i j : Nat} {elt target : Expr} {ifs : List Expr} {scope : Scope} {x : V} (h : All g tb d n) (E : EX g env X cv) (hk : scope.kind = .function) (hn : ((innerN X.ns scope).all fun p => nameOk p.1) = true)
    (hT : ∀ {y : V} {σ : Sto} {f : Lo → Prop}, tgV (innerN X.ns scope).length i j y f → ∃ ρ₂, f ρ₂ ∧ ∀ {C : Addr} {u : Value} {k : Lo → Sto → Prop}, k ρ₂ σ → WU g d (compEnvC scope ((freeN scope.names).reverse.map fun n => (n, cv.getD (ixS n X.cn) 0)) C env) (T1 g y u) (List.replicate (innerN X.ns scope).length none) σ (assign target (compEnvC scope ((freeN scope.names).reverse.map fun n => (n, cv.getD (ixS n X.cn) 0)) C env) u) k)
    (w : LC x (innerN X.ns scope).length i j (wE g tb d (cI tb n (X.inner scope) ifs) (((freeOf scope.names).map fun m => ixS m X.cn).map fun i => cv.getD i 0)) (wE g tb d (cE tb n (X.inner scope) elt) (((freeOf scope.names).map fun m => ixS m X.cn).map fun i => cv.getD i 0)) σ k) :
    CompJ g d env (innerN X.ns scope).length elt target ifs scope ((freeN scope.names).reverse.map fun n => (n, cv.getD (ixS n X.cn) 0)) k x σ := by
  cases w with | mk l J jx j0 jl jt je =>
  refine ⟨l, J, jx, j0, jl, fun C acc i out y σ' jj hy => ?_, je⟩
  obtain ⟨ρ₂, w, ha⟩ := hT (jt acc i out y σ' jj hy)
  have E' := E.comp (C := C) hk hn
  exact ⟨ρ₂, ha, (h.i E' w).kk fun b σ₃ w => br_mono w (h.e E') id⟩
theorem tgV_of {n i j : Nat} {v : V} {f : Lo → Prop} (hj : Nat.ble 1 j = true) (h : tgV n i j v f) : ∃ a b, v = .tup [a, b] ∧ f (((List.replicate n none).set i (some a)).set j (some b)) := by
  cases j with
  | zero => cases hj
  | succ j => exact twoW_of h
theorem stepC (h : All g tb d n) : SC g tb d (n + 1) := fun {X cv env ρ σ elt target iter ifs scope k} E w => by
  obtain ⟨hb, w⟩ := whenB_of w
  obtain ⟨h1, hb⟩ := and_t hb
  obtain ⟨h2, hb⟩ := and_t hb
  obtain ⟨h3, h4⟩ := and_t hb
  have hk := (scOk_of h1).1
  cases q : nmOf target with
  | some x =>
    rw [q] at w
    obtain ⟨px, rfl⟩ := nmOf_of q
    obtain ⟨hx, w⟩ := whenB_of w
    refine ⟨fold_of h3, h1, clos_of E h4, (h.e E w).kk fun y σ w => comp_run (j := 0) h E hk h2 (fun {y σ f} z => ⟨_, z, fun {C u k} q => ?_⟩) w⟩
    exact SX.name ((E.comp hk h2).put (eq_of_beq hx) q)
  | none =>
    rw [q] at w
    cases q2 : twoOf target with
    | none => rw [q2] at w; exact False.elim w
    | some p =>
      rw [q2] at w
      obtain ⟨hx, w'⟩ := whenB_of w
      clear w
      obtain ⟨hx, hy⟩ := and_t hx
      obtain ⟨hy, hj⟩ := and_t hy
      cases twoOf_of q2 with | mk e =>
      subst e
      refine ⟨fold_of h3, h1, clos_of E h4, (h.e E w').kk fun y σ w => comp_run h E hk h2 (fun {y σ f} z => ?_) w⟩
      obtain ⟨a, b, e, z'⟩ := tgV_of hj z
      subst e
      exact ⟨_, z', fun {C u k} q => tgt_tuple ((E.comp hk h2).put (eq_of_beq hx) ((E.comp hk h2).put (eq_of_beq hy) q))⟩
theorem stepL (h : All g tb d n) : SL g tb d (n + 1) := fun {X cv env ρ σ elt gens scope pos k} E w => by
  cases gens with
  | nil => exact False.elim w
  | cons c gens => cases gens with
    | nil =>
      obtain ⟨target, iter, ifs, ia⟩ := c
      obtain ⟨hb, w⟩ := whenB_of w
      cases (of_decide_eq_true hb)
      exact ⟨target, iter, ifs, rfl, h.c E w⟩
    | cons _ _ => exact False.elim w
theorem c_dict0 {pos : Pos} (q : ∀ a, σ a = none → k (.ref a) (upd σ a (.map []))) : XE g d env ρ σ (.Dict [] [] pos) k := fun A s r i p => by
  refine wpAny_Dict_empty (Post.alloc (x := V.ref _) (c := .map []) i rfl (fun σ' h' kp => ⟨[], ⟨#[], 0, ⟨rfl, rfl, rfl⟩, rfl, fun e he => (Array.not_mem_empty _ he).elim, .nil, List.Pairwise.nil⟩, rfl⟩) rfl ⟨q _ i.ok.none_size⟩)
theorem keepsF {x : V} (h : okF x = true) : Keeps g x := by
  cases x with
  | fn i => exact keeps_fn
  | ty n => exact keeps_ty
  | bi n => exact keeps_bi
  | _ => cases h
theorem clsOf_of {a : I} {m : Str} (h : clsOf a = some m) : a = .k (.cls m) := by
  cases a with
  | k v => cases v with
    | cls m => cases h; rfl
    | _ => exact no_some h
  | _ => exact no_some h
theorem sCall {f : Expr} {es : List Expr} {pos : Pos} (ok : TOk g tb) (h : All g tb d n) (E : EX g env X cv) (hs : noStars es = true) (hb : baseNotAttr f = true) (w : wE g tb d (callI tb (cE tb n X f) (cA tb n X es)) cv ρ σ k) : XE g d env ρ σ (.Call f es [] pos) k := by
  unfold callI at w
  cases q : clsOf (cE tb n X f) with
  | none =>
    rw [q] at w
    refine c_callE ok hb hs (h.e E w) fun x σ₁ w => ?_
    obtain ⟨hx, w⟩ := br_of w
    exact ⟨keepsF hx, h.a E w⟩
  | some m =>
    rw [q] at w
    dsimp only at w
    cases hc : tb.ct m with
    | none => rw [hc] at w; exact False.elim w
    | some i =>
      rw [hc] at w
      refine c_callE (k₁ := fun x σ => x = .cls m ∧ wE g tb d (cA tb n X es) cv ρ σ (newK1 g tb d m k)) ok hb hs (h.e (e := f) E (by rw [clsOf_of q]; exact ⟨rfl, w⟩)) fun x σ₁ w => ?_
      obtain ⟨rfl, w⟩ := w
      exact ⟨keeps_cls (ok.ct _ _ hc), h.a E w⟩
theorem stepE (ok : TOk g tb) (h : All g tb d n) : SE g tb d (n + 1) := fun {X cv env ρ σ e k} E w => by
  cases e with
  | Constant v kd pos =>
    cases v with
    | int i => exact W_int w
    | str i => exact W_str w
    | none => exact W_none w
    | bool b => exact W_bool w
    | _ => exact False.elim w
  | Name x pos => exact sName ok E w
  | BinOp l op r pos => exact c_bin ((h.e E w).kk fun x σ w => (h.e E w).kk fun y σ w => opW_of w)
  | UnaryOp op e pos => cases op with
    | USub => exact c_neg (h.e E w)
    | _ => exact False.elim w
  | IfExp t a b pos => exact c_ite ((h.t E w).kk fun c σ w => br_mono w (h.e E) (h.e E))
  | Compare l ops rs pos =>
    cases ops with
    | nil => exact False.elim w
    | cons op ops => cases ops with
      | nil => cases rs with
        | nil => exact False.elim w
        | cons r rs => cases rs with
          | nil =>
            obtain ⟨hm, w⟩ := whenB_of w
            exact c_cmp (not_t hm) ((h.e E w).kk fun x σ w => (h.e E w).kk fun y σ w => cmW_of w)
          | cons _ _ => exact False.elim w
      | cons _ _ => exact False.elim w
  | BoolOp op es pos => cases op with
    | And => cases es with
      | nil => exact False.elim w
      | cons a es => cases es with
        | nil => exact False.elim w
        | cons b es => cases es with
          | nil => exact c_and ((h.e E w).kk fun x σ w => by
              obtain ⟨c, rfl, w⟩ := tstW_of w
              exact br_mono w (h.e E) id)
          | cons _ _ => exact False.elim w
    | Or => exact False.elim w
  | Attribute o m pos =>
    obtain ⟨hb, w⟩ := whenB_of w
    exact c_attr ok hb (h.e E w)
  | Subscript o i pos =>
    have plain : notSlice i = true → wE g tb d (.sub (cE tb n X o) (cE tb n X i)) cv ρ σ k → XE g d env ρ σ (.Subscript o i pos) k := fun hs w => c_sub hs ((h.e E w).kk fun x σ w => (h.e E w).kk fun y σ w => suW_of w)
    cases i with
    | Slice a b c p => exact c_slice ((h.e E w).kk fun x σ w => (h.p E w).kk fun y σ w => (h.p E w).kk fun z σ w => h.p E w)
    | _ => exact plain rfl w
  | Tuple es c pos => exact W_tuple ((h.a E w).kk fun l σ w => br_of w)
  | List es pos => exact W_list ((h.a E w).kk fun l σ w => br_of w)
  | Call f es kws pos => cases kws with
    | nil =>
      obtain ⟨hs, w⟩ := whenB_of w
      cases q : isMeth f with
      | none => rw [q] at w; exact sCall ok h E hs (notMeth_of q) w
      | some p =>
        rw [q] at w
        cases isMeth_of q
        obtain ⟨hb, w⟩ := whenB_of w
        obtain ⟨h1, hb⟩ := and_t hb
        obtain ⟨h2, h3⟩ := and_t hb
        exact c_meth ok h1 hs (Nat.le_of_ble_eq_true h2) h3 ((h.e E w).kk fun x σ w => ⟨fun ok => (w.run ok).kk fun x σ z => by
          cases z with | mk kp q => exact ⟨kp, h.a E q⟩⟩)
    | cons _ _ => exact False.elim w
  | Dict ks vs pos =>
    obtain ⟨hb, w⟩ := whenB_of w
    obtain ⟨h1, hb⟩ := and_t hb
    obtain ⟨h2, h3⟩ := and_t hb
    cases ks with
    | nil => cases vs with
      | nil => cases n with
        | zero => exact False.elim w
        | succ n => exact c_dict0 w
      | cons _ _ => cases h2
    | cons a r => exact c_dict h1 (eq_of_beq h2) (Nat.zero_lt_succ _) (Nat.le_of_ble_eq_true h3) (h.kv E w)
  | ListComp elt gens scope pos =>
    obtain ⟨target, iter, ifs, rfl, z⟩ := stepL h E w
    cases z with | mk hs hsc hcl q => exact c_comp ok E.ok hs hsc hcl rfl q
  | Lambda params body scope pos =>
    cases lam_of E w with | mk e1 e2 e3 e4 e5 e6 e7 e8 q =>
    refine c_lam E.ok e1 e2 e3 e4 ?_ (by rw [e8]) q
    obtain ⟨po, a, va, ko, kd, kwa, df⟩ := params
    cases e5; cases e6; rfl
  | _ => exact False.elim w
theorem all_of (ok : TOk g tb) : All g tb d n := by
  induction n with
  | zero => exact ⟨fun _ w => False.elim w, fun _ w => False.elim w, fun _ w => False.elim w, fun _ w => False.elim w, fun _ w => False.elim w, fun _ w => False.elim w, fun _ w => False.elim w, fun _ w => False.elim w, fun _ w => False.elim w, fun _ w => False.elim w⟩
  | succ n h => exact ⟨stepE ok h, stepP h, stepA h, stepTs h, stepKv h, stepI h, stepC h, stepL h, stepAn h, stepOr h⟩
end
end Mine

namespace Mine

/-! ## statements -/
section
variable {g : GE} {tb : TB} {d : Nat} {cv : List Addr} {ρ : Lo} {σ : Sto} {X : CX} {env : Env} {k : KF} {n : Nat}
noncomputable def SS (g : GE) (tb : TB) (d n : Nat) : Prop := ∀ {X : CX} {cv : List Addr} {env : Env} {ρ : Lo} {σ : Sto} {s : Stmt} {k : KF}, EX g env X cv → wS g tb d (cS tb n X s) cv ρ σ k → XS g d env ρ σ s k
noncomputable def SSs (g : GE) (tb : TB) (d n : Nat) : Prop := ∀ {X : CX} {cv : List Addr} {env : Env} {ρ : Lo} {σ : Sto} {s : List Stmt} {k : KF}, EX g env X cv → wS g tb d (cSs tb n X s) cv ρ σ k → XSs g d env ρ σ s k
theorem stepSs (h1 : SS g tb d n) (h2 : SSs g tb d n) : SSs g tb d (n + 1) := fun {X cv env ρ σ s k} E w => by
  cases s with
  | nil => exact s_nil w
  | cons s r =>
    refine s_cons ((h1 E w).mono fun f ρ' σ' w => ?_)
    cases f with
    | next => exact h2 E w
    | _ => exact w
theorem asg_of {x : Str} {e : Expr} {tp pos : Pos} (h : All g tb d n) (E : EX g env X cv) (hc : notComp e = true) (w : wS g tb d (asgI X x (cE tb n X e)) cv ρ σ k) : XS g d env ρ σ (.Assign [.Name x tp] e pos) k := by
  unfold asgI at w
  cases hk : kOf X.ns x with
  | none => rw [hk] at w; exact False.elim w
  | some kd =>
    rw [hk] at w
    cases kd with
    | «local» => exact s_assign hc ((h.e E w).kk fun v σ w => E.put hk w)
    | cell =>
      obtain ⟨hx, w⟩ := whenS_of w
      exact s_assign hc ((h.e E w).kk fun v σ w => E.putC hk w)
    | _ => exact False.elim w
theorem LW.mono {c : Option Addr} {v : V} {k k' : Sto → Prop} (h : LW σ c v k) (hk : ∀ σ, k σ → k' σ) : LW σ c v k' := by
  cases h with | mk a e q => exact ⟨a, e, hk _ q⟩
theorem set_swap {ρ : Lo} {i j : Nat} {a b : Option V} (h : i ≠ j) : (ρ.set j b).set i a = (ρ.set i a).set j b := List.set_comm _ _ (Ne.symm h)
theorem asg2_of {p : Str × Str} {e : Expr} {kk : Nat} {px py tp pos : Pos} (h : All g tb d n) (E : EX g env X cv) (hc : constsOk e = true) (hv : notComp e = true) (hne : p.1 ≠ p.2)
    (w : wS g tb d (asgI2 X p.1 p.2 (cE tb n X e)) cv ρ σ k) : XS g d env ρ σ (.Assign [.Tuple [.Name p.1 px, .Name p.2 py] kk tp] e pos) k := by
  obtain ⟨x, y⟩ := p
  dsimp only at w hne ⊢
  have go : ∀ {K : KE}, wE g tb d (cE tb n X e) cv ρ σ K → (∀ v σ₁, K v σ₁ → ∃ a b, v = .tup [a, b] ∧ SX g d env x a ρ σ₁ (fun ρ₂ σ₂ => SX g d env y b ρ₂ σ₂ (k .next)) ∧ (env.kindOf x = some .local → env.kindOf y = some .local → SX g d env y b ρ σ₁ fun ρ₂ σ₂ => SX g d env x a ρ₂ σ₂ (k .next))) →
      XS g d env ρ σ (.Assign [.Tuple [.Name x px, .Name y py] kk tp] e pos) k := fun w q => s_tuple hc hv ((h.e E w).kk q)
  unfold asgI2 at w
  cases hk : kOf X.ns x with
  | none => rw [hk] at w; exact False.elim w
  | some kd =>
    rw [hk] at w
    cases kd with
    | «local» =>
      obtain ⟨hy, w⟩ := whenS_of w
      have hy := eq_of_beq hy
      refine go w fun v σ₁ w => ?_
      obtain ⟨a, b, e, w'⟩ := twoW_of w
      exact ⟨a, b, e, E.put hk (E.put hy w'), fun _ _ => E.put hy (E.put hk (by rw [set_swap fun q => hne (ixN_inj hk q)]; exact w'))⟩
    | cell =>
      obtain ⟨hx, w⟩ := whenS_of w
      have nl : env.kindOf x = some .local → False := fun h => by rw [E.kind, hk] at h; cases h
      cases hk2 : kOf X.ns y with
      | none => rw [hk2] at w; exact False.elim w
      | some kd =>
        rw [hk2] at w
        cases kd with
        | «local» =>
          refine go w fun v σ₁ w => ?_
          obtain ⟨a, b, e, w'⟩ := twoW_of w
          exact ⟨a, b, e, E.putC hk (LW.mono w' fun σ q => E.put hk2 q), fun q _ => (nl q).elim⟩
        | cell =>
          obtain ⟨hy, w⟩ := whenS_of w
          refine go w fun v σ₁ w => ?_
          obtain ⟨a, b, e, w'⟩ := twoW_of w
          exact ⟨a, b, e, E.putC hk (LW.mono w' fun σ q => E.putC hk2 q), fun q _ => (nl q).elim⟩
        | _ => exact False.elim w
    | _ => exact False.elim w
theorem for_of {x : Str} {it : Expr} {b : List Stmt} {tp pos : Pos} (h : All g tb d n) (hs : SSs g tb d n) (E : EX g env X cv) (hn : notSet it = true)
    (w : wS g tb d (forI X x (cE tb n X it) (cSs tb n X b)) cv ρ σ k) : XS g d env ρ σ (.For (.Name x tp) it b [] pos) k := by
  have go : ∀ {T : V → Lo → Sto → (Lo → Sto → Prop) → Prop}, (∀ v ρ σ k, T v ρ σ k → SX g d env x v ρ σ k) → (∀ {v ρ σ k k'}, T v ρ σ k → (∀ ρ σ, k ρ σ → k' ρ σ) → T v ρ σ k') → wE g tb d (cE tb n X it) cv ρ σ (LF T (wS g tb d (cSs tb n X b) cv) k ρ) → XS g d env ρ σ (.For (.Name x tp) it b [] pos) k := fun {T} hT hM w => by
    refine s_for T (fun v u ρ σ k q => (hT v ρ σ k q).name) (fun _ _ => rfl) (fold_of hn) ((h.e E w).kk fun y σ₁ w => ?_)
    cases w with | mk l J j0 jl jt je =>
    exact ⟨l, J, j0, jl, fun i z ρ' σ' j e => hM (jt i z ρ' σ' j e) fun ρ σ w => hs E w, je⟩
  unfold forI at w
  cases hk : kOf X.ns x with
  | none => rw [hk] at w; exact False.elim w
  | some kd =>
    rw [hk] at w
    cases kd with
    | «local» => exact go (fun v ρ σ k q => E.put hk q) (fun {v ρ σ k k'} q hk => hk _ _ q) w
    | cell =>
      obtain ⟨hx, w⟩ := whenS_of w
      exact go (fun v ρ σ k q => E.putC hk q) (fun {v ρ σ k k'} q hk => LW.mono q (hk _)) w
    | _ => exact False.elim w
theorem def_of {name bind : Str} {params : Arguments} {body : List Stmt} {scope : Scope} {pos : Pos} (E : EX g env X cv)
    (w : wS g tb d (whenB (X.isLoc name && (bind == name)) (.asg (ixN name X.ns) (lamV X params (.stmts body) scope name pos))) cv ρ σ k) : XS g d env ρ σ (.FunctionDef name params body [] none [] scope none bind pos) k := by
  obtain ⟨hx, w'⟩ := whenS_of w
  clear w
  obtain ⟨h1, hb⟩ := and_t hx
  cases eq_of_beq hb
  have hx := eq_of_beq h1
  cases lam_of (d := d) (k := asgK (ixN name X.ns) ρ k) E w' with | mk e1 e2 e3 e4 e5 e6 e7 e8 q =>
  refine s_def E.ok e1 e2 e3 e4 e5 e6 e7 ?_ (E.put hx q)
  unfold qualnameIn
  rw [E.kind, hx, e8]; rfl
theorem CompJ.mono {N : Nat} {elt target : Expr} {ifs : List Expr} {scope : Scope} {cl : List (Str × Addr)} {k k' : KE} {x : V} (h : CompJ g d env N elt target ifs scope cl k x σ) (hk : ∀ x σ, k x σ → k' x σ) : CompJ g d env N elt target ifs scope cl k' x σ := by
  cases h with | mk l J jx j0 jl jt je => exact ⟨l, J, jx, j0, jl, jt, fun acc out σ' j => hk _ _ (je acc out σ' j)⟩
theorem lc_of {x : Str} {py : Pos} {e : Expr} {b : Bool} (q : lcOf X x py e = some b) : ∃ elt gens scope cp, e = .ListComp elt gens scope cp := by
  cases e with
  | ListComp elt gens scope cp => exact ⟨elt, gens, scope, cp, rfl⟩
  | _ => exact no_some q
theorem asgC_of {x : Str} {py pos : Pos} {e : Expr} {b : Bool} (ok : TOk g tb) (h : All g tb d n) (E : EX g env X cv) (q : lcOf X x py e = some b) (hb : b = true) (w : wE g tb d (cE tb n X e) cv ρ σ (asgK (ixN x X.ns) ρ k)) : XS g d env ρ σ (.Assign [.Name x py] e pos) k := by
  obtain ⟨elt, gens, scope, cp, rfl⟩ := lc_of q
  cases (show some _ = some b from q)
  obtain ⟨hx, h2⟩ := and_t hb
  obtain ⟨target, iter, ifs, rfl, z⟩ := h.lc E w
  cases z with | mk hs hsc hcl q =>
  have h0 : (env.blockKind == ScopeKind.function && env.kindOf x == some NameKind.local) = true := by
    unfold Env.blockKind
    rw [E.kind, show kOf X.ns x = _ from eq_of_beq hx, E.ok.kind]; rfl
  exact s_assignComp ok E.ok hs hsc hcl rfl (by
    show (pure (env.blockKind == ScopeKind.function && env.kindOf x == some NameKind.local && _ && _) : Sem Bool) = _
    rw [h0, Bool.true_and]
    exact congrArg pure h2) (q.kk fun y σ₁ q => q.mono fun v σ q => E.put (eq_of_beq hx) q)
theorem VS.mono {o x : V} {m : Str} {k k' : Sto → Prop} (h : VS g tb o m x σ k) (hk : ∀ σ, k σ → k' σ) : VS g tb o m x σ k' := ⟨fun ok => (h.run ok).mono fun _ ρ' σ' z => by
  cases z with | mk q => exact ⟨hk _ q⟩⟩
theorem VG.mono {o : V} {m : Str} {k k' : V → Prop} (h : VG g tb o m σ k) (hk : ∀ v, k v → k' v) : VG g tb o m σ k' := ⟨fun ok => (h.run ok).kk fun x σ z => by
  cases z with | mk q => exact ⟨hk _ q⟩⟩
theorem if_of {t : Expr} {a b : List Stmt} {pos : Pos} (h : All g tb d n) (hs : SSs g tb d n) (E : EX g env X cv) (w : wS g tb d (.iff (cT tb n X t) (cSs tb n X a) (cSs tb n X b)) cv ρ σ k) : XS g d env ρ σ (.If t a b pos) k :=
  s_if ((h.t E w).kk fun c σ w => br_mono w (hs E) (hs E))
theorem while_of {t : Expr} {b : List Stmt} {pos : Pos} (h : All g tb d n) (hs : SSs g tb d n) (E : EX g env X cv) (w : wS g tb d (.whil (cT tb n X t) (cSs tb n X b)) cv ρ σ k) : XS g d env ρ σ (.While t b [] pos) k := by
  cases (show LH (wE g tb d (cT tb n X t) cv) (wS g tb d (cSs tb n X b) cv) k ρ σ from w) with | mk J m j0 jt =>
  exact s_while J m j0 fun m ρ' σ' j => (h.t E (jt m ρ' σ' j)).kk fun b σ₂ w => br_mono w (hs E) id
theorem augx_of {x : Str} {e : Expr} {tp pos : Pos} (h : All g tb d n) (E : EX g env X cv) (w : wS g tb d (whenB (X.isLoc x) (.augx (ixN x X.ns) (cE tb n X e))) cv ρ σ k) : XS g d env ρ σ (.AugAssign (.Name x tp) .Add e pos) k := by
  obtain ⟨hx, w⟩ := whenS_of w
  obtain ⟨v, q, w⟩ := locW_of w
  obtain ⟨a, rfl, w'⟩ := intW_of w
  refine s_augName E.ok (E.at (eq_of_beq hx) q) ((h.e E w').kk fun y σ w => ?_)
  obtain ⟨b, rfl, w'⟩ := intW_of w
  exact ⟨b, rfl, by rw [E.ns]; exact w'⟩
theorem auga_of {o e : Expr} {m : Str} {tp pos : Pos} (ok : TOk g tb) (h : All g tb d n) (E : EX g env X cv) (w : wS g tb d (.auga (cE tb n X o) m (cE tb n X e)) cv ρ σ k) : XS g d env ρ σ (.AugAssign (.Attribute o m tp) .Add e pos) k := by
  refine s_augAttr ok ((h.e E w).kk fun x σ w => VG.mono w fun v w => (h.e E w).kk fun y σ w => ?_)
  obtain ⟨a, rfl, w'⟩ := intW_of w
  obtain ⟨b, rfl, w⟩ := intW_of w'
  exact ⟨a, b, rfl, rfl, w⟩
theorem two_asg {t e : Expr} {pos : Pos} (h : All g tb d n) (E : EX g env X cv) (w : wS g tb d (match twoOf t with
    | some p => whenB (notComp e && (constsOk e && !(p.1 == p.2))) (asgI2 X p.1 p.2 (cE tb n X e))
    | none => .bad) cv ρ σ k) : XS g d env ρ σ (.Assign [t] e pos) k := by
  cases q : twoOf t with
  | none => rw [q] at w; exact False.elim w
  | some p =>
    rw [q] at w
    cases twoOf_of q with | mk e' =>
    obtain ⟨hc, w'⟩ := whenS_of w
    clear w
    subst e'
    obtain ⟨h1, hc⟩ := and_t hc
    obtain ⟨h2, h3⟩ := and_t hc
    exact asg2_of h E h2 h1 (beq_eq_false_iff_ne.mp (not_t h3)) w'
theorem stepS (ok : TOk g tb) (h : All g tb d n) (hs : SSs g tb d n) : SS g tb d (n + 1) := fun {X cv env ρ σ s k} E w => by
  cases s with
  | Expr e pos =>
    obtain ⟨hc, w⟩ := whenS_of w
    exact s_expr E.ok hc (h.e E w)
  | Assign ts e pos => cases ts with
    | nil => exact False.elim w
    | cons t ts => cases ts with
      | nil => cases t with
        | Name x py =>
          have w : wS g tb d (match lcOf X x py e with
            | some b => whenB b (.asg (ixN x X.ns) (cE tb n X e))
            | none => whenB (notComp e) (asgI X x (cE tb n X e))) cv ρ σ k := w
          cases q : lcOf X x py e with
          | none =>
            rw [q] at w
            obtain ⟨hc, w⟩ := whenS_of w
            exact asg_of h E hc w
          | some b =>
            rw [q] at w
            obtain ⟨hc, w⟩ := whenS_of w
            exact asgC_of ok h E q hc w
        | Attribute o m tp =>
          obtain ⟨hc, w⟩ := whenS_of w
          exact s_setAttr ok hc ((h.e E w).kk fun v σ w => h.e E w)
        | Subscript o j tp =>
          obtain ⟨hc, w⟩ := whenS_of w
          exact s_setItem hc ((h.e E w).kk fun v σ w => (h.e E w).kk fun x σ w => h.e E w)
        | _ => exact two_asg h E w
      | cons _ _ => exact False.elim w
  | AugAssign t op e pos => cases op with
    | Add => cases t with
      | Name x tp => exact augx_of h E w
      | Attribute o m tp => exact auga_of ok h E w
      | _ => exact False.elim w
    | _ => exact False.elim w
  | If t a b pos => exact if_of h hs E w
  | While t b orelse pos => cases orelse with
    | nil => exact while_of h hs E w
    | cons _ _ => exact False.elim w
  | For t it b orelse pos => cases orelse with
    | nil =>
      have w : wS g tb d (match nmOf t with
        | some x => whenB (notSet it) (forI X x (cE tb n X it) (cSs tb n X b))
        | none => .bad) cv ρ σ k := w
      cases q : nmOf t with
      | none => rw [q] at w; exact False.elim w
      | some x =>
        rw [q] at w
        obtain ⟨tp, e⟩ := nmOf_of q
        obtain ⟨hn, w'⟩ := whenS_of w
        clear w
        subst e
        exact for_of h hs E hn w'
    | cons _ _ => exact False.elim w
  | Return e pos => cases e with
    | none => exact s_return0 w
    | some e => exact s_return (h.e E w)
  | Continue pos => exact s_continue w
  | FunctionDef name params body decs ret tps scope ts bind pos => cases decs with
    | nil => cases ret with
      | none => cases tps with
        | nil => cases ts with
          | none => exact def_of E w
          | some _ => exact False.elim w
        | cons _ _ => exact False.elim w
      | some _ => exact False.elim w
    | cons _ _ => exact False.elim w
  | _ => exact False.elim w
theorem sound_of (ok : TOk g tb) : SS g tb d n ∧ SSs g tb d n := by
  induction n with
  | zero => exact ⟨fun _ w => False.elim w, fun _ w => False.elim w⟩
  | succ n h => exact ⟨stepS ok (all_of ok) h.2, stepSs h.1 h.2⟩
end
end Mine

namespace Mine

/-! ## a def's call -/
noncomputable def tabP (c : Addr) : Addr := if c = 638 then 634 else if c = 610 then 606 else if c = 631 then 627 else 648
noncomputable def cxOf (i : FnI) (cn : List Str) : CX := ⟨i.tab.map fun c => (c, tabP c), i.qual, i.scope.names, cn⟩
noncomputable def stmtsOf (i : FnI) : List Stmt := match i.body with
  | .stmts b => b
  | _ => []
noncomputable def exprOf (i : FnI) : Expr := match i.body with
  | .expr b => b
  | _ => .Constant .none 0 ⟨0, 0, 0, 0⟩
noncomputable def TabOk (g : GE) (i : FnI) : Prop := ∀ c, i.tab = some c → CodeHd g.h₀ c (tabP c)
/-- a def, all that its calls want -/
structure DI (tb : TB) (i : FnI) (n m : Nat) (cn : List Str) (ir : I) : Prop where
  fo : FnOk i n
  hb : i.body = .stmts (stmtsOf i)
  cells : (i.scope.names.all fun x => x.2 != .cell) = true
  tree : cSs tb 100 (cxOf i cn) (stmtsOf i) = ir
structure DL (tb : TB) (i : FnI) (n m : Nat) (cn : List Str) (ir : I) : Prop where
  fo : FnOk i n
  hb : i.body = .expr (exprOf i)
  cells : (i.scope.names.all fun x => x.2 != .cell) = true
  tree : cE tb 100 (cxOf i cn) (exprOf i) = ir
structure DC (tb : TB) (i : FnI) (n m : Nat) (ir : I) : Prop where
  fo : FnOk i n
  hb : i.body = .stmts (stmtsOf i)
  clos : i.closure = []
  tree : cSs tb 100 (cxOf i (cellN i.scope.names).reverse) (stmtsOf i) = ir
section
variable {g : GE} {tb : TB} {d : Nat} {i : FnI} {n m : Nat} {cn : List Str} {cv : List Addr} {ir : I} {args : List V} {σ : Sto} {k : KE}
theorem noTab (h : i.tab = none) : TabOk g i := fun c e => by rw [h] at e; exact no_some e
theorem ex_of {env : Env} {cl : List (Str × Addr)} (fo : FnOk i n) (tk : TabOk g i) (ei : EnvIs env i cl) (hcl : cl = cn.zip cv) (hl : cn.length = cv.length) : EX g env (cxOf i cn) cv :=
  ⟨ei.ok, by rw [ei.sc]; rfl, ei.cl.trans hcl, hl, fo.p.nm, fun p e => by
    obtain ⟨c, e1, e2⟩ := Option.map_eq_some_iff.mp (show i.tab.map (fun c => (c, tabP c)) = some p from e)
    cases e2
    exact ⟨ei.code _ e1, tk _ e1, ei.qual⟩⟩
/-- a def with no cells of its own -/
theorem d_ir (D : DI tb i n m cn ir) (ok : TOk g tb) (tk : TabOk g i) (hcl : i.closure = cn.zip cv) (hl : cn.length = cv.length) (hlen : args.length = n)
    (h : wS g tb d ir cv (args.map some ++ List.replicate m none) σ (endF k)) : CallC g (d + 1) i args σ k := .body m D.hb D.fo D.cells hlen fun env ei =>
  (sound_of ok).2 (ex_of D.fo tk ei hcl hl) (by rw [D.tree]; exact h)
theorem d_irL (D : DL tb i n m cn ir) (ok : TOk g tb) (tk : TabOk g i) (hcl : i.closure = cn.zip cv) (hl : cn.length = cv.length) (hlen : args.length = n)
    (h : wE g tb d ir cv (args.map some ++ List.replicate m none) σ k) : CallC g (d + 1) i args σ k := .expr m D.hb D.fo D.cells hlen fun env ei =>
  (all_of ok).e (ex_of D.fo tk ei hcl hl) (by rw [D.tree]; exact h)
theorem cellW_mono {k k' : List Addr → Sto → Prop} {vs : List (Option V)} {acc : List Addr} {n : Nat} (hn : vs.length + acc.length = n) (hk : ∀ cv σ', cv.length = n → k cv σ' → k' cv σ') (h : cellW vs σ acc k) : cellW vs σ acc k' := by
  induction vs generalizing σ acc with
  | nil => exact hk _ _ (by rw [← hn, List.length_nil, Nat.zero_add]) h
  | cons v r ih => exact fun a ha => ih (by rw [← hn, List.length_cons, List.length_cons, Nat.add_right_comm]; rfl) (h a ha)
/-- a def with cells of its own -/
theorem d_irC {vs : List (Option V)} (D : DC tb i n m ir) (ok : TOk g tb) (tk : TabOk g i) (hlen : args.length = n) (hvs : cellV i args = vs)
    (h : cellW vs σ [] fun cv σ' => wS g tb d ir cv (args.map some ++ List.replicate m none) σ' (endF k)) : CallC g (d + 1) i args σ k := by
  subst hvs
  refine .bodyC m D.hb D.fo D.clos hlen (cellW_mono rfl (fun cv σ' hc h env ei => ?_) h)
  refine (sound_of ok).2 (ex_of D.fo tk ei rfl ?_) (by rw [D.tree]; exact h)
  rw [hc, List.length_reverse]
  exact (List.length_map _).symm
end
end Mine

namespace Mine

/-! ## the program's defs, by their places -/
noncomputable def prg (i : Nat) : Stmt := (PySem.Challenge.pw_np0310_01.main.body[i]?).getD (.Pass ⟨0, 0, 0, 0⟩)
noncomputable def fnOf (pre : Str) (tab : Option Addr) : Stmt → FnI
  | .FunctionDef n a b _ _ _ sc _ _ _ => { name := n, qual := pre ++ n, params := a, body := .stmts b, scope := sc, tab := tab }
  | _ => { name := Str.empty, qual := Str.empty, params := default, body := .stmts [], scope := default }
noncomputable def memb (i : Nat) : Stmt → Stmt
  | .ClassDef _ _ _ b _ _ _ _ _ _ _ => (b[i]?).getD (.Pass ⟨0, 0, 0, 0⟩)
  | _ => .Pass ⟨0, 0, 0, 0⟩
noncomputable def F_row_of : FnI := fnOf Str.empty none (prg 18)
noncomputable def F_is_plain_text : FnI := fnOf Str.empty none (prg 19)
noncomputable def F_with_texts_joined : FnI := fnOf Str.empty none (prg 20)
noncomputable def F_PatternCode_init : FnI := fnOf "PatternCode." none (memb 0 (prg 21))
noncomputable def F_PatternCode_emit : FnI := fnOf "PatternCode." none (memb 1 (prg 21))
noncomputable def F_PatternCode_put : FnI := fnOf "PatternCode." none (memb 2 (prg 21))
noncomputable def F_PatternCode_put_choice : FnI := fnOf "PatternCode." none (memb 3 (prg 21))
noncomputable def F_PatternCode_put_repeat : FnI := fnOf "PatternCode." none (memb 4 (prg 21))
noncomputable def F_straightened : FnI := fnOf Str.empty none (prg 22)
noncomputable def F_compile_pattern : FnI := fnOf Str.empty none (prg 23)
noncomputable def F_NameRef_init : FnI := fnOf "NameRef." none (memb 0 (prg 29))
noncomputable def F_chars_end : FnI := fnOf Str.empty none (prg 49)
noncomputable def F_len_end : FnI := fnOf Str.empty none (prg 50)
noncomputable def F_tab_end : FnI := fnOf Str.empty none (prg 53)
noncomputable def F_rem_end : FnI := fnOf Str.empty none (prg 55)
noncomputable def F_any_at : FnI := fnOf Str.empty none (prg 56)
noncomputable def F_run_end : FnI := fnOf Str.empty none (prg 58)
noncomputable def F_span_end : FnI := fnOf Str.empty none (prg 59)
noncomputable def F_arb_ends : FnI := fnOf Str.empty none (prg 61)
noncomputable def F_one_end : FnI := fnOf Str.empty none (prg 64)
noncomputable def F_plain_end : FnI := fnOf Str.empty none (prg 65)
noncomputable def F_ends_of : FnI := fnOf Str.empty none (prg 66)
noncomputable def F_Way_init : FnI := fnOf "Way." none (memb 0 (prg 71))
noncomputable def F_Way_copied : FnI := fnOf "Way." none (memb 1 (prg 71))
noncomputable def F_Match_init : FnI := fnOf "Match." none (memb 0 (prg 72))
noncomputable def F_Match_run : FnI := fnOf "Match." none (memb 1 (prg 72))
noncomputable def F_Match_way_back : FnI := fnOf "Match." none (memb 2 (prg 72))
noncomputable def F_Match_done : FnI := fnOf "Match." none (memb 3 (prg 72))
noncomputable def F_Match_met_once : FnI := fnOf "Match." none (memb 4 (prg 72))
noncomputable def F_Match_ended : FnI := fnOf "Match." none (memb 5 (prg 72))
noncomputable def F_Match_other : FnI := fnOf "Match." none (memb 6 (prg 72))
noncomputable def F_Match_met_often : FnI := fnOf "Match." none (memb 7 (prg 72))
noncomputable def F_named_rows : FnI := fnOf Str.empty none (prg 73)
noncomputable def F_match_orders : FnI := fnOf Str.empty none (prg 74)
noncomputable def F_match_compiled : FnI := fnOf Str.empty none (prg 75)
noncomputable def F_PlainHost_init : FnI := fnOf "PlainHost." none (memb 0 (prg 77))
noncomputable def F_PlainHost_assign : FnI := fnOf "PlainHost." none (memb 2 (prg 77))
noncomputable def F_PlainHost_step : FnI := fnOf "PlainHost." none (memb 3 (prg 77))
noncomputable def F_law_take : FnI := fnOf Str.empty none (prg 79)
noncomputable def F_law_box : FnI := fnOf Str.empty none (prg 80)
noncomputable def F_law_node : FnI := fnOf Str.empty none (prg 81)
noncomputable def F_law_plain : FnI := fnOf Str.empty none (prg 82)
noncomputable def F_law_more : FnI := fnOf Str.empty (some 610) (prg 83)
noncomputable def F_law_now : FnI := fnOf Str.empty none (prg 84)
noncomputable def F_law_try : FnI := fnOf Str.empty (some 631) (prg 86)
noncomputable def F_law_named : FnI := fnOf Str.empty (some 638) (prg 87)
noncomputable def F_law_lone : FnI := fnOf Str.empty none (prg 88)
noncomputable def F_law_due : FnI := fnOf Str.empty (some 652) (prg 89)
noncomputable def F_law : FnI := fnOf Str.empty none (prg 90)
noncomputable def gvL : List (Str × V) := [
  (("len" : Str), V.bi "len"),
  (("isinstance" : Str), V.bi "isinstance"),
  (("range" : Str), V.ty "range"),
  (("list" : Str), V.ty "list"),
  (("int" : Str), V.ty "int"),
  (("tuple" : Str), V.ty "tuple"),
  (("str" : Str), V.ty "str"),
  (("row_of" : Str), V.fn F_row_of),
  (("is_plain_text" : Str), V.fn F_is_plain_text),
  (("with_texts_joined" : Str), V.fn F_with_texts_joined),
  (("straightened" : Str), V.fn F_straightened),
  (("compile_pattern" : Str), V.fn F_compile_pattern),
  (("chars_end" : Str), V.fn F_chars_end),
  (("len_end" : Str), V.fn F_len_end),
  (("tab_end" : Str), V.fn F_tab_end),
  (("rem_end" : Str), V.fn F_rem_end),
  (("any_at" : Str), V.fn F_any_at),
  (("run_end" : Str), V.fn F_run_end),
  (("span_end" : Str), V.fn F_span_end),
  (("arb_ends" : Str), V.fn F_arb_ends),
  (("one_end" : Str), V.fn F_one_end),
  (("plain_end" : Str), V.fn F_plain_end),
  (("ends_of" : Str), V.fn F_ends_of),
  (("named_rows" : Str), V.fn F_named_rows),
  (("match_orders" : Str), V.fn F_match_orders),
  (("match_compiled" : Str), V.fn F_match_compiled),
  (("_law_take" : Str), V.fn F_law_take),
  (("_law_box" : Str), V.fn F_law_box),
  (("_law_node" : Str), V.fn F_law_node),
  (("_law_plain" : Str), V.fn F_law_plain),
  (("_law_more" : Str), V.fn F_law_more),
  (("_law_now" : Str), V.fn F_law_now),
  (("_law_try" : Str), V.fn F_law_try),
  (("_law_named" : Str), V.fn F_law_named),
  (("_law_lone" : Str), V.fn F_law_lone),
  (("_law_due" : Str), V.fn F_law_due),
  (("PatternCode" : Str), V.cls "PatternCode"),
  (("NameRef" : Str), V.cls "NameRef"),
  (("Way" : Str), V.cls "Way"),
  (("Match" : Str), V.cls "Match"),
  (("PlainHost" : Str), V.cls "PlainHost"),
  (("ONE" : Str), V.str "one"),
  (("WAYS" : Str), V.str "ways"),
  (("SPLIT" : Str), V.str "split"),
  (("JUMP" : Str), V.str "jump"),
  (("MARK" : Str), V.str "mark"),
  (("NAME" : Str), V.str "name"),
  (("SET" : Str), V.str "set"),
  (("GAIN" : Str), V.str "gain"),
  (("PLACE" : Str), V.str "place"),
  (("ASK" : Str), V.str "ask"),
  (("FENCE" : Str), V.str "fence"),
  (("FAIL" : Str), V.str "fail"),
  (("ABORT" : Str), V.str "abort"),
  (("SUCCEED" : Str), V.str "succeed"),
  (("DONE" : Str), V.str "done"),
  (("MET" : Str), V.int 0),
  (("FAILED" : Str), V.int 1),
  (("OVER" : Str), V.int 2),
  (("SINGLE" : Str), V.tup [.str "chars", .str "len", .str "pos", .str "rpos", .str "tab", .str "rtab", .str "any", .str "notany", .str "span", .str "break", .str "rem"]),
  (("ALONE" : Str), V.tup [.str "fence", .str "fail", .str "abort", .str "succeed"])]
noncomputable def mtL : List (Str × List (Str × FnI)) := [
  ("PatternCode", [("emit", F_PatternCode_emit), ("put", F_PatternCode_put), ("put_choice", F_PatternCode_put_choice), ("put_repeat", F_PatternCode_put_repeat)]),
  ("NameRef", []),
  ("Way", [("copied", F_Way_copied)]),
  ("Match", [("run", F_Match_run), ("way_back", F_Match_way_back), ("done", F_Match_done), ("met_once", F_Match_met_once), ("ended", F_Match_ended), ("other", F_Match_other), ("met_often", F_Match_met_often)]),
  ("PlainHost", [("assign", F_PlainHost_assign), ("step", F_PlainHost_step)])]
noncomputable def ctL : List (Str × FnI) := [("PatternCode", F_PatternCode_init), ("NameRef", F_NameRef_init), ("Way", F_Way_init), ("Match", F_Match_init), ("PlainHost", F_PlainHost_init)]
noncomputable def flL : List (Str × List Str) := [
  ("PatternCode", ["orders"]),
  ("NameRef", ["kind", "owner", "key"]),
  ("Way", ["orders", "pc", "at", "named", "marks", "calls"]),
  ("Match", ["subject", "host", "history"]),
  ("PlainHost", ["values", "limit", "refused", "steps", "log"])]

noncomputable def TBL : TB where
  gv := fun x => gvL.lookup x
  fl := fun c n => match flL.lookup c with
    | some l => l.contains n
    | none => false
  mt := fun c n => match mtL.lookup c with
    | some l => l.lookup n
    | none => none
  ct := fun c => ctL.lookup c
end Mine

namespace Mine

/-! ## the defs' trees (printed by a program of mine) -/
noncomputable def lamOf (a : I) : FnI := I.rec (motive := fun _ => Option FnI) none none (fun _ _ a r => a.or r) (fun _ => none) (fun _ => none) (fun _ => none) (fun _ _ _ _ _ => none) (fun _ _ => none) (fun _ _ _ _ _ _ => none) (fun _ _ _ _ _ => none) (fun _ _ _ _ => none)
  (fun _ _ _ _ _ _ _ _ => none) (fun _ _ => none) (fun _ _ _ _ => none) (fun _ _ => none) (fun _ _ _ => none) (fun _ _ _ _ => none) (fun _ _ _ _ _ _ _ _ => none) (fun _ _ => none) (fun _ _ => none) (fun _ _ a b => a.or b) (fun _ _ _ => none) (fun _ _ _ a b => a.or b) (fun _ _ _ _ _ => none) (fun _ _ => none)
  (fun _ _ _ _ _ _ _ _ _ _ => none) (fun _ _ _ f _ => some f) (fun _ _ => none) (fun _ _ a => a) (fun _ _ _ => none) (fun _ _ _ _ _ a => a) (fun _ _ _ _ _ => none) (fun _ _ _ _ _ _ => none) (fun _ _ _ => none) (fun _ _ _ _ _ => none) (fun _ _ _ t a b => (t.or a).or b) (fun _ a => a) none none (fun _ _ _ _ => none) (fun _ _ _ a b => a.or b) (fun _ _ _ a b => a.or b) a |>.getD F_law
noncomputable def I_row_of : I := (.cons (.asg2 false 2 false 3 (.tup (.cons (.lst .nil) (.cons (.lst (.cons (.x 0) .nil)) .nil)))) (.cons (.whil (.cmp .Gt (.call (.k (.bi "len")) (.cons (.x 3) .nil)) (.k (.int 0))) (.cons (.asg 4 (.meth (.x 3) "pop" .nil)) (.cons (.iff (.cmp .Eq (.sub (.x 4) (.k (.int 0))) (.x 1)) (.cons (.expr (.meth (.x 3) "extend" (.cons (.lst (.cons (.sub (.x 4) (.k (.int 2))) (.cons (.sub (.x 4) (.k (.int 1))) .nil))) .nil))) .nil) (.cons (.expr (.meth (.x 2) "append" (.cons (.x 4) .nil))) .nil)) .nil))) (.cons (.ret (.x 2)) .nil)))
theorem d_row_of : DI TBL F_row_of 2 3 [] I_row_of := ⟨⟨by kernel_rfl!, ⟨fun _ _ _ _ _ _ _ _ _ _ _ _ _ _ => by kernel_rfl!⟩⟩, by kernel_rfl!, by kernel_rfl!, by kernel_rfl!⟩
noncomputable def I_is_plain_text : I := (.cons (.ret (.and2 (.cmp .Eq (.sub (.x 0) (.k (.int 0))) (.k (.str "chars"))) (.call (.k (.bi "isinstance")) (.cons (.sub (.x 0) (.k (.int 1))) (.cons (.k (.ty "str")) .nil))))) .nil)
theorem d_is_plain_text : DI TBL F_is_plain_text 1 0 [] I_is_plain_text := ⟨⟨by kernel_rfl!, ⟨fun _ _ _ _ _ _ _ _ _ _ _ _ _ _ => by kernel_rfl!⟩⟩, by kernel_rfl!, by kernel_rfl!, by kernel_rfl!⟩
noncomputable def I_with_texts_joined : I := (.cons (.asg 1 (.lst .nil)) (.cons (.for 2 (.x 0) (.cons (.iff (.tst (.call (.k (.fn F_is_plain_text)) (.cons (.x 2) .nil))) (.cons (.iff (.cmp .Eq (.sub (.x 2) (.k (.int 1))) (.k (.str ""))) (.cons .cont .nil) .nil) (.cons (.iff (.and2 (.cmp .Gt (.call (.k (.bi "len")) (.cons (.x 1) .nil)) (.k (.int 0))) (.and2 (.tst (.call (.k (.fn F_is_plain_text)) (.cons (.sub (.x 1) (.bin .Sub (.call (.k (.bi "len")) (.cons (.x 1) .nil)) (.k (.int 1)))) .nil))) (.k (.bool true)))) (.cons (.asg 2 (.tup (.cons (.k (.str "chars")) (.cons (.bin .Add (.sub (.meth (.x 1) "pop" .nil) (.k (.int 1))) (.sub (.x 2) (.k (.int 1)))) .nil)))) .nil) .nil) .nil)) .nil) (.cons (.expr (.meth (.x 1) "append" (.cons (.x 2) .nil))) .nil))) (.cons (.ret (.x 1)) .nil)))
theorem d_with_texts_joined : DI TBL F_with_texts_joined 1 2 [] I_with_texts_joined := ⟨⟨by kernel_rfl!, ⟨fun _ _ _ _ _ _ _ _ _ _ _ _ _ _ => by kernel_rfl!⟩⟩, by kernel_rfl!, by kernel_rfl!, by kernel_rfl!⟩
noncomputable def I_straightened : I := (.cons (.asg 1 (.lst .nil)) (.cons (.for 2 (.x 0) (.cons (.iff (.cmp .In (.sub (.x 2) (.k (.int 0))) (.tup (.cons (.k (.str "jump")) (.cons (.k (.str "split")) .nil)))) (.cons (.asg 3 (.sub (.x 2) (.k (.int 1)))) (.cons (.whil (.cmp .Eq (.sub (.sub (.x 0) (.x 3)) (.k (.int 0))) (.k (.str "jump"))) (.cons (.asg 3 (.sub (.sub (.x 0) (.x 3)) (.k (.int 1)))) .nil)) (.cons (.asg 2 (.tup (.cons (.sub (.x 2) (.k (.int 0))) (.cons (.x 3) .nil)))) .nil))) .nil) (.cons (.expr (.meth (.x 1) "append" (.cons (.x 2) .nil))) .nil))) (.cons (.ret (.x 1)) .nil)))
theorem d_straightened : DI TBL F_straightened 1 3 [] I_straightened := ⟨⟨by kernel_rfl!, ⟨fun _ _ _ _ _ _ _ _ _ _ _ _ _ _ => by kernel_rfl!⟩⟩, by kernel_rfl!, by kernel_rfl!, by kernel_rfl!⟩
noncomputable def I_compile_pattern : I := (.cons (.asg 1 (.new "PatternCode" .nil)) (.cons (.expr (.meth (.x 1) "put" (.cons (.x 0) .nil))) (.cons (.expr (.meth (.x 1) "emit" (.cons (.tup (.cons (.k (.str "done")) .nil)) .nil))) (.cons (.ret (.call (.k (.fn F_straightened)) (.cons (.att (.x 1) "orders") .nil))) .nil))))
theorem d_compile_pattern : DI TBL F_compile_pattern 1 1 [] I_compile_pattern := ⟨⟨by kernel_rfl!, ⟨fun _ _ _ _ _ _ _ _ _ _ _ _ _ _ => by kernel_rfl!⟩⟩, by kernel_rfl!, by kernel_rfl!, by kernel_rfl!⟩
noncomputable def I_chars_end : I := (.cons (.asg 3 (.bin .Add (.x 1) (.call (.k (.bi "len")) (.cons (.x 2) .nil)))) (.cons (.ret (.ite (.cmp .Eq (.sli (.x 0) (.x 1) (.x 3) (.k .none)) (.x 2)) (.x 3) (.k .none))) .nil))
theorem d_chars_end : DI TBL F_chars_end 3 1 [] I_chars_end := ⟨⟨by kernel_rfl!, ⟨fun _ _ _ _ _ _ _ _ _ _ _ _ _ _ => by kernel_rfl!⟩⟩, by kernel_rfl!, by kernel_rfl!, by kernel_rfl!⟩
noncomputable def I_len_end : I := (.cons (.ret (.ite (.cmp .LtE (.bin .Add (.x 1) (.x 2)) (.call (.k (.bi "len")) (.cons (.x 0) .nil))) (.bin .Add (.x 1) (.x 2)) (.k .none))) .nil)
theorem d_len_end : DI TBL F_len_end 3 0 [] I_len_end := ⟨⟨by kernel_rfl!, ⟨fun _ _ _ _ _ _ _ _ _ _ _ _ _ _ => by kernel_rfl!⟩⟩, by kernel_rfl!, by kernel_rfl!, by kernel_rfl!⟩
noncomputable def I_tab_end : I := (.cons (.ret (.ite (.cmp2 .LtE .LtE (.x 1) (.x 2) (.call (.k (.bi "len")) (.cons (.x 0) .nil))) (.x 2) (.k .none))) .nil)
theorem d_tab_end : DI TBL F_tab_end 3 0 [] I_tab_end := ⟨⟨by kernel_rfl!, ⟨fun _ _ _ _ _ _ _ _ _ _ _ _ _ _ => by kernel_rfl!⟩⟩, by kernel_rfl!, by kernel_rfl!, by kernel_rfl!⟩
noncomputable def I_rem_end : I := (.cons (.ret (.call (.k (.bi "len")) (.cons (.x 0) .nil))) .nil)
theorem d_rem_end : DI TBL F_rem_end 1 0 [] I_rem_end := ⟨⟨by kernel_rfl!, ⟨fun _ _ _ _ _ _ _ _ _ _ _ _ _ _ => by kernel_rfl!⟩⟩, by kernel_rfl!, by kernel_rfl!, by kernel_rfl!⟩
noncomputable def I_any_at : I := (.cons (.ret (.ite (.and2 (.cmp .Lt (.x 1) (.call (.k (.bi "len")) (.cons (.x 0) .nil))) (.and2 (.cmp .In (.sub (.x 0) (.x 1)) (.x 2)) (.k (.bool true)))) (.bin .Add (.x 1) (.k (.int 1))) (.k .none))) .nil)
theorem d_any_at : DI TBL F_any_at 3 0 [] I_any_at := ⟨⟨by kernel_rfl!, ⟨fun _ _ _ _ _ _ _ _ _ _ _ _ _ _ => by kernel_rfl!⟩⟩, by kernel_rfl!, by kernel_rfl!, by kernel_rfl!⟩
noncomputable def I_run_end : I := (.cons (.whil (.and2 (.cmp .Lt (.x 1) (.call (.k (.bi "len")) (.cons (.x 0) .nil))) (.and2 (.cmp .Eq (.cmp .In (.sub (.x 0) (.x 1)) (.x 2)) (.x 3)) (.k (.bool true)))) (.cons (.augx 1 (.k (.int 1))) .nil)) (.cons (.ret (.x 1)) .nil))
theorem d_run_end : DI TBL F_run_end 4 0 [] I_run_end := ⟨⟨by kernel_rfl!, ⟨fun _ _ _ _ _ _ _ _ _ _ _ _ _ _ => by kernel_rfl!⟩⟩, by kernel_rfl!, by kernel_rfl!, by kernel_rfl!⟩
noncomputable def I_span_end : I := (.cons (.asg 3 (.call (.k (.fn F_run_end)) (.cons (.x 0) (.cons (.x 1) (.cons (.x 2) (.cons (.k (.bool true)) .nil)))))) (.cons (.ret (.ite (.cmp .Gt (.x 3) (.x 1)) (.x 3) (.k .none))) .nil))
theorem d_span_end : DI TBL F_span_end 3 1 [] I_span_end := ⟨⟨by kernel_rfl!, ⟨fun _ _ _ _ _ _ _ _ _ _ _ _ _ _ => by kernel_rfl!⟩⟩, by kernel_rfl!, by kernel_rfl!, by kernel_rfl!⟩
noncomputable def I_arb_ends : I := (.cons (.ret (.call (.k (.ty "list")) (.cons (.call (.k (.ty "range")) (.cons (.x 1) (.cons (.bin .Add (.call (.k (.bi "len")) (.cons (.x 0) .nil)) (.k (.int 1))) .nil))) .nil))) .nil)
theorem d_arb_ends : DI TBL F_arb_ends 2 0 [] I_arb_ends := ⟨⟨by kernel_rfl!, ⟨fun _ _ _ _ _ _ _ _ _ _ _ _ _ _ => by kernel_rfl!⟩⟩, by kernel_rfl!, by kernel_rfl!, by kernel_rfl!⟩
noncomputable def I_one_end : I := (.cons (.iff (.cmp .Eq (.x 0) (.k (.str "chars"))) (.cons (.ret (.call (.k (.fn F_chars_end)) (.cons (.x 1) (.cons (.x 2) (.cons (.x 3) .nil))))) .nil) .nil) (.cons (.iff (.cmp .Eq (.x 0) (.k (.str "len"))) (.cons (.ret (.call (.k (.fn F_len_end)) (.cons (.x 1) (.cons (.x 2) (.cons (.x 3) .nil))))) .nil) .nil) (.cons (.iff (.cmp .Eq (.x 0) (.k (.str "pos"))) (.cons (.ret (.call .bad (.cons (.x 2) (.cons (.x 3) .nil)))) .nil) .nil) (.cons (.iff (.cmp .Eq (.x 0) (.k (.str "rpos"))) (.cons (.ret (.call .bad (.cons (.x 1) (.cons (.x 2) (.cons (.x 3) .nil))))) .nil) .nil) (.cons (.iff (.cmp .Eq (.x 0) (.k (.str "tab"))) (.cons (.ret (.call (.k (.fn F_tab_end)) (.cons (.x 1) (.cons (.x 2) (.cons (.x 3) .nil))))) .nil) .nil) (.cons (.iff (.cmp .Eq (.x 0) (.k (.str "rtab"))) (.cons (.ret (.call .bad (.cons (.x 1) (.cons (.x 2) (.cons (.x 3) .nil))))) .nil) .nil) (.cons (.iff (.cmp .Eq (.x 0) (.k (.str "any"))) (.cons (.ret (.call (.k (.fn F_any_at)) (.cons (.x 1) (.cons (.x 2) (.cons (.x 3) .nil))))) .nil) .nil) (.cons (.iff (.cmp .Eq (.x 0) (.k (.str "notany"))) (.cons (.ret (.call .bad (.cons (.x 1) (.cons (.x 2) (.cons (.x 3) .nil))))) .nil) .nil) (.cons (.iff (.cmp .Eq (.x 0) (.k (.str "span"))) (.cons (.ret (.call (.k (.fn F_span_end)) (.cons (.x 1) (.cons (.x 2) (.cons (.x 3) .nil))))) .nil) .nil) (.cons (.ret (.call .bad (.cons (.x 1) (.cons (.x 2) (.cons (.x 3) .nil))))) .nil))))))))))
theorem d_one_end : DI TBL F_one_end 4 0 [] I_one_end := ⟨⟨by kernel_rfl!, ⟨fun _ _ _ _ _ _ _ _ _ _ _ _ _ _ => by kernel_rfl!⟩⟩, by kernel_rfl!, by kernel_rfl!, by kernel_rfl!⟩
noncomputable def I_plain_end : I := (.cons (.ret (.ite (.cmp .Eq (.sub (.x 0) (.k (.int 0))) (.k (.str "rem"))) (.call (.k (.fn F_rem_end)) (.cons (.x 1) .nil)) (.call (.k (.fn F_one_end)) (.cons (.sub (.x 0) (.k (.int 0))) (.cons (.x 1) (.cons (.x 2) (.cons (.sub (.x 0) (.k (.int 1))) .nil))))))) .nil)
theorem d_plain_end : DI TBL F_plain_end 3 0 [] I_plain_end := ⟨⟨by kernel_rfl!, ⟨fun _ _ _ _ _ _ _ _ _ _ _ _ _ _ => by kernel_rfl!⟩⟩, by kernel_rfl!, by kernel_rfl!, by kernel_rfl!⟩
noncomputable def I_ends_of : I := (.cons (.iff (.cmp .Eq (.x 0) (.k (.str "arb"))) (.cons (.ret (.call (.k (.fn F_arb_ends)) (.cons (.x 1) (.cons (.x 2) .nil)))) .nil) .nil) (.cons (.iff (.cmp .Eq (.x 0) (.k (.str "bal"))) (.cons (.ret (.call .bad (.cons (.x 1) (.cons (.x 2) .nil)))) .nil) .nil) (.cons (.iff (.cmp .Eq (.x 0) (.k (.str "rem"))) (.cons (.ret (.lst (.cons (.call (.k (.fn F_rem_end)) (.cons (.x 1) .nil)) .nil))) .nil) .nil) (.cons (.asg 4 (.call (.k (.fn F_one_end)) (.cons (.x 0) (.cons (.x 1) (.cons (.x 2) (.cons (.x 3) .nil)))))) (.cons (.ret (.ite (.cmp .Is (.x 4) (.k .none)) (.lst .nil) (.lst (.cons (.x 4) .nil)))) .nil)))))
theorem d_ends_of : DI TBL F_ends_of 4 1 [] I_ends_of := ⟨⟨by kernel_rfl!, ⟨fun _ _ _ _ _ _ _ _ _ _ _ _ _ _ => by kernel_rfl!⟩⟩, by kernel_rfl!, by kernel_rfl!, by kernel_rfl!⟩
noncomputable def I_named_rows : I := (.cons (.asg 1 (.lst .nil)) (.cons (.whil (.cmp .IsNot (.x 0) (.k .none)) (.cons (.asg2 false 0 false 2 (.x 0)) (.cons (.expr (.meth (.x 1) "append" (.cons (.x 2) .nil))) .nil))) (.cons (.expr (.meth (.x 1) "reverse" .nil)) (.cons (.ret (.x 1)) .nil))))
theorem d_named_rows : DI TBL F_named_rows 1 2 [] I_named_rows := ⟨⟨by kernel_rfl!, ⟨fun _ _ _ _ _ _ _ _ _ _ _ _ _ _ => by kernel_rfl!⟩⟩, by kernel_rfl!, by kernel_rfl!, by kernel_rfl!⟩
noncomputable def I_match_orders : I := (.cons (.for 4 (.call (.k (.ty "range")) (.cons (.ite (.tst (.x 2)) (.k (.int 1)) (.bin .Add (.call (.k (.bi "len")) (.cons (.x 1) .nil)) (.k (.int 1)))) .nil)) (.cons (.asg2 false 5 false 6 (.meth (.new "Match" (.cons (.x 1) (.cons (.x 3) .nil))) "run" (.cons (.x 0) (.cons (.x 4) .nil)))) (.cons (.iff (.cmp .Eq (.x 5) (.k (.int 0))) (.cons (.ret (.tup (.cons (.x 4) (.cons (.att (.x 6) "at") (.cons (.call (.k (.fn F_named_rows)) (.cons (.att (.x 6) "named") .nil)) .nil))))) .nil) .nil) (.cons (.iff (.cmp .Eq (.x 5) (.k (.int 2))) (.cons (.ret (.k .none)) .nil) .nil) .nil)))) (.cons (.ret (.k .none)) .nil))
theorem d_match_orders : DI TBL F_match_orders 4 3 [] I_match_orders := ⟨⟨by kernel_rfl!, ⟨fun _ _ _ _ _ _ _ _ _ _ _ _ _ _ => by kernel_rfl!⟩⟩, by kernel_rfl!, by kernel_rfl!, by kernel_rfl!⟩
noncomputable def I_match_compiled : I := (.cons (.ret (.call (.k (.fn F_match_orders)) (.cons (.call (.k (.fn F_compile_pattern)) (.cons (.x 0) .nil)) (.cons (.x 1) (.cons (.x 2) (.cons (.x 3) .nil)))))) .nil)
theorem d_match_compiled : DI TBL F_match_compiled 4 0 [] I_match_compiled := ⟨⟨by kernel_rfl!, ⟨fun _ _ _ _ _ _ _ _ _ _ _ _ _ _ => by kernel_rfl!⟩⟩, by kernel_rfl!, by kernel_rfl!, by kernel_rfl!⟩
noncomputable def I_law_take : I := (.cons (.iff (.cmp .Gt (.call (.k (.bi "len")) (.cons (.sub (.x 0) (.k (.int 0))) .nil)) (.k (.int 0))) (.cons (.ret (.bin .Mod (.meth (.sub (.x 0) (.k (.int 0))) "pop" (.cons (.k (.int 0)) .nil)) (.x 1))) .nil) .nil) (.cons (.sitem (.x 0) (.k (.int 1)) (.bin .Mod (.bin .Add (.bin .Mult (.sub (.x 0) (.k (.int 1))) (.k (.int 4093))) (.k (.int 12289))) (.k (.int 1000003)))) (.cons (.ret (.bin .Mod (.bin .FloorDiv (.sub (.x 0) (.k (.int 1))) (.k (.int 8))) (.x 1))) .nil)))
theorem d_law_take : DI TBL F_law_take 2 0 [] I_law_take := ⟨⟨by kernel_rfl!, ⟨fun _ _ _ _ _ _ _ _ _ _ _ _ _ _ => by kernel_rfl!⟩⟩, by kernel_rfl!, by kernel_rfl!, by kernel_rfl!⟩
noncomputable def I_law_box : I := (.cons (.asg 2 (.lst (.cons (.comp 3 1 0 [] (.sli (.x 0) (.k .none) (.k (.int 40)) (.k .none)) (.k (.bool true)) (.call (.k (.ty "int")) (.cons (.x 1) .nil))) (.cons (.k (.int 7)) (.cons (.k (.int 6)) .nil))))) (.cons (.for 1 (.sli (.x 0) (.k .none) (.k (.int 40)) (.k .none)) (.cons (.sitem (.x 2) (.k (.int 1)) (.bin .Mod (.bin .Add (.bin .Mult (.sub (.x 2) (.k (.int 1))) (.k (.int 31))) (.x 1)) (.k (.int 1000003)))) .nil)) (.cons (.ret (.x 2)) .nil)))
theorem d_law_box : DI TBL F_law_box 1 2 [] I_law_box := ⟨⟨by kernel_rfl!, ⟨fun _ _ _ _ _ _ _ _ _ _ _ _ _ _ => by kernel_rfl!⟩⟩, by kernel_rfl!, by kernel_rfl!, by kernel_rfl!⟩
noncomputable def I_law_node : I := (.cons (.sitem (.x 0) (.k (.int 2)) (.bin .Sub (.sub (.x 0) (.k (.int 2))) (.k (.int 1)))) (.cons (.asg 3 (.call (.k (.fn F_law_take)) (.cons (.x 0) (.cons (.ite (.and2 (.cmp .Gt (.x 1) (.k (.int 0))) (.and2 (.cmp .Gt (.sub (.x 0) (.k (.int 2))) (.k (.int 0))) (.k (.bool true)))) (.k (.int 16)) (.k (.int 9))) .nil)))) (.cons (.iff (.cmp .Lt (.x 3) (.k (.int 3))) (.cons (.ret (.tup (.cons (.k (.str "chars")) (.cons (.sub (.lst (.cons (.k (.str "a")) (.cons (.k (.str "b")) (.cons (.k (.str "ab")) (.cons (.k (.str "")) .nil))))) (.call (.k (.fn F_law_take)) (.cons (.x 0) (.cons (.k (.int 4)) .nil)))) .nil)))) .nil) .nil) (.cons (.iff (.cmp .Lt (.x 3) (.k (.int 6))) (.cons (.asg 4 (.lst (.cons (.tup (.cons (.k (.str "len")) (.cons (.call (.k (.fn F_law_take)) (.cons (.x 0) (.cons (.k (.int 3)) .nil))) .nil))) (.cons (.tup (.cons (.k (.str "tab")) (.cons (.call (.k (.fn F_law_take)) (.cons (.x 0) (.cons (.k (.int 6)) .nil))) .nil))) .nil)))) (.cons (.ret (.sub (.bin .Add (.x 4) (.lst (.cons (.tup (.cons (.k (.str "span")) (.cons (.sub (.lst (.cons (.k (.str "a")) (.cons (.k (.str "ab")) .nil))) (.call (.k (.fn F_law_take)) (.cons (.x 0) (.cons (.k (.int 2)) .nil)))) .nil))) .nil))) (.bin .Sub (.x 3) (.k (.int 3))))) .nil)) .nil) (.cons (.iff (.cmp .Eq (.x 3) (.k (.int 6))) (.cons (.ret (.tup (.cons (.k (.str "any")) (.cons (.sub (.lst (.cons (.k (.str "a")) (.cons (.k (.str "b")) (.cons (.k (.str "ab")) .nil)))) (.call (.k (.fn F_law_take)) (.cons (.x 0) (.cons (.k (.int 3)) .nil)))) .nil)))) .nil) .nil) (.cons (.iff (.cmp .Eq (.x 3) (.k (.int 7))) (.cons (.ret (.sub (.lst (.cons (.tup (.cons (.k (.str "arb")) .nil)) (.cons (.tup (.cons (.k (.str "rem")) .nil)) (.cons (.tup (.cons (.k (.str "fail")) .nil)) (.cons (.tup (.cons (.k (.str "arb")) .nil)) .nil))))) (.call (.k (.fn F_law_take)) (.cons (.x 0) (.cons (.k (.int 4)) .nil))))) .nil) .nil) (.cons (.iff (.cmp .Eq (.x 3) (.k (.int 8))) (.cons (.ret (.tup (.cons (.k (.str "cursor")) (.cons (.sub (.x 2) (.call (.k (.fn F_law_take)) (.cons (.x 0) (.cons (.k (.int 3)) .nil)))) .nil)))) .nil) .nil) (.cons (.asg 5 (.call (.k (.fn F_law_node)) (.cons (.x 0) (.cons (.bin .Sub (.x 1) (.k (.int 1))) (.cons (.x 2) .nil))))) (.cons (.iff (.cmp .Eq (.x 3) (.k (.int 9))) (.cons (.ret (.tup (.cons (.k (.str "arbno")) (.cons (.x 5) .nil)))) .nil) .nil) (.cons (.iff (.cmp .Lt (.x 3) (.k (.int 13))) (.cons (.ret (.tup (.cons (.sub (.lst (.cons (.k (.str "later")) (.cons (.k (.str "now")) (.cons (.k (.str "later")) .nil)))) (.bin .Sub (.x 3) (.k (.int 10)))) (.cons (.x 5) (.cons (.sub (.x 2) (.call (.k (.fn F_law_take)) (.cons (.x 0) (.cons (.k (.int 3)) .nil)))) .nil))))) .nil) .nil) (.cons (.ret (.tup (.cons (.ite (.and2 (.cmp .Lt (.x 3) (.k (.int 15))) (.and2 (.cmp .NotEq (.x 3) (.k (.int 13))) (.k (.bool true)))) (.k (.str "cat")) (.k (.str "alt"))) (.cons (.x 5) (.cons (.call (.k (.fn F_law_node)) (.cons (.x 0) (.cons (.bin .Sub (.x 1) (.k (.int 1))) (.cons (.x 2) .nil)))) .nil))))) .nil)))))))))))
theorem d_law_node : DI TBL F_law_node 3 3 [] I_law_node := ⟨⟨by kernel_rfl!, ⟨fun _ _ _ _ _ _ _ _ _ _ _ _ _ _ => by kernel_rfl!⟩⟩, by kernel_rfl!, by kernel_rfl!, by kernel_rfl!⟩
noncomputable def I_law_plain : I := (.cons (.asg2 true 0 false 5 (.tup (.cons (.sub (.x 0) (.k (.str "subject"))) (.cons (.call (.k (.bi "len")) (.cons (.sub (.x 0) (.k (.str "subject"))) .nil)) .nil)))) (.cons (.iff (.cmp .Eq (.x 1) (.k (.str "chars"))) (.cons (.ret (.ite (.tst (.meth (.sli (.c 0) (.c 1) (.k .none) (.k .none)) "startswith" (.cons (.c 2) .nil))) (.bin .Add (.c 1) (.call (.k (.bi "len")) (.cons (.c 2) .nil))) (.k .none))) .nil) .nil) (.cons (.iff (.cmp .Eq (.x 1) (.k (.str "len"))) (.cons (.ret (.ite (.cmp .LtE (.bin .Add (.c 1) (.c 2)) (.x 5)) (.bin .Add (.c 1) (.c 2)) (.k .none))) .nil) .nil) (.cons (.iff (.cmp .Eq (.x 1) (.k (.str "any"))) (.cons (.ret (.ite (.and2 (.cmp .NotEq (.sli (.c 0) (.c 1) (.bin .Add (.c 1) (.k (.int 1))) (.k .none)) (.k (.str ""))) (.and2 (.cmp .In (.sub (.c 0) (.c 1)) (.c 2)) (.k (.bool true)))) (.bin .Add (.c 1) (.k (.int 1))) (.k .none))) .nil) .nil) (.cons (.iff (.cmp .Eq (.x 1) (.k (.str "tab"))) (.cons (.ret (.ite (.cmp2 .LtE .LtE (.c 1) (.c 2) (.x 5)) (.c 2) (.k .none))) .nil) .nil) (.cons (.asg 6 (.bin .Add (.c 1) (.call (.k (.bi "len")) (.cons (.comp 5 1 0 [2, 0, 1] (.call (.k (.ty "range")) (.cons (.c 1) (.cons (.x 5) .nil))) (.cmp .Eq (.comp 3 1 0 [0] (.sli (.c 1) (.c 2) (.bin .Add (.x 1) (.k (.int 1))) (.k .none)) (.cmp .NotIn (.x 1) (.c 0)) (.k (.int 1))) (.lst .nil)) (.k (.int 1))) .nil)))) (.cons (.ret (.ite (.cmp .Gt (.x 6) (.c 1)) (.x 6) (.k .none))) .nil)))))))
theorem d_law_plain : DC TBL F_law_plain 4 3 I_law_plain := ⟨⟨by kernel_rfl!, ⟨fun _ _ _ _ _ _ _ _ _ _ _ _ _ _ => by kernel_rfl!⟩⟩, by kernel_rfl!, by kernel_rfl!, by kernel_rfl!⟩
noncomputable def L_law_more : FnI := lamOf (cSs TBL 100 (cxOf F_law_more (cellN F_law_more.scope.names).reverse) (stmtsOf F_law_more))
noncomputable def I_law_more : I := (.cons (.asg 5 (.call (.c 0) (.cons (.c 1) (.cons (.x 3) .nil)))) (.cons (.iff (.cmp .IsNot (.x 5) (.k .none)) (.cons (.ret (.x 5)) .nil) .nil) (.cons (.asg 6 (.lam 606 ⟨503, 4, 504, 78⟩ "_law_more.<locals>.again" L_law_more [("world", 3), ("node", 2), ("behind", 0), ("at", 1)])) (.cons (.ret (.call (.k (.fn F_law_try)) (.cons (.c 3) (.cons (.c 2) (.cons (.c 1) (.cons (.x 3) (.cons (.x 6) .nil))))))) .nil))))
theorem d_law_more : DC TBL F_law_more 5 2 I_law_more := ⟨⟨by kernel_rfl!, ⟨fun _ _ _ _ _ _ _ _ _ _ _ _ _ _ => by kernel_rfl!⟩⟩, by kernel_rfl!, by kernel_rfl!, by kernel_rfl!⟩
noncomputable def J_law_more : I := (.cons (.ret (.ite (.cmp .Gt (.x 0) (.c 3)) (.call (.k (.fn F_law_more)) (.cons (.c 0) (.cons (.c 1) (.cons (.x 0) (.cons (.x 1) (.cons (.c 2) .nil)))))) (.k .none))) .nil)
theorem dj_law_more : DI TBL L_law_more 2 0 ["world", "node", "behind", "at"] J_law_more := ⟨⟨by kernel_rfl!, ⟨fun _ _ _ _ _ _ _ _ _ _ _ _ _ _ => by kernel_rfl!⟩⟩, by kernel_rfl!, by kernel_rfl!, by kernel_rfl!⟩
noncomputable def I_law_now : I := (.cons (.iff (.cmp .In (.x 1) (.sub (.x 0) (.k (.str "refused")))) (.cons (.ret (.k .none)) .nil) .nil) (.cons (.expr (.meth (.sub (.x 0) (.k (.str "log"))) "append" (.cons (.tup (.cons (.x 1) (.cons (.x 2) .nil))) .nil))) (.cons (.sitem (.sub (.x 0) (.k (.str "values"))) (.x 1) (.x 2)) (.cons (.ret (.call (.x 5) (.cons (.x 3) (.cons (.x 4) .nil)))) .nil))))
theorem d_law_now : DI TBL F_law_now 6 0 [] I_law_now := ⟨⟨by kernel_rfl!, ⟨fun _ _ _ _ _ _ _ _ _ _ _ _ _ _ => by kernel_rfl!⟩⟩, by kernel_rfl!, by kernel_rfl!, by kernel_rfl!⟩
noncomputable def L_law_try : FnI := lamOf (cSs TBL 100 (cxOf F_law_try (cellN F_law_try.scope.names).reverse) (stmtsOf F_law_try))
noncomputable def I_law_try : I := (.cons (.asg2 false 5 false 6 (.tup (.cons (.sub (.c 1) (.k (.int 0))) (.cons (.sub (.c 2) (.k (.str "subject"))) .nil)))) (.cons (.iff (.cmp .Eq (.x 5) (.k (.str "cat"))) (.cons (.ret (.call (.k (.fn F_law_try)) (.cons (.c 2) (.cons (.sub (.c 1) (.k (.int 1))) (.cons (.x 2) (.cons (.x 3) (.cons (.lam 627 ⟨520, 51, 520, 112⟩ "_law_try.<locals>.<lambda>" L_law_try [("world", 2), ("node", 1), ("behind", 0)]) .nil))))))) .nil) .nil) (.cons (.iff (.cmp .Eq (.x 5) (.k (.str "alt"))) (.cons (.asg 7 (.call (.k (.fn F_law_try)) (.cons (.c 2) (.cons (.sub (.c 1) (.k (.int 1))) (.cons (.x 2) (.cons (.x 3) (.cons (.c 0) .nil))))))) (.cons (.ret (.ite (.cmp .Is (.x 7) (.k .none)) (.call (.k (.fn F_law_try)) (.cons (.c 2) (.cons (.sub (.c 1) (.k (.int 2))) (.cons (.x 2) (.cons (.x 3) (.cons (.c 0) .nil)))))) (.x 7))) .nil)) .nil) (.cons (.iff (.cmp .Eq (.x 5) (.k (.str "arb"))) (.cons (.asg2 false 7 false 8 (.tup (.cons (.call (.c 0) (.cons (.x 2) (.cons (.x 3) .nil))) (.cons (.x 2) .nil)))) (.cons (.whil (.and2 (.cmp .Is (.x 7) (.k .none)) (.and2 (.cmp .Lt (.x 8) (.call (.k (.bi "len")) (.cons (.x 6) .nil))) (.k (.bool true)))) (.cons (.asg 8 (.bin .Add (.x 8) (.k (.int 1)))) (.cons (.asg 7 (.call (.c 0) (.cons (.x 8) (.cons (.x 3) .nil)))) .nil))) (.cons (.ret (.x 7)) .nil))) .nil) (.cons (.iff (.cmp .Eq (.x 5) (.k (.str "rem"))) (.cons (.ret (.call (.c 0) (.cons (.call (.k (.bi "len")) (.cons (.x 6) .nil)) (.cons (.x 3) .nil)))) .nil) .nil) (.cons (.iff (.cmp .Eq (.x 5) (.k (.str "arbno"))) (.cons (.ret (.call (.k (.fn F_law_more)) (.cons (.c 2) (.cons (.sub (.c 1) (.k (.int 1))) (.cons (.x 2) (.cons (.x 3) (.cons (.c 0) .nil))))))) .nil) .nil) (.cons (.iff (.cmp .Eq (.x 5) (.k (.str "cursor"))) (.cons (.ret (.call (.k (.fn F_law_now)) (.cons (.c 2) (.cons (.att (.sub (.c 1) (.k (.int 1))) "key") (.cons (.x 2) (.cons (.x 2) (.cons (.x 3) (.cons (.c 0) .nil)))))))) .nil) .nil) (.cons (.iff (.ort (.cmp .Eq (.x 5) (.k (.str "later"))) (.ort (.cmp .Eq (.x 5) (.k (.str "now"))) (.k (.bool false)))) (.cons (.ret (.call (.k (.fn F_law_named)) (.cons (.c 2) (.cons (.c 1) (.cons (.x 2) (.cons (.x 3) (.cons (.c 0) .nil))))))) .nil) .nil) (.cons (.ret (.call (.k (.fn F_law_lone)) (.cons (.c 2) (.cons (.c 1) (.cons (.x 2) (.cons (.x 3) (.cons (.c 0) .nil))))))) .nil)))))))))
theorem d_law_try : DC TBL F_law_try 5 4 I_law_try := ⟨⟨by kernel_rfl!, ⟨fun _ _ _ _ _ _ _ _ _ _ _ _ _ _ => by kernel_rfl!⟩⟩, by kernel_rfl!, by kernel_rfl!, by kernel_rfl!⟩
noncomputable def J_law_try : I := (.call (.k (.fn F_law_try)) (.cons (.c 0) (.cons (.sub (.c 1) (.k (.int 2))) (.cons (.x 0) (.cons (.x 1) (.cons (.c 2) .nil))))))
theorem dj_law_try : DL TBL L_law_try 2 0 ["world", "node", "behind"] J_law_try := ⟨⟨by kernel_rfl!, ⟨fun _ _ _ _ _ _ _ _ _ _ _ _ _ _ => by kernel_rfl!⟩⟩, by kernel_rfl!, by kernel_rfl!, by kernel_rfl!⟩
noncomputable def L_law_named : FnI := lamOf (cSs TBL 100 (cxOf F_law_named (cellN F_law_named.scope.names).reverse) (stmtsOf F_law_named))
noncomputable def I_law_named : I := (.cons (.asg2 true 1 true 0 (.tup (.cons (.att (.sub (.c 4) (.k (.int 2))) "key") (.cons (.sub (.c 5) (.k (.str "subject"))) .nil)))) (.cons (.asg 5 (.lam 634 ⟨542, 4, 545, 71⟩ "_law_named.<locals>.ended" L_law_named [("world", 5), ("subject", 0), ("node", 4), ("key", 1), ("behind", 2), ("at", 3)])) (.cons (.ret (.call (.k (.fn F_law_try)) (.cons (.c 5) (.cons (.sub (.c 4) (.k (.int 1))) (.cons (.c 3) (.cons (.x 3) (.cons (.x 5) .nil))))))) .nil)))
theorem d_law_named : DC TBL F_law_named 5 1 I_law_named := ⟨⟨by kernel_rfl!, ⟨fun _ _ _ _ _ _ _ _ _ _ _ _ _ _ => by kernel_rfl!⟩⟩, by kernel_rfl!, by kernel_rfl!, by kernel_rfl!⟩
noncomputable def J_law_named : I := (.cons (.iff (.cmp .Eq (.sub (.c 2) (.k (.int 0))) (.k (.str "later"))) (.cons (.ret (.call (.c 4) (.cons (.x 0) (.cons (.bin .Add (.x 1) (.lst (.cons (.tup (.cons (.c 3) (.cons (.sli (.c 1) (.c 5) (.x 0) (.k .none)) .nil))) .nil))) .nil)))) .nil) .nil) (.cons (.ret (.call (.k (.fn F_law_now)) (.cons (.c 0) (.cons (.c 3) (.cons (.sli (.c 1) (.c 5) (.x 0) (.k .none)) (.cons (.x 0) (.cons (.x 1) (.cons (.c 4) .nil)))))))) .nil))
theorem dj_law_named : DI TBL L_law_named 2 0 ["world", "subject", "node", "key", "behind", "at"] J_law_named := ⟨⟨by kernel_rfl!, ⟨fun _ _ _ _ _ _ _ _ _ _ _ _ _ _ => by kernel_rfl!⟩⟩, by kernel_rfl!, by kernel_rfl!, by kernel_rfl!⟩
noncomputable def I_law_lone : I := (.cons (.asg 5 (.ite (.cmp .Gt (.call (.k (.bi "len")) (.cons (.x 1) .nil)) (.k (.int 1))) (.sub (.x 1) (.k (.int 1))) (.k .none))) (.cons (.iff (.tst (.call (.k (.bi "isinstance")) (.cons (.x 5) (.cons (.k (.ty "tuple")) .nil)))) (.cons (.asg 5 (.call .bad (.cons (.x 0) (.cons (.ite (.cmp .Eq (.sub (.x 1) (.k (.int 0))) (.k (.str "delay"))) (.x 5) (.sub (.x 5) (.k (.int 1)))) .nil)))) (.cons (.iff (.cmp .Is (.x 5) (.k .none)) (.cons (.ret (.k .none)) .nil) .nil) (.cons (.iff (.cmp .Eq (.sub (.x 1) (.k (.int 0))) (.k (.str "delay"))) (.cons (.ret (.call (.k (.fn F_law_try)) (.cons (.x 0) (.cons (.ite (.tst (.call (.k (.bi "isinstance")) (.cons (.x 5) (.cons (.k (.ty "tuple")) .nil)))) (.x 5) (.tup (.cons (.k (.str "chars")) (.cons (.call (.k (.ty "str")) (.cons (.x 5) .nil)) .nil)))) (.cons (.x 2) (.cons (.x 3) (.cons (.x 4) .nil))))))) .nil) .nil) .nil))) .nil) (.cons (.iff (.cmp .Eq (.sub (.x 1) (.k (.int 0))) (.k (.str "fail"))) (.cons (.ret (.k .none)) .nil) .nil) (.cons (.asg 6 (.call (.k (.fn F_law_plain)) (.cons (.x 0) (.cons (.sub (.x 1) (.k (.int 0))) (.cons (.x 5) (.cons (.x 2) .nil)))))) (.cons (.ret (.ite (.cmp .Is (.x 6) (.k .none)) (.k .none) (.call (.x 4) (.cons (.x 6) (.cons (.x 3) .nil))))) .nil)))))
theorem d_law_lone : DI TBL F_law_lone 5 2 [] I_law_lone := ⟨⟨by kernel_rfl!, ⟨fun _ _ _ _ _ _ _ _ _ _ _ _ _ _ => by kernel_rfl!⟩⟩, by kernel_rfl!, by kernel_rfl!, by kernel_rfl!⟩
noncomputable def L_law_due : FnI := lamOf (cSs TBL 100 (cxOf F_law_due (cellN F_law_due.scope.names).reverse) (stmtsOf F_law_due))
noncomputable def I_law_due : I := (.cons (.forC 0 (.call (.k (.ty "range")) (.cons (.ite (.tst (.x 1)) (.k (.int 1)) (.bin .Add (.call (.k (.bi "len")) (.cons (.sub (.x 0) (.k (.str "subject"))) .nil)) (.k (.int 1)))) .nil)) (.cons (.asg 2 (.call (.k (.fn F_law_try)) (.cons (.x 0) (.cons (.sub (.x 0) (.k (.str "node"))) (.cons (.c 0) (.cons (.lst .nil) (.cons (.lam 648 ⟨561, 58, 561, 96⟩ "_law_due.<locals>.<lambda>" L_law_due [("begin", 0)]) .nil))))))) (.cons (.iff (.cmp .IsNot (.x 2) (.k .none)) (.cons (.ret (.x 2)) .nil) .nil) .nil))) (.cons (.ret (.k .none)) .nil))
theorem d_law_due : DC TBL F_law_due 2 1 I_law_due := ⟨⟨by kernel_rfl!, ⟨fun _ _ _ _ _ _ _ _ _ _ _ _ _ _ => by kernel_rfl!⟩⟩, by kernel_rfl!, by kernel_rfl!, by kernel_rfl!⟩
noncomputable def J_law_due : I := (.tup (.cons (.c 0) (.cons (.x 0) (.cons (.x 1) .nil))))
theorem dj_law_due : DL TBL L_law_due 2 0 ["begin"] J_law_due := ⟨⟨by kernel_rfl!, ⟨fun _ _ _ _ _ _ _ _ _ _ _ _ _ _ => by kernel_rfl!⟩⟩, by kernel_rfl!, by kernel_rfl!, by kernel_rfl!⟩
noncomputable def I_PatternCode_emit : I := (.cons (.expr (.meth (.att (.x 0) "orders") "append" (.cons (.x 1) .nil))) (.cons (.ret (.bin .Sub (.call (.k (.bi "len")) (.cons (.att (.x 0) "orders") .nil)) (.k (.int 1)))) .nil))
theorem d_PatternCode_emit : DI TBL F_PatternCode_emit 2 0 [] I_PatternCode_emit := ⟨⟨by kernel_rfl!, ⟨fun _ _ _ _ _ _ _ _ _ _ _ _ _ _ => by kernel_rfl!⟩⟩, by kernel_rfl!, by kernel_rfl!, by kernel_rfl!⟩
noncomputable def I_PatternCode_put : I := (.cons (.asg 2 (.sub (.x 1) (.k (.int 0)))) (.cons (.iff (.cmp .Eq (.x 2) (.k (.str "cat"))) (.cons (.for 3 (.call (.k (.fn F_with_texts_joined)) (.cons (.call (.k (.fn F_row_of)) (.cons (.x 1) (.cons (.k (.str "cat")) .nil))) .nil)) (.cons (.expr (.meth (.x 0) "put" (.cons (.x 3) .nil))) .nil)) .nil) (.cons (.iff (.cmp .Eq (.x 2) (.k (.str "alt"))) (.cons (.expr (.meth (.x 0) "put_choice" (.cons (.call (.k (.fn F_row_of)) (.cons (.x 1) (.cons (.k (.str "alt")) .nil))) .nil))) .nil) (.cons (.iff (.cmp .In (.x 2) (.k (.tup [(.str "chars"), (.str "len"), (.str "pos"), (.str "rpos"), (.str "tab"), (.str "rtab"), (.str "any"), (.str "notany"), (.str "span"), (.str "break"), (.str "rem")]))) (.cons (.expr (.meth (.x 0) "emit" (.cons (.tup (.cons (.k (.str "one")) (.cons (.x 2) (.cons (.ite (.cmp .Gt (.call (.k (.bi "len")) (.cons (.x 1) .nil)) (.k (.int 1))) (.sub (.x 1) (.k (.int 1))) (.k .none)) .nil)))) .nil))) .nil) (.cons (.iff (.ort (.cmp .Eq (.x 2) (.k (.str "arb"))) (.ort (.cmp .Eq (.x 2) (.k (.str "bal"))) (.k (.bool false)))) (.cons (.expr (.meth (.x 0) "emit" (.cons (.tup (.cons (.k (.str "ways")) (.cons (.x 2) .nil))) .nil))) .nil) (.cons (.iff (.cmp .Eq (.x 2) (.k (.str "arbno"))) (.cons (.expr (.meth (.x 0) "put_repeat" (.cons (.sub (.x 1) (.k (.int 1))) .nil))) .nil) (.cons (.iff (.cmp .In (.x 2) (.k (.tup [(.str "fence"), (.str "fail"), (.str "abort"), (.str "succeed")]))) (.cons (.expr (.meth (.x 0) "emit" (.cons (.tup (.cons (.x 2) .nil)) .nil))) .nil) (.cons (.iff (.cmp .Eq (.x 2) (.k (.str "cursor"))) (.cons (.expr (.meth (.x 0) "emit" (.cons (.tup (.cons (.k (.str "place")) (.cons (.sub (.x 1) (.k (.int 1))) .nil))) .nil))) .nil) (.cons (.iff (.cmp .Eq (.x 2) (.k (.str "delay"))) (.cons (.expr (.meth (.x 0) "emit" (.cons (.tup (.cons (.k (.str "ask")) (.cons (.sub (.x 1) (.k (.int 1))) .nil))) .nil))) .nil) (.cons (.expr (.meth (.x 0) "emit" (.cons (.tup (.cons (.k (.str "mark")) .nil)) .nil))) (.cons (.expr (.meth (.x 0) "put" (.cons (.sub (.x 1) (.k (.int 1))) .nil))) (.cons (.expr (.meth (.x 0) "emit" (.cons (.tup (.cons (.ite (.cmp .Eq (.x 2) (.k (.str "later"))) (.k (.str "name")) (.k (.str "set"))) (.cons (.sub (.x 1) (.k (.int 2))) .nil))) .nil))) .nil)))) .nil)) .nil)) .nil)) .nil)) .nil)) .nil)) .nil)) .nil))
theorem d_PatternCode_put : DI TBL F_PatternCode_put 2 2 [] I_PatternCode_put := ⟨⟨by kernel_rfl!, ⟨fun _ _ _ _ _ _ _ _ _ _ _ _ _ _ => by kernel_rfl!⟩⟩, by kernel_rfl!, by kernel_rfl!, by kernel_rfl!⟩
noncomputable def I_PatternCode_put_choice : I := (.cons (.asg 2 (.lst .nil)) (.cons (.for 3 (.sli (.x 1) (.k .none) (.bin .Sub (.call (.k (.bi "len")) (.cons (.x 1) .nil)) (.k (.int 1))) (.k .none)) (.cons (.asg 4 (.meth (.x 0) "emit" (.cons (.k .none) .nil))) (.cons (.expr (.meth (.x 0) "put" (.cons (.x 3) .nil))) (.cons (.expr (.meth (.x 2) "append" (.cons (.meth (.x 0) "emit" (.cons (.k .none) .nil)) .nil))) (.cons (.sitem (.att (.x 0) "orders") (.x 4) (.tup (.cons (.k (.str "split")) (.cons (.call (.k (.bi "len")) (.cons (.att (.x 0) "orders") .nil)) .nil)))) .nil))))) (.cons (.expr (.meth (.x 0) "put" (.cons (.sub (.x 1) (.bin .Sub (.call (.k (.bi "len")) (.cons (.x 1) .nil)) (.k (.int 1)))) .nil))) (.cons (.for 5 (.x 2) (.cons (.sitem (.att (.x 0) "orders") (.x 5) (.tup (.cons (.k (.str "jump")) (.cons (.call (.k (.bi "len")) (.cons (.att (.x 0) "orders") .nil)) .nil)))) .nil)) .nil))))
theorem d_PatternCode_put_choice : DI TBL F_PatternCode_put_choice 2 4 [] I_PatternCode_put_choice := ⟨⟨by kernel_rfl!, ⟨fun _ _ _ _ _ _ _ _ _ _ _ _ _ _ => by kernel_rfl!⟩⟩, by kernel_rfl!, by kernel_rfl!, by kernel_rfl!⟩
noncomputable def I_PatternCode_put_repeat : I := (.cons (.asg 2 (.meth (.x 0) "emit" (.cons (.k .none) .nil))) (.cons (.asg 3 (.meth (.x 0) "emit" (.cons (.k .none) .nil))) (.cons (.sitem (.att (.x 0) "orders") (.x 2) (.tup (.cons (.k (.str "split")) (.cons (.call (.k (.bi "len")) (.cons (.att (.x 0) "orders") .nil)) .nil)))) (.cons (.expr (.meth (.x 0) "emit" (.cons (.tup (.cons (.k (.str "mark")) .nil)) .nil))) (.cons (.expr (.meth (.x 0) "put" (.cons (.x 1) .nil))) (.cons (.expr (.meth (.x 0) "emit" (.cons (.tup (.cons (.k (.str "gain")) .nil)) .nil))) (.cons (.expr (.meth (.x 0) "emit" (.cons (.tup (.cons (.k (.str "jump")) (.cons (.x 2) .nil))) .nil))) (.cons (.sitem (.att (.x 0) "orders") (.x 3) (.tup (.cons (.k (.str "jump")) (.cons (.call (.k (.bi "len")) (.cons (.att (.x 0) "orders") .nil)) .nil)))) .nil))))))))
theorem d_PatternCode_put_repeat : DI TBL F_PatternCode_put_repeat 2 2 [] I_PatternCode_put_repeat := ⟨⟨by kernel_rfl!, ⟨fun _ _ _ _ _ _ _ _ _ _ _ _ _ _ => by kernel_rfl!⟩⟩, by kernel_rfl!, by kernel_rfl!, by kernel_rfl!⟩
noncomputable def I_Way_copied : I := (.cons (.ret (.new "Way" (.cons (.att (.x 0) "orders") (.cons (.x 1) (.cons (.att (.x 0) "at") (.cons (.att (.x 0) "named") (.cons (.att (.x 0) "marks") (.cons (.att (.x 0) "calls") .nil)))))))) .nil)
theorem d_Way_copied : DI TBL F_Way_copied 2 0 [] I_Way_copied := ⟨⟨by kernel_rfl!, ⟨fun _ _ _ _ _ _ _ _ _ _ _ _ _ _ => by kernel_rfl!⟩⟩, by kernel_rfl!, by kernel_rfl!, by kernel_rfl!⟩
noncomputable def I_Match_run : I := (.cons (.asg 3 (.new "Way" (.cons (.x 1) (.cons (.k (.int 0)) (.cons (.x 2) (.cons (.k .none) (.cons (.k .none) (.cons (.k .none) .nil)))))))) (.cons (.whil (.cmp .IsNot (.x 3) (.k .none)) (.cons (.expr (.meth (.att (.x 0) "host") "step" .nil)) (.cons (.asg 4 (.sub (.att (.x 3) "orders") (.att (.x 3) "pc"))) (.cons (.iff (.and2 (.cmp .Eq (.sub (.x 4) (.k (.int 0))) (.k (.str "done"))) (.and2 (.cmp .Is (.att (.x 3) "calls") (.k .none)) (.k (.bool true)))) (.cons (.ret (.tup (.cons (.k (.int 0)) (.cons (.x 3) .nil)))) .nil) .nil) (.cons (.iff (.cmp .Eq (.sub (.x 4) (.k (.int 0))) (.k (.str "abort"))) (.cons (.ret (.tup (.cons (.k (.int 2)) (.cons (.k .none) .nil)))) .nil) .nil) (.cons (.iff (.not (.tst (.meth (.x 0) "done" (.cons (.x 4) (.cons (.x 3) .nil))))) (.cons (.asg 3 (.meth (.x 0) "way_back" .nil)) (.cons (.iff (.and2 (.cmp .IsNot (.x 3) (.k .none)) (.and2 (.cmp .Is (.att (.x 3) "orders") (.k .none)) (.k (.bool true)))) (.cons (.ret (.tup (.cons (.k (.int 2)) (.cons (.k .none) .nil)))) .nil) .nil) .nil)) .nil) .nil)))))) (.cons (.ret (.tup (.cons (.k (.int 1)) (.cons (.k .none) .nil)))) .nil)))
theorem d_Match_run : DI TBL F_Match_run 3 2 [] I_Match_run := ⟨⟨by kernel_rfl!, ⟨fun _ _ _ _ _ _ _ _ _ _ _ _ _ _ => by kernel_rfl!⟩⟩, by kernel_rfl!, by kernel_rfl!, by kernel_rfl!⟩
noncomputable def I_Match_way_back : I := (.cons (.ret (.ite (.cmp .Gt (.call (.k (.bi "len")) (.cons (.att (.x 0) "history") .nil)) (.k (.int 0))) (.meth (.att (.x 0) "history") "pop" .nil) (.k .none))) .nil)
theorem d_Match_way_back : DI TBL F_Match_way_back 1 0 [] I_Match_way_back := ⟨⟨by kernel_rfl!, ⟨fun _ _ _ _ _ _ _ _ _ _ _ _ _ _ => by kernel_rfl!⟩⟩, by kernel_rfl!, by kernel_rfl!, by kernel_rfl!⟩
noncomputable def I_Match_done : I := (.cons (.asg 3 (.sub (.x 1) (.k (.int 0)))) (.cons (.iff (.cmp .Eq (.x 3) (.k (.str "one"))) (.cons (.ret (.meth (.x 0) "met_once" (.cons (.x 1) (.cons (.x 2) .nil)))) .nil) .nil) (.cons (.iff (.cmp .Eq (.x 3) (.k (.str "split"))) (.cons (.expr (.meth (.att (.x 0) "history") "append" (.cons (.meth (.x 2) "copied" (.cons (.sub (.x 1) (.k (.int 1))) .nil)) .nil))) .nil) (.cons (.iff (.cmp .Eq (.x 3) (.k (.str "jump"))) (.cons (.satt (.x 2) "pc" (.sub (.x 1) (.k (.int 1)))) (.cons (.ret (.k (.bool true))) .nil)) (.cons (.iff (.cmp .Eq (.x 3) (.k (.str "mark"))) (.cons (.satt (.x 2) "marks" (.tup (.cons (.att (.x 2) "marks") (.cons (.att (.x 2) "at") .nil)))) .nil) (.cons (.iff (.cmp .In (.x 3) (.tup (.cons (.k (.str "name")) (.cons (.k (.str "set")) (.cons (.k (.str "gain")) .nil))))) (.cons (.iff (.not (.tst (.meth (.x 0) "ended" (.cons (.x 1) (.cons (.x 2) .nil))))) (.cons (.ret (.k (.bool false))) .nil) .nil) .nil) (.cons (.iff (.cmp .Eq (.x 3) (.k (.str "place"))) (.cons (.iff (.not (.tst (.meth (.att (.x 0) "host") "assign" (.cons (.sub (.x 1) (.k (.int 1))) (.cons (.att (.x 2) "at") .nil))))) (.cons (.ret (.k (.bool false))) .nil) .nil) .nil) (.cons (.ret (.meth (.x 0) "other" (.cons (.x 1) (.cons (.x 2) .nil)))) .nil)) .nil)) .nil)) .nil)) .nil)) (.cons (.auga (.x 2) "pc" (.k (.int 1))) (.cons (.ret (.k (.bool true))) .nil)))))
theorem d_Match_done : DI TBL F_Match_done 3 1 [] I_Match_done := ⟨⟨by kernel_rfl!, ⟨fun _ _ _ _ _ _ _ _ _ _ _ _ _ _ => by kernel_rfl!⟩⟩, by kernel_rfl!, by kernel_rfl!, by kernel_rfl!⟩
noncomputable def I_Match_met_once : I := (.cons (.asg 3 (.sub (.x 1) (.k (.int 2)))) (.cons (.iff (.tst (.call (.k (.bi "isinstance")) (.cons (.x 3) (.cons (.k (.ty "tuple")) .nil)))) (.cons (.asg 4 (.call .bad (.cons (.tup (.cons (.sub (.x 1) (.k (.int 1))) (.cons (.x 3) .nil))) (.cons (.att (.x 0) "host") .nil)))) (.cons (.iff (.cmp .Is (.x 4) (.k .none)) (.cons (.ret (.k (.bool false))) .nil) .nil) (.cons (.asg 3 (.sub (.x 4) (.k (.int 1)))) .nil))) .nil) (.cons (.asg 5 (.call (.k (.fn F_plain_end)) (.cons (.tup (.cons (.sub (.x 1) (.k (.int 1))) (.cons (.x 3) .nil))) (.cons (.att (.x 0) "subject") (.cons (.att (.x 2) "at") .nil))))) (.cons (.iff (.cmp .Is (.x 5) (.k .none)) (.cons (.ret (.k (.bool false))) .nil) .nil) (.cons (.satt (.x 2) "at" (.x 5)) (.cons (.auga (.x 2) "pc" (.k (.int 1))) (.cons (.ret (.k (.bool true))) .nil)))))))
theorem d_Match_met_once : DI TBL F_Match_met_once 3 3 [] I_Match_met_once := ⟨⟨by kernel_rfl!, ⟨fun _ _ _ _ _ _ _ _ _ _ _ _ _ _ => by kernel_rfl!⟩⟩, by kernel_rfl!, by kernel_rfl!, by kernel_rfl!⟩
noncomputable def I_Match_ended : I := (.cons (.asg2 false 3 false 4 (.att (.x 2) "marks")) (.cons (.satt (.x 2) "marks" (.x 3)) (.cons (.asg 5 (.sli (.att (.x 0) "subject") (.x 4) (.att (.x 2) "at") (.k .none))) (.cons (.iff (.cmp .Eq (.sub (.x 1) (.k (.int 0))) (.k (.str "gain"))) (.cons (.ret (.cmp .Gt (.att (.x 2) "at") (.x 4))) .nil) .nil) (.cons (.iff (.cmp .Eq (.sub (.x 1) (.k (.int 0))) (.k (.str "set"))) (.cons (.ret (.meth (.att (.x 0) "host") "assign" (.cons (.sub (.x 1) (.k (.int 1))) (.cons (.x 5) .nil)))) .nil) .nil) (.cons (.satt (.x 2) "named" (.tup (.cons (.att (.x 2) "named") (.cons (.tup (.cons (.sub (.x 1) (.k (.int 1))) (.cons (.x 5) .nil))) .nil)))) (.cons (.ret (.k (.bool true))) .nil)))))))
theorem d_Match_ended : DI TBL F_Match_ended 3 3 [] I_Match_ended := ⟨⟨by kernel_rfl!, ⟨fun _ _ _ _ _ _ _ _ _ _ _ _ _ _ => by kernel_rfl!⟩⟩, by kernel_rfl!, by kernel_rfl!, by kernel_rfl!⟩
noncomputable def I_Match_other : I := (.cons (.asg 3 (.sub (.x 1) (.k (.int 0)))) (.cons (.iff (.cmp .Eq (.x 3) (.k (.str "fail"))) (.cons (.ret (.k (.bool false))) .nil) .nil) (.cons (.iff (.cmp .Eq (.x 3) (.k (.str "ways"))) (.cons (.ret (.meth (.x 0) "met_often" (.cons (.x 2) (.cons (.call (.k (.fn F_ends_of)) (.cons (.sub (.x 1) (.k (.int 1))) (.cons (.att (.x 0) "subject") (.cons (.att (.x 2) "at") (.cons (.k .none) .nil))))) .nil)))) .nil) .nil) (.cons (.iff (.cmp .Eq (.x 3) (.k (.str "ask"))) (.cons (.ret (.meth (.x 0) "asked" (.cons (.sub (.x 1) (.k (.int 1))) (.cons (.x 2) .nil)))) .nil) .nil) (.cons (.iff (.cmp .Eq (.x 3) (.k (.str "done"))) (.cons .bad (.cons (.ret (.k (.bool true))) .nil)) .nil) (.cons (.iff (.cmp .Eq (.x 3) (.k (.str "fence"))) (.cons (.expr (.meth (.att (.x 0) "history") "append" (.cons (.new "Way" (.cons (.k .none) (.cons (.k (.int 0)) (.cons (.k (.int 0)) (.cons (.k .none) (.cons (.k .none) (.cons (.k .none) .nil))))))) .nil))) .nil) (.cons (.iff (.cmp .Eq (.x 3) (.k (.str "succeed"))) (.cons (.expr (.meth (.att (.x 0) "history") "append" (.cons (.meth (.x 2) "copied" (.cons (.att (.x 2) "pc") .nil)) .nil))) .nil) .nil) .nil)) (.cons (.auga (.x 2) "pc" (.k (.int 1))) (.cons (.ret (.k (.bool true))) .nil))))))))
theorem d_Match_other : DI TBL F_Match_other 3 1 [] I_Match_other := ⟨⟨by kernel_rfl!, ⟨fun _ _ _ _ _ _ _ _ _ _ _ _ _ _ => by kernel_rfl!⟩⟩, by kernel_rfl!, by kernel_rfl!, by kernel_rfl!⟩
noncomputable def I_Match_met_often : I := (.cons (.iff (.cmp .Eq (.call (.k (.bi "len")) (.cons (.x 2) .nil)) (.k (.int 0))) (.cons (.ret (.k (.bool false))) .nil) .nil) (.cons (.auga (.x 1) "pc" (.k (.int 1))) (.cons (.for 3 (.sli (.x 2) (.k .none) (.k (.int 0)) (.neg (.k (.int 1)))) (.cons (.asg 4 (.meth (.x 1) "copied" (.cons (.att (.x 1) "pc") .nil))) (.cons (.satt (.x 4) "at" (.x 3)) (.cons (.expr (.meth (.att (.x 0) "history") "append" (.cons (.x 4) .nil))) .nil)))) (.cons (.satt (.x 1) "at" (.sub (.x 2) (.k (.int 0)))) (.cons (.ret (.k (.bool true))) .nil)))))
theorem d_Match_met_often : DI TBL F_Match_met_often 3 2 [] I_Match_met_often := ⟨⟨by kernel_rfl!, ⟨fun _ _ _ _ _ _ _ _ _ _ _ _ _ _ => by kernel_rfl!⟩⟩, by kernel_rfl!, by kernel_rfl!, by kernel_rfl!⟩
noncomputable def I_PlainHost_assign : I := (.cons (.iff (.cmp .In (.att (.x 1) "key") (.att (.x 0) "refused")) (.cons (.ret (.k (.bool false))) .nil) .nil) (.cons (.sitem (.att (.x 0) "values") (.att (.x 1) "key") (.x 2)) (.cons (.expr (.meth (.att (.x 0) "log") "append" (.cons (.tup (.cons (.att (.x 1) "key") (.cons (.x 2) .nil))) .nil))) (.cons (.ret (.k (.bool true))) .nil))))
theorem d_PlainHost_assign : DI TBL F_PlainHost_assign 3 0 [] I_PlainHost_assign := ⟨⟨by kernel_rfl!, ⟨fun _ _ _ _ _ _ _ _ _ _ _ _ _ _ => by kernel_rfl!⟩⟩, by kernel_rfl!, by kernel_rfl!, by kernel_rfl!⟩
noncomputable def I_PlainHost_step : I := (.cons (.auga (.x 0) "steps" (.k (.int 1))) (.cons (.iff (.cmp .Gt (.att (.x 0) "steps") (.att (.x 0) "limit")) (.cons .bad .nil) .nil) .nil))
theorem d_PlainHost_step : DI TBL F_PlainHost_step 1 0 [] I_PlainHost_step := ⟨⟨by kernel_rfl!, ⟨fun _ _ _ _ _ _ _ _ _ _ _ _ _ _ => by kernel_rfl!⟩⟩, by kernel_rfl!, by kernel_rfl!, by kernel_rfl!⟩
noncomputable def I_PatternCode_init : I := (.cons (.satt (.x 0) "orders" (.lst .nil)) .nil)
theorem d_PatternCode_init : DI TBL F_PatternCode_init 1 0 [] I_PatternCode_init := ⟨⟨by kernel_rfl!, ⟨fun _ _ _ _ _ _ _ _ _ _ _ _ _ _ => by kernel_rfl!⟩⟩, by kernel_rfl!, by kernel_rfl!, by kernel_rfl!⟩
noncomputable def I_NameRef_init : I := (.cons (.satt (.x 0) "kind" (.x 1)) (.cons (.satt (.x 0) "owner" (.x 2)) (.cons (.satt (.x 0) "key" (.x 3)) .nil)))
theorem d_NameRef_init : DI TBL F_NameRef_init 4 0 [] I_NameRef_init := ⟨⟨by kernel_rfl!, ⟨fun _ _ _ _ _ _ _ _ _ _ _ _ _ _ => by kernel_rfl!⟩⟩, by kernel_rfl!, by kernel_rfl!, by kernel_rfl!⟩
noncomputable def I_Way_init : I := (.cons (.satt (.x 0) "orders" (.x 1)) (.cons (.satt (.x 0) "pc" (.x 2)) (.cons (.satt (.x 0) "at" (.x 3)) (.cons (.satt (.x 0) "named" (.x 4)) (.cons (.satt (.x 0) "marks" (.x 5)) (.cons (.satt (.x 0) "calls" (.x 6)) .nil))))))
theorem d_Way_init : DI TBL F_Way_init 7 0 [] I_Way_init := ⟨⟨by kernel_rfl!, ⟨fun _ _ _ _ _ _ _ _ _ _ _ _ _ _ => by kernel_rfl!⟩⟩, by kernel_rfl!, by kernel_rfl!, by kernel_rfl!⟩
noncomputable def I_Match_init : I := (.cons (.satt (.x 0) "subject" (.x 1)) (.cons (.satt (.x 0) "host" (.x 2)) (.cons (.satt (.x 0) "history" (.lst .nil)) .nil)))
theorem d_Match_init : DI TBL F_Match_init 3 0 [] I_Match_init := ⟨⟨by kernel_rfl!, ⟨fun _ _ _ _ _ _ _ _ _ _ _ _ _ _ => by kernel_rfl!⟩⟩, by kernel_rfl!, by kernel_rfl!, by kernel_rfl!⟩
noncomputable def I_PlainHost_init : I := (.cons (.satt (.x 0) "values" (.x 1)) (.cons (.satt (.x 0) "limit" (.x 2)) (.cons (.satt (.x 0) "refused" (.x 3)) (.cons (.satt (.x 0) "steps" (.k (.int 0))) (.cons (.satt (.x 0) "log" (.lst .nil)) .nil)))))
theorem d_PlainHost_init : DI TBL F_PlainHost_init 4 0 [] I_PlainHost_init := ⟨⟨by kernel_rfl!, ⟨fun _ _ _ _ _ _ _ _ _ _ _ _ _ _ => by kernel_rfl!⟩⟩, by kernel_rfl!, by kernel_rfl!, by kernel_rfl!⟩
noncomputable def I_law : I := (.cons (.asgC 0 (.call (.k (.fn F_law_box)) (.cons (.x 0) .nil))) (.cons (.asg 2 (.comp 3 1 0 [] (.tup (.cons (.k (.str "A")) (.cons (.k (.str "B")) (.cons (.k (.str "C")) .nil)))) (.k (.bool true)) (.new "NameRef" (.cons (.k (.str "var")) (.cons (.k .none) (.cons (.x 1) .nil)))))) (.cons (.asg2 false 3 false 4 (.tup (.cons (.cmp .Eq (.call (.k (.fn F_law_take)) (.cons (.c 0) (.cons (.k (.int 2)) .nil))) (.k (.int 1))) (.cons (.call (.k (.fn F_law_take)) (.cons (.c 0) (.cons (.k (.int 5)) .nil))) .nil)))) (.cons (.asg 5 (.meth (.k (.str "")) "join" (.cons (.comp 4 1 0 [0] (.call (.k (.ty "range")) (.cons (.x 4) .nil)) (.k (.bool true)) (.sub (.k (.str "ab")) (.call (.k (.fn F_law_take)) (.cons (.c 0) (.cons (.k (.int 2)) .nil))))) .nil))) (.cons (.asg 6 (.sub (.lst (.cons (.lst .nil) (.cons (.lst .nil) (.cons (.lst (.cons (.k (.str "C")) .nil)) .nil)))) (.call (.k (.fn F_law_take)) (.cons (.c 0) (.cons (.k (.int 3)) .nil))))) (.cons (.asg 7 (.call (.k (.fn F_law_node)) (.cons (.c 0) (.cons (.k (.int 4)) (.cons (.x 2) .nil))))) (.cons (.asg 8 (.dic (.kv "subject" (.x 5) (.kv "refused" (.x 6) (.kv "log" (.lst .nil) (.kv "values" (.dic .nil) (.kv "node" (.x 7) .nil))))))) (.cons (.asg 9 (.new "PlainHost" (.cons (.dic (.kv "A" (.k (.str "")) (.kv "B" (.k (.str "")) (.kv "C" (.k (.str "")) .nil)))) (.cons (.bin .Pow (.k (.int 10)) (.k (.int 9))) (.cons (.x 6) .nil))))) (.cons (.asg2 false 10 false 11 (.tup (.cons (.call (.k (.fn F_match_compiled)) (.cons (.x 7) (.cons (.x 5) (.cons (.x 3) (.cons (.x 9) .nil))))) (.cons (.call (.k (.fn F_law_due)) (.cons (.x 8) (.cons (.x 3) .nil))) .nil)))) (.cons (.iff (.cmp .IsNot (.x 10) (.k .none)) (.cons (.asg 10 (.tup (.cons (.sub (.x 10) (.k (.int 0))) (.cons (.sub (.x 10) (.k (.int 1))) (.cons (.comp 3 1 2 [] (.sub (.x 10) (.k (.int 2))) (.k (.bool true)) (.tup (.cons (.att (.x 1) "key") (.cons (.x 2) .nil)))) .nil))))) .nil) .nil) (.cons (.ret (.and2 (.cmp .Eq (.x 10) (.x 11)) (.cmp .Eq (.att (.x 9) "log") (.sub (.x 8) (.k (.str "log")))))) .nil)))))))))))
theorem d_law : DC TBL F_law 1 11 I_law := ⟨⟨by kernel_rfl!, ⟨fun _ _ _ _ _ _ _ _ _ _ _ _ _ _ => by kernel_rfl!⟩⟩, by kernel_rfl!, by kernel_rfl!, by kernel_rfl!⟩
end Mine

namespace Mine

/-! ## the tables' rows -/
theorem mt_PatternCode_emit : TBL.mt "PatternCode" "emit" = some F_PatternCode_emit := by kernel_rfl!
theorem mt_PatternCode_put : TBL.mt "PatternCode" "put" = some F_PatternCode_put := by kernel_rfl!
theorem mt_PatternCode_put_choice : TBL.mt "PatternCode" "put_choice" = some F_PatternCode_put_choice := by kernel_rfl!
theorem mt_PatternCode_put_repeat : TBL.mt "PatternCode" "put_repeat" = some F_PatternCode_put_repeat := by kernel_rfl!
theorem mt_Way_copied : TBL.mt "Way" "copied" = some F_Way_copied := by kernel_rfl!
theorem mt_Match_run : TBL.mt "Match" "run" = some F_Match_run := by kernel_rfl!
theorem mt_Match_way_back : TBL.mt "Match" "way_back" = some F_Match_way_back := by kernel_rfl!
theorem mt_Match_done : TBL.mt "Match" "done" = some F_Match_done := by kernel_rfl!
theorem mt_Match_met_once : TBL.mt "Match" "met_once" = some F_Match_met_once := by kernel_rfl!
theorem mt_Match_ended : TBL.mt "Match" "ended" = some F_Match_ended := by kernel_rfl!
theorem mt_Match_other : TBL.mt "Match" "other" = some F_Match_other := by kernel_rfl!
theorem mt_Match_met_often : TBL.mt "Match" "met_often" = some F_Match_met_often := by kernel_rfl!
theorem mt_PlainHost_assign : TBL.mt "PlainHost" "assign" = some F_PlainHost_assign := by kernel_rfl!
theorem mt_PlainHost_step : TBL.mt "PlainHost" "step" = some F_PlainHost_step := by kernel_rfl!
theorem ct_PatternCode : TBL.ct "PatternCode" = some F_PatternCode_init := by kernel_rfl!
theorem ct_NameRef : TBL.ct "NameRef" = some F_NameRef_init := by kernel_rfl!
theorem ct_Way : TBL.ct "Way" = some F_Way_init := by kernel_rfl!
theorem ct_Match : TBL.ct "Match" = some F_Match_init := by kernel_rfl!
theorem ct_PlainHost : TBL.ct "PlainHost" = some F_PlainHost_init := by kernel_rfl!
theorem fl_PatternCode_orders : TBL.fl "PatternCode" "orders" = true := by kernel_rfl!
theorem fl_NameRef_kind : TBL.fl "NameRef" "kind" = true := by kernel_rfl!
theorem fl_NameRef_owner : TBL.fl "NameRef" "owner" = true := by kernel_rfl!
theorem fl_NameRef_key : TBL.fl "NameRef" "key" = true := by kernel_rfl!
theorem fl_Way_orders : TBL.fl "Way" "orders" = true := by kernel_rfl!
theorem fl_Way_pc : TBL.fl "Way" "pc" = true := by kernel_rfl!
theorem fl_Way_at : TBL.fl "Way" "at" = true := by kernel_rfl!
theorem fl_Way_named : TBL.fl "Way" "named" = true := by kernel_rfl!
theorem fl_Way_marks : TBL.fl "Way" "marks" = true := by kernel_rfl!
theorem fl_Way_calls : TBL.fl "Way" "calls" = true := by kernel_rfl!
theorem fl_Match_subject : TBL.fl "Match" "subject" = true := by kernel_rfl!
theorem fl_Match_host : TBL.fl "Match" "host" = true := by kernel_rfl!
theorem fl_Match_history : TBL.fl "Match" "history" = true := by kernel_rfl!
theorem fl_PlainHost_values : TBL.fl "PlainHost" "values" = true := by kernel_rfl!
theorem fl_PlainHost_limit : TBL.fl "PlainHost" "limit" = true := by kernel_rfl!
theorem fl_PlainHost_refused : TBL.fl "PlainHost" "refused" = true := by kernel_rfl!
theorem fl_PlainHost_steps : TBL.fl "PlainHost" "steps" = true := by kernel_rfl!
theorem fl_PlainHost_log : TBL.fl "PlainHost" "log" = true := by kernel_rfl!

/-! ## leaves' words -/
theorem bool_cases {P : Bool → Prop} {p : Prop} [Decidable p] (h1 : p → P true) (h2 : ¬ p → P false) : P (decide p) := by
  by_cases h : p
  · rw [decide_eq_true h]; exact h1 h
  · rw [decide_eq_false h]; exact h2 h
theorem brD {p : Prop} [Decidable p] {A B : Prop} (h1 : p → A) (h2 : ¬ p → B) : Br (decide p) A B := bool_cases (P := fun b => Br b A B) h1 h2
theorem brN {p : Prop} [Decidable p] {A B : Prop} (h1 : p → B) (h2 : ¬ p → A) : Br (!decide p) A B := bool_cases (P := fun b => Br (!b) A B) h1 h2
theorem brT {b : Bool} {A B : Prop} (h : b = true) (q : A) : Br b A B := by subst h; exact q
theorem brF {b : Bool} {A B : Prop} (h : b = false) (q : B) : Br b A B := by subst h; exact q
theorem brY {p : Prop} [Decidable p] {A B : Prop} (h : p) (q : A) : Br (decide p) A B := brT (decide_eq_true h) q
theorem brX {p : Prop} [Decidable p] {A B : Prop} (h : ¬ p) (q : B) : Br (decide p) A B := brF (decide_eq_false h) q

/-! ## stores -/
noncomputable def Ext (σ σ' : Sto) : Prop := ∀ b c, σ b = some c → σ' b = some c
section
variable {σ σ' σ'' : Sto} {a b : Addr} {c c' : Cell}
theorem Ext.refl : Ext σ σ := fun _ _ e => e
theorem Ext.trans (a : Ext σ σ') (b : Ext σ' σ'') : Ext σ σ'' := fun x c e => b x c (a x c e)
theorem ne_of (h : σ a = none) (e : σ b = some c) : b ≠ a := fun q => by rw [q, h] at e; cases e
theorem Ext.new (x : Ext σ σ') (h : σ a = none) : Ext σ (upd σ' a c) := fun b d e => (upd_ne (ne_of h e)).trans (x b d e)
theorem ext_new (h : σ a = none) : Ext σ (upd σ a c) := Ext.refl.new h
theorem Ext.none (x : Ext σ σ') (h : σ' a = none) : σ a = none := by
  cases e : σ a with
  | none => rfl
  | some c => rw [x a c e] at h; cases h
theorem upd_of (h : σ a = some c) (e : b = a) : upd σ b c' a = some c' := by rw [e]; exact upd_eq
theorem upd_ne' (h : σ b = some c) (n : b ≠ a) : upd σ a c' b = some c := (upd_ne n).trans h
/-- a cell beside a new one -/
theorem upd_old (h : σ b = some c) (ha : σ a = none) : upd σ a c' b = some c := upd_ne' h (ne_of ha h)
end

/-! ## lists of a kind -/
theorem snoc_of {α : Type} {l : List α} (h : (0 : Int) < (l.length : Nat)) : ∃ m x, l = m ++ [x] := by
  rcases List.eq_nil_or_concat l with e | ⟨m, x, e⟩
  · rw [e] at h; exact absurd h (Int.lt_irrefl 0)
  · exact ⟨m, x, e.trans List.concat_eq_append⟩
theorem nil_of {α : Type} {l : List α} (h : ¬ (0 : Int) < (l.length : Nat)) : l = [] := by
  cases l with
  | nil => rfl
  | cons x l => exact absurd (Int.ofNat_lt.mpr (Nat.zero_lt_succ _)) h
theorem big_k {n : Nat} (h : n ≤ 1000000) : n ≤ big := Nat.le_trans h (by decide)
section
variable {g : GE} {tb : TB} {d : Nat} {σ : Sto} {k : KE} {a : Addr} {α : Type} {f : α → V} {l m : List α} {x : α} {i n : Nat} {K : V → Prop} {args : List V} {F : FnI} {ir : I} {cv : List Addr} {ρ : Lo}
theorem d_ir0 {m : Nat} (D : DI tb F n m [] ir) (ok : TOk g tb) (hc : F.closure = []) (ht : F.tab = none) (hlen : args.length = n) (h : wS g tb d ir [] (args.map some ++ List.replicate m none) σ (endF k)) : CallC g (d + 1) F args σ k := d_ir D ok (noTab ht) hc rfl hlen h
theorem v_lenMb (ha : σ a = some (.list (l.map f))) (h : l.length ≤ big) (q : k (.int l.length) σ) : VC g tb d (.bi "len") [.ref a] σ k := by
  have e : (l.map f).length = l.length := List.length_map f
  exact v_lenL ha (by rw [e]; exact h) (by rw [e]; exact q)
theorem v_lenM (ha : σ a = some (.list (l.map f))) (h : l.length ≤ 1000000) (q : k (.int l.length) σ) : VC g tb d (.bi "len") [.ref a] σ k := v_lenMb ha (big_k h) q
theorem v_appM (ha : σ a = some (.list (l.map f))) (h : l.length ≤ 1000000) (q : k .none (upd σ a (.list ((l ++ [x]).map f)))) : VC g tb d (.bi "list.append") [.ref a, f x] σ k := by
  rw [List.map_append] at q
  exact v_app ha (by rw [List.length_map]; exact big_k h) q
theorem m_popMb (ha : σ a = some (.list ((l ++ [x]).map f))) (h : l.length < big) (q : k (f x) (upd σ a (.list (l.map f)))) : VM g tb (.ref a) ("pop" : Str) σ fun F fx => wE g tb d .nil cv ρ σ fun vs σ => tupW vs fun l => VC g tb d F (fx ++ l) σ k := by
  rw [List.map_append] at ha
  exact m_pop ha (v_pop ha (by rw [List.length_map]; exact h) q)
theorem m_popM (ha : σ a = some (.list ((l ++ [x]).map f))) (h : l.length ≤ 1000000) (q : k (f x) (upd σ a (.list (l.map f)))) : VM g tb (.ref a) ("pop" : Str) σ fun F fx => wE g tb d .nil cv ρ σ fun vs σ => tupW vs fun l => VC g tb d F (fx ++ l) σ k := m_popMb ha (Nat.lt_of_le_of_lt h (by decide)) q
theorem v_extM {b : Addr} (ha : σ a = some (.list (l.map f))) (hb : σ b = some (.list (m.map f))) (h : l.length + m.length ≤ 1000000) (q : k .none (upd σ a (.list ((l ++ m).map f)))) : VC g tb d (.bi "list.extend") [.ref a, .ref b] σ k := by
  rw [List.map_append] at q
  exact v_ext ha hb (by rw [List.length_map, List.length_map]; exact big_k h) q
theorem last_at {α : Type} (l : List α) (x : α) : (l ++ [x])[l.length]? = some x := by rw [List.getElem?_append_right (Nat.le_refl _), Nat.sub_self]; rfl
theorem len_snoc {α : Type} (l : List α) (x : α) : (((l ++ [x]).length : Nat) : Int) - 1 = l.length := by rw [List.length_append]; exact Int.add_sub_cancel (l.length : Int) 1
theorem u_listM (ha : σ a = some (.list (l.map f))) (hi : i < 2 ^ 62) (h : l[i]? = some x) (q : K (f x)) : VU g (.ref a) (.int i) σ K := u_listN ha hi (by rw [List.getElem?_map, h]; rfl) q
end
section
variable {g : GE} {σ : Sto} {a : Addr} {α : Type} {f : α → V} {l : List α} {x : α} {K : V → Prop}
theorem u_lastM (ha : σ a = some (.list ((l ++ [x]).map f))) (h : (l ++ [x]).length ≤ 1000000) (q : K (f x)) : VU g (.ref a) (.int (((l ++ [x]).length : Nat) - 1)) σ K := by
  rw [len_snoc]
  exact u_listM ha (Nat.lt_of_lt_of_le (by rw [List.length_append]; exact Nat.lt_succ_self _) (Nat.le_trans h (by decide))) (last_at l x) q
end

section
variable {g : GE} {σ : Sto} {a : Addr} {α : Type} {f : α → V} {l : List α} {x : α} {k : KE}
theorem l_initM (ha : σ a = some (.list ((l ++ [x]).map f))) (h : (l ++ [x]).length ≤ 1000000) (q : ∀ c, σ c = none → k (.ref c) (upd σ c (.list (l.map f)))) : VL g (.ref a) .none (.int (((l ++ [x]).length : Nat) - 1)) .none σ k := by
  rw [len_snoc]
  refine l_take (.inl ha) (by rw [List.length_map]; exact h) fun c hc => ?_
  rw [← List.map_take, List.take_append_of_le_length (Nat.le_refl _), List.take_length]
  exact q c hc
end

/-! ## loops, what comes behind a turn as a name -/
section
variable {g : GE} {tb : TB} {d : Nat} {σ : Sto} {k : KF} {ρ : Lo} {K : V → Prop}
theorem l_while {T : Lo → Sto → KE → Prop} {B : Lo → Sto → KF → Prop} (J : Nat → Lo → Sto → Prop) {m : Nat} (j0 : J m ρ σ)
    (jt : ∀ m ρ' σ', J m ρ' σ' → ∀ N : Lo → Sto → Prop, (∀ m' ρ₃ σ₃, J m' ρ₃ σ₃ → m' < m → N ρ₃ σ₃) → T ρ' σ' fun v σ => tstW v fun b => Br b (B ρ' σ (loopF N k)) (k .next ρ' σ)) : LH T B k ρ σ :=
  ⟨J, m, j0, fun m ρ' σ' j => jt m ρ' σ' j _ fun m' ρ₃ σ₃ j' h => ⟨m', h, j'⟩⟩
theorem l_for {T : V → Lo → Sto → (Lo → Sto → Prop) → Prop} {B : Lo → Sto → KF → Prop} {y : V} (l : List V) (J : Nat → Lo → Sto → Prop) (j0 : J 0 ρ σ) (jl : ∀ i ρ' σ', J i ρ' σ' → Its σ' y l)
    (jt : ∀ i ρ' σ', J i ρ' σ' → ∀ z, l[i]? = some z → ∀ N : Lo → Sto → Prop, (∀ ρ₃ σ₃, J (i + 1) ρ₃ σ₃ → N ρ₃ σ₃) → T z ρ' σ' fun ρ₂ σ₂ => B ρ₂ σ₂ (loopF N k)) (je : ∀ ρ' σ', J l.length ρ' σ' → k .next ρ' σ') : LF T B k ρ y σ :=
  ⟨l, J, j0, fun i ρ' σ' j _ => jl i ρ' σ' j, fun i z ρ' σ' j e => jt i ρ' σ' j z e _ fun _ _ j => j, je⟩
/-- .. over a list of a kind, what is done as a list -/
theorem l_forP {α : Type} {f : α → V} {T : V → Lo → Sto → (Lo → Sto → Prop) → Prop} {B : Lo → Sto → KF → Prop} {y : V} (l : List α) (J : List α → Lo → Sto → Prop) (j0 : J [] ρ σ) (jl : ∀ m ρ' σ', J m ρ' σ' → Its σ' y (l.map f))
    (jt : ∀ m ρ' σ', J m ρ' σ' → ∀ x r, l = m ++ x :: r → ∀ N : Lo → Sto → Prop, (∀ ρ₃ σ₃, J (m ++ [x]) ρ₃ σ₃ → N ρ₃ σ₃) → T (f x) ρ' σ' fun ρ₂ σ₂ => B ρ₂ σ₂ (loopF N k)) (je : ∀ ρ' σ', J l ρ' σ' → k .next ρ' σ') : LF T B k ρ y σ := by
  refine l_for (l.map f) (fun i => J (l.take i)) j0 (fun i ρ' σ' j => jl _ _ _ j) (fun i ρ' σ' j z hz N nx => ?_) fun ρ' σ' j => je _ _ (by rw [List.length_map, List.take_length] at j; exact j)
  rw [List.getElem?_map] at hz
  obtain ⟨x, hx, e⟩ := Option.map_eq_some_iff.mp hz
  subst e
  refine jt _ _ _ j x (l.drop (i + 1)) ?_ N fun ρ₃ σ₃ j' => nx _ _ (by rw [List.take_add_one, hx]; exact j')
  have h := List.getElem?_eq_some_iff.mp hx
  have e := List.take_append_drop i l
  rw [List.drop_eq_getElem_cons h.1, h.2] at e
  exact e.symm
theorem su_tup {x v : V} {l : List V} {n : Nat} (e : x = .tup l) (h : l[n]? = some v) (hn : Nat.blt n 1000 = true) (q : K v) : suW g x (.int n) σ K := by
  subst e
  show Br (Nat.blt n 1000) (match l[n]? with
    | some v => K v
    | none => False) False
  rw [hn, h]; exact q
end
end Mine

namespace Mine

/-! ## patterns -/
inductive Nd where
  | chars (s : Str) | len (n : Nat) | tab (n : Nat) | span (s : Str) | any (s : Str)
  | arb | rem | fail | cur (i : Nat)
  | arbno (a : Nd) | later (a : Nd) (i : Nat) | now (a : Nd) (i : Nat) | cat (a b : Nd) | alt (a b : Nd)
noncomputable section
noncomputable def Nd.size : Nd → Nat
  | .arbno a => a.size + 1
  | .later a _ => a.size + 1
  | .now a _ => a.size + 1
  | .cat a b => a.size + b.size + 1
  | .alt a b => a.size + b.size + 1
  | _ => 1
theorem Nd.size_pos (n : Nd) : 0 < n.size := by cases n <;> exact Nat.succ_pos _
noncomputable def Nd.ht : Nd → Nat
  | .arbno a => a.ht + 1
  | .later a _ => a.ht + 1
  | .now a _ => a.ht + 1
  | .cat a b => max a.ht b.ht + 1
  | .alt a b => max a.ht b.ht + 1
  | _ => 0
/-- a kind's number, its name -/
noncomputable def Nd.num : Nd → Nat
  | .chars _ => 0
  | .len _ => 1
  | .tab _ => 2
  | .span _ => 3
  | .any _ => 4
  | .arb => 5
  | .rem => 6
  | .fail => 7
  | .cur _ => 8
  | .arbno _ => 9
  | .later _ _ => 10
  | .now _ _ => 11
  | .cat _ _ => 12
  | .alt _ _ => 13
noncomputable def kinds : List Str := ["chars", "len", "tab", "span", "any", "arb", "rem", "fail", "cursor", "arbno", "later", "now", "cat", "alt"]
noncomputable def kindAt (i : Nat) : Str := (kinds[i]?).getD ""
noncomputable def kindS (n : Nd) : Str := kindAt n.num
noncomputable def ndV (R : Nat → Addr) : Nd → V
  | .chars s => .tup [.str "chars", .str s]
  | .len n => .tup [.str "len", .int n]
  | .tab n => .tup [.str "tab", .int n]
  | .span s => .tup [.str "span", .str s]
  | .any s => .tup [.str "any", .str s]
  | .arb => .tup [.str "arb"]
  | .rem => .tup [.str "rem"]
  | .fail => .tup [.str "fail"]
  | .cur i => .tup [.str "cursor", .ref (R i)]
  | .arbno a => .tup [.str "arbno", ndV R a]
  | .later a i => .tup [.str "later", ndV R a, .ref (R i)]
  | .now a i => .tup [.str "now", ndV R a, .ref (R i)]
  | .cat a b => .tup [.str "cat", ndV R a, ndV R b]
  | .alt a b => .tup [.str "alt", ndV R a, ndV R b]
noncomputable def rowC : Nd → List Nd
  | .cat a b => rowC a ++ rowC b
  | t => [t]
noncomputable def rowA : Nd → List Nd
  | .alt a b => rowA a ++ rowA b
  | t => [t]
end
theorem kinds_inj : ∀ i, i < 14 → ∀ j, j < 14 → kindAt i = kindAt j → i = j := by decide +kernel
theorem Nd.num_lt (n : Nd) : n.num < 14 := by cases n <;> exact Nat.le_of_ble_eq_true rfl
theorem num_of {n : Nd} {j : Nat} (h : kindS n = kindAt j) (hj : Nat.blt j 14 = true) : n.num = j := kinds_inj _ n.num_lt _ (Nat.le_of_ble_eq_true hj) h
theorem num_no {i j : Nat} {P : Prop} (h : i = j) (e : Nat.beq i j = false) : P := by rw [h, Nat.beq_refl] at e; cases e
theorem kind_cat {n : Nd} (h : kindS n = ("cat" : Str)) : ∃ a b, n = .cat a b := by
  have h := num_of (j := 12) h rfl
  cases n with
  | cat a b => exact ⟨a, b, rfl⟩
  | _ => exact num_no h rfl
theorem kind_alt {n : Nd} (h : kindS n = ("alt" : Str)) : ∃ a b, n = .alt a b := by
  have h := num_of (j := 13) h rfl
  cases n with
  | alt a b => exact ⟨a, b, rfl⟩
  | _ => exact num_no h rfl
theorem rowC_other {n : Nd} (h : kindS n ≠ ("cat" : Str)) : rowC n = [n] := by
  cases n with
  | cat a b => exact absurd rfl h
  | _ => rfl
theorem rowA_other {n : Nd} (h : kindS n ≠ ("alt" : Str)) : rowA n = [n] := by
  cases n with
  | alt a b => exact absurd rfl h
  | _ => rfl
theorem mem_sum {α : Type} {f : α → Nat} {l : List α} {x : α} (h : x ∈ l) : f x ≤ (l.map f).sum := by
  induction l with
  | nil => cases h
  | cons y l ih =>
    show _ ≤ f y + (l.map f).sum
    cases h with
    | head => exact Nat.le_add_right _ _
    | tail _ h => exact Nat.le_trans (ih h) (Nat.le_add_left _ _)
noncomputable def sizes (l : List Nd) : Nat := (l.map Nd.size).sum
theorem sizes_cons (x : Nd) (l : List Nd) : sizes (x :: l) = x.size + sizes l := rfl
theorem sizes_app (l m : List Nd) : sizes (l ++ m) = sizes l + sizes m := by unfold sizes; rw [List.map_append, List.sum_append]
theorem sizes_snoc (l : List Nd) (x : Nd) : sizes (l ++ [x]) = sizes l + x.size := sizes_app l [x]
theorem sizes_len (l : List Nd) : l.length ≤ sizes l := by
  induction l with
  | nil => exact Nat.le_refl _
  | cons x l ih => rw [sizes_cons, Nat.add_comm]; exact Nat.add_le_add ih x.size_pos
end Mine

namespace Mine
section
variable {g : GE} {d : Nat} {σ : Sto} {k : V → Sto → Prop}
theorem su_nd0 {R : Nat → Addr} {y : Nd} {K : V → Prop} (q : K (.str (kindS y))) : suW g (ndV R y) (.int 0) σ K := by cases y <;> exact q
/-- what is known of a kind whose row is told -/
inductive RowS (R : Nat → Addr) (s : Str) (rw_ : Nd → List Nd) (x : Nd) : Prop
  | mk (a b : Nd) (h1 : ndV R x = .tup [.str s, ndV R a, ndV R b]) (h2 : rw_ x = rw_ a ++ rw_ b) (h3 : x.size = sizes [b, a] + 1) : RowS R s rw_ x
structure RowK (R : Nat → Addr) (s : Str) (rw_ : Nd → List Nd) : Prop where
  hs : ∀ x, kindS x = s → RowS R s rw_ x
  hs' : ∀ x, kindS x ≠ s → rw_ x = [x]
inductive RowJ (R : Nat → Addr) (rw_ : Nd → List Nd) (n : Nd) (s : Str) (a b : Addr) (σ : Sto) : Nat → Lo → Sto → Prop
  | mk {F Wt : List Nd} {p : Option V} {σ' : Sto} (x : Ext σ σ') (e1 : σ' a = some (.list (F.map (ndV R)))) (e2 : σ' b = some (.list (Wt.map (ndV R)))) (e3 : F ++ Wt.reverse.flatMap rw_ = rw_ n) (e5 : F.length + sizes Wt ≤ 1000) :
    RowJ R rw_ n s a b σ (sizes Wt) [some (ndV R n), some (.str s), some (.ref a), some (.ref b), p] σ'
theorem row_len {F Wt : List Nd} (e5 : F.length + sizes Wt ≤ 1000) : F.length ≤ 1000000 ∧ Wt.length ≤ 1000000 :=
  ⟨Nat.le_trans (Nat.le_trans (Nat.le_add_right _ _) e5) (by decide), Nat.le_trans (Nat.le_trans (sizes_len Wt) (Nat.le_trans (Nat.le_add_left _ _) e5)) (by decide)⟩
theorem row_len1 {F W : List Nd} {y : Nd} (e5 : F.length + sizes (W ++ [y]) ≤ 1000) : W.length + 2 ≤ 1000000 := by
  have h := Nat.le_trans (sizes_len _) (Nat.le_trans (Nat.le_add_left _ _) e5)
  rw [List.length_append] at h
  exact Nat.le_trans (Nat.succ_le_succ h) (by decide)
theorem row_flat {rw_ : Nd → List Nd} {F W A : List Nd} {y : Nd} (m : List Nd) (e3 : F ++ (W ++ [y]).reverse.flatMap rw_ = A) (h : rw_ y = m.reverse.flatMap rw_) : F ++ (W ++ m).reverse.flatMap rw_ = A := by
  rw [List.reverse_append, List.flatMap_append] at e3 ⊢
  rw [← h, ← e3, List.reverse_singleton, List.flatMap_singleton]
theorem sp_row_of (ok : TOk g TBL) (R : Nat → Addr) (n : Nd) {s : Str} {rw_ : Nd → List Nd} (hn : n.size ≤ 1000) (H : RowK R s rw_)
    (h : ∀ a σ', σ a = none → Ext σ σ' → σ' a = some (.list ((rw_ n).map (ndV R))) → (rw_ n).length ≤ 1000 → k (.ref a) σ') : CallC g (d + 1) F_row_of [ndV R n, .str s] σ k := by
  refine d_ir0 d_row_of ok rfl rfl rfl fun a ha b hb => ?_
  have hab := ne_of hb (upd_eq (c := .list []))
  have hbσ := (upd_ne hab.symm).symm.trans hb
  refine l_while (RowJ R rw_ n s a b σ) (RowJ.mk (F := []) (Wt := [n]) ((ext_new ha).new hbσ) (upd_ne' upd_eq hab) upd_eq (List.append_nil _) (by rw [List.length_nil, Nat.zero_add]; exact hn)) fun m ρ' σ' j N nx => ?_
  induction j with | @mk F Wt p σ' x e1 e2 e3 e5 =>
  refine v_lenM e2 (row_len e5).2 (brD (fun hp => ?_) fun hp => ?_)
  · obtain ⟨W', y, e⟩ := snoc_of hp
    subst e
    refine m_popM e2 (Nat.le_of_succ_le (Nat.le_of_succ_le (row_len1 e5))) (su_nd0 (brD (fun hc => ?_) fun hc => ?_))
    · cases H.hs y hc with | mk u v q1 q2 q3 =>
      refine m_ext upd_eq (su_tup q1 rfl rfl (su_tup q1 rfl rfl fun c hc' => ?_))
      have ncb := ne_of hc' upd_eq
      have hcσ' := (upd_ne ncb.symm).symm.trans hc'
      have lt : sizes (W' ++ [v, u]) < sizes (W' ++ [y]) := by rw [sizes_app, sizes_snoc, q3]; exact Nat.lt_succ_self _
      exact v_extM (m := [v, u]) (upd_ne' upd_eq ncb) upd_eq (row_len1 e5) (nx _ _ _ (RowJ.mk ((((x.new hbσ).new (x.none hcσ')).new hbσ)) (upd_ne' (upd_ne' (upd_ne' e1 hab) (ne_of hcσ' e1)) hab) upd_eq (row_flat _ e3 (q2.trans (congrArg _ (List.append_nil _).symm))) (Nat.le_trans (Nat.add_le_add_left (Nat.le_of_lt lt) _) e5)) lt)
    · refine m_app (upd_ne' e1 hab) (v_appM (f := ndV R) (upd_ne' e1 hab) (row_len e5).1 (nx _ _ _ (RowJ.mk ((x.new hbσ).new ha) upd_eq (upd_ne' upd_eq hab.symm) ?_ ?_) (by rw [sizes_snoc]; exact Nat.lt_add_of_pos_right y.size_pos)))
      · rw [List.reverse_append, List.flatMap_append] at e3
        rw [List.append_assoc, ← H.hs' y hc, ← e3, List.reverse_singleton, List.flatMap_singleton]
      · rw [List.length_append, Nat.add_right_comm]
        rw [sizes_snoc, ← Nat.add_assoc] at e5
        exact Nat.le_trans (Nat.add_le_add_left y.size_pos _) e5
  · cases nil_of hp
    have e3 : F = rw_ n := (List.append_nil F).symm.trans e3
    subst e3
    exact h a σ' ha x e1 e5
end
end Mine

namespace Mine

/-! ## orders and the compiler, in plain Lean -/
inductive Od where
  | one (n : Nd) | arb | split (g : Nat) | jump (g : Nat) | mark | name (i : Nat) | set (i : Nat) | gain | place (i : Nat) | fail | done | hole
noncomputable section
noncomputable def toldV : Nd → V
  | .chars s => .str s
  | .len n => .int n
  | .tab n => .int n
  | .span s => .str s
  | .any s => .str s
  | _ => .none
noncomputable def odV (R : Nat → Addr) : Od → V
  | .one n => .tup [.str "one", .str (kindS n), toldV n]
  | .arb => .tup [.str "ways", .str "arb"]
  | .split g => .tup [.str "split", .int g]
  | .jump g => .tup [.str "jump", .int g]
  | .mark => .tup [.str "mark"]
  | .name i => .tup [.str "name", .ref (R i)]
  | .set i => .tup [.str "set", .ref (R i)]
  | .gain => .tup [.str "gain"]
  | .place i => .tup [.str "place", .ref (R i)]
  | .fail => .tup [.str "fail"]
  | .done => .tup [.str "done"]
  | .hole => .none
noncomputable def Nd.wt : Nd → Nat
  | .chars s => s.length
  | .arbno a => a.wt
  | .later a _ => a.wt
  | .now a _ => a.wt
  | .cat a b => a.wt + b.wt
  | .alt a b => a.wt + b.wt
  | _ => 0
noncomputable def wts (l : List Nd) : Nat := (l.map Nd.wt).sum
noncomputable def chOf : Nd → Option Str
  | .chars s => some s
  | _ => none
noncomputable def joinS (t : Str) (acc : List Nd) (q : Nd) : Option Str → List Nd
  | some u => acc ++ [.chars (u ++ t)]
  | none => acc ++ [q] ++ [.chars t]
/-- a text behind others -/
noncomputable def joinC (acc : List Nd) (s : Str) : List Nd := match acc.getLast? with
  | some q => joinS s acc.dropLast q (chOf q)
  | none => acc ++ [.chars s]
noncomputable def joinStep (acc : List Nd) (p : Nd) : List Nd := match chOf p with
  | some s => if s = Str.empty then acc else joinC acc s
  | none => acc ++ [p]
noncomputable def joined (l : List Nd) : List Nd := l.foldl joinStep []
noncomputable def codeRow (cd : Nd → Nat → List Od) : List Nd → Nat → List Od
  | [], _ => []
  | x :: r, p => cd x p ++ codeRow cd r (p + (cd x p).length)
/-- a part ahead of the last one, its jump as told -/
noncomputable def blk (cd : Nd → Nat → List Od) (j : Od) (x : Nd) (p : Nat) : List Od := .split (p + ((cd x (p + 1)).length + 2)) :: cd x (p + 1) ++ [j]
noncomputable def pre (cd : Nd → Nat → List Od) (j : Od) : List Nd → Nat → List Od := codeRow (blk cd j)
/-- .. and the last one -/
noncomputable def codeAltE (cd : Nd → Nat → List Od) (l : List Nd) (x : Nd) (p E : Nat) : List Od := pre cd (.jump E) l p ++ cd x (p + (pre cd (.jump E) l p).length)
noncomputable def codeAlt (cd : Nd → Nat → List Od) (l : List Nd) (x : Nd) (p : Nat) : List Od := codeAltE cd l x p (p + (codeAltE cd l x p 0).length)
noncomputable def codeS (cd : Nd → Nat → List Od) (n : Nd) (p : Nat) : List Od := match n with
  | .cat a b => codeRow cd (joined (rowC (.cat a b))) p
  | .alt a b => codeAlt cd (rowA (.alt a b)).dropLast ((rowA (.alt a b)).getLastD .arb) p
  | .arbno a => .split (p + 2) :: .jump (p + 3 + (cd a (p + 3)).length + 2) :: .mark :: cd a (p + 3) ++ [.gain, .jump p]
  | .later a i => .mark :: cd a (p + 1) ++ [.name i]
  | .now a i => .mark :: cd a (p + 1) ++ [.set i]
  | .arb => [.arb]
  | .fail => [.fail]
  | .cur i => [.place i]
  | n => [.one n]
noncomputable def code (f : Nat) : Nd → Nat → List Od := Nat.rec (fun _ _ => []) (fun _ cd => codeS cd) f
noncomputable def thrS (f : Nat → Nat) (g : Nat) : Option Od → Nat
  | some o => (match o with
    | .jump h => f h
    | _ => g)
  | none => g
/-- how a jump goes on, by at most so many steps -/
noncomputable def thread (os : List Od) (n : Nat) : Nat → Nat := Nat.rec id (fun _ f g => thrS f g os[g]?) n
noncomputable def strO (t : Nat → Nat) : Od → Od
  | .split g => .split (t g)
  | .jump g => .jump (t g)
  | o => o
noncomputable def straight (os : List Od) : List Od := os.map (strO (thread os os.length))
noncomputable def compiled (f : Nat) (n : Nd) : List Od := straight (code f n 0 ++ [.done])
/-- where the holes are -/
noncomputable def holes (cd : Nd → Nat → List Od) : List Nd → Nat → List Nat
  | [], _ => []
  | x :: r, p => (p + ((cd x (p + 1)).length + 1)) :: holes cd r (p + ((cd x (p + 1)).length + 2))
end

theorem wts_cons (x : Nd) (l : List Nd) : wts (x :: l) = x.wt + wts l := rfl
theorem wts_app (l m : List Nd) : wts (l ++ m) = wts l + wts m := by unfold wts; rw [List.map_append, List.sum_append]
theorem chOf_of {q : Nd} {s : Str} (h : chOf q = some s) : q = .chars s := by
  cases q with
  | chars t => cases h; rfl
  | _ => exact no_some h
/-- what is said of a list of parts: its sizes and its weights -/
structure SW (l : List Nd) (n w : Nat) : Prop where
  s : sizes l ≤ n
  w : wts l = w
theorem SW.refl (l : List Nd) : SW l (sizes l) (wts l) := ⟨Nat.le_refl _, rfl⟩
theorem SW.app {l m : List Nd} : SW (l ++ m) (sizes l + sizes m) (wts l + wts m) := ⟨Nat.le_of_eq (sizes_app l m), wts_app l m⟩
theorem joinStep_no (F : List Nd) {s : Str} (h : s = Str.empty) : joinStep F (.chars s) = F := if_pos h
theorem joinStep_add (F : List Nd) (t : Str) {s : Str} (h : ¬ s = Str.empty) : joinStep (F ++ [.chars t]) (.chars s) = F ++ [.chars (t ++ s)] := by
  refine (if_neg h).trans ?_
  unfold joinC
  rw [List.getLast?_concat, List.dropLast_concat]; rfl
theorem joinStep_new (F : List Nd) {t : Nd} {s : Str} (h : ¬ s = Str.empty) (ht : chOf t = none) : joinStep (F ++ [t]) (.chars s) = F ++ [t] ++ [.chars s] := by
  refine (if_neg h).trans ?_
  unfold joinC
  rw [List.getLast?_concat, List.dropLast_concat]
  show joinS s F t (chOf t) = _
  rw [ht]; rfl
theorem joinStep_one {s : Str} (h : ¬ s = Str.empty) : joinStep [] (.chars s) = [.chars s] := if_neg h
theorem joinStep_put (F : List Nd) {p : Nd} (h : chOf p = none) : joinStep F p = F ++ [p] := by unfold joinStep; rw [h]
theorem length_zero {s : Str} (h : s = Str.empty) : s.length = 0 := by rw [h]; rfl
theorem joinStep_sw (acc : List Nd) (p : Nd) : SW (joinStep acc p) (sizes acc + p.size) (wts acc + p.wt) := by
  cases hp : chOf p with
  | none => rw [joinStep_put acc hp]; exact SW.app (m := [p])
  | some s =>
    cases chOf_of hp
    by_cases h : s = Str.empty
    · rw [joinStep_no acc h]
      exact ⟨Nat.le_add_right _ _, by show _ = _ + s.length; rw [length_zero h]; rfl⟩
    · rcases List.eq_nil_or_concat acc with e | ⟨F, q, e⟩
      · subst e; rw [joinStep_one h]; exact ⟨Nat.le_add_left _ _, (Nat.zero_add _).symm⟩
      · rw [List.concat_eq_append] at e
        subst e
        cases hq : chOf q with
        | none => rw [joinStep_new F h hq]; exact SW.app (m := [.chars s])
        | some t =>
          cases chOf_of hq
          rw [joinStep_add F t h]
          refine ⟨?_, ?_⟩
          · rw [sizes_snoc, sizes_snoc]; exact Nat.le_add_right _ _
          · rw [wts_app, wts_app, Nat.add_assoc]
            exact congrArg (wts F + ·) (Str.length_append t s)
theorem fold_sw (l acc : List Nd) : SW (l.foldl joinStep acc) (sizes acc + sizes l) (wts acc + wts l) := by
  induction l generalizing acc with
  | nil => exact SW.refl acc
  | cons x l ih =>
    have a := ih (joinStep acc x)
    have b := joinStep_sw acc x
    rw [sizes_cons, wts_cons, ← Nat.add_assoc, ← Nat.add_assoc]
    exact ⟨Nat.le_trans a.s (Nat.add_le_add_right b.s _), by rw [← b.w]; exact a.w⟩
theorem joined_sw (l : List Nd) : SW (joined l) (sizes l) (wts l) := by
  have h := fold_sw l []
  rw [show sizes [] = 0 from rfl, show wts [] = 0 from rfl, Nat.zero_add, Nat.zero_add] at h
  exact h
section
variable {cd cd' : Nd → Nat → List Od} {j j' : Od}
theorem codeRow_append {l m : List Nd} {p : Nat} : codeRow cd (l ++ m) p = codeRow cd l p ++ codeRow cd m (p + (codeRow cd l p).length) := by
  induction l generalizing p with
  | nil => rfl
  | cons y r ih =>
    show cd y p ++ codeRow cd (r ++ m) _ = cd y p ++ codeRow cd r _ ++ codeRow cd m (p + (cd y p ++ codeRow cd r _).length)
    rw [ih, List.append_assoc, List.length_append, Nat.add_assoc]
theorem codeRow_snoc {l : List Nd} {x : Nd} {p : Nat} : codeRow cd (l ++ [x]) p = codeRow cd l p ++ cd x (p + (codeRow cd l p).length) := codeRow_append.trans (congrArg _ (List.append_nil _))
theorem codeRow_eq {l : List Nd} {p q : Nat} (h : ∀ x p q, (cd x p).length = (cd' x q).length) : (codeRow cd l p).length = (codeRow cd' l q).length := by
  induction l generalizing p q with
  | nil => rfl
  | cons x r ih => unfold codeRow; rw [List.length_append, List.length_append, h x p q, ih]
theorem blk_length {x : Nd} {p : Nat} : (blk cd j x p).length = (cd x (p + 1)).length + 2 := by unfold blk; rw [List.length_append]; rfl
theorem pre_length {l : List Nd} {p : Nat} : (pre cd j l p).length = (pre cd j' l p).length := by
  induction l generalizing p with
  | nil => rfl
  | cons x r ih =>
    show (blk cd j x p ++ pre cd j r _).length = (blk cd j' x p ++ pre cd j' r _).length
    rw [List.length_append, List.length_append, blk_length, blk_length, ih]
theorem holes_append {l m : List Nd} {p : Nat} : holes cd (l ++ m) p = holes cd l p ++ holes cd m (p + (pre cd j l p).length) := by
  induction l generalizing p with
  | nil => rfl
  | cons y r ih =>
    show _ :: holes cd (r ++ m) _ = _
    rw [ih]
    show _ = _ :: (_ ++ holes cd m (p + (blk cd j y p ++ pre cd j r (p + (blk cd j y p).length)).length))
    rw [List.length_append, blk_length, ← Nat.add_assoc p (_ + 2)]
theorem holes_length {l : List Nd} {p : Nat} : (holes cd l p).length = l.length := by
  induction l generalizing p with
  | nil => rfl
  | cons x r ih => exact congrArg Nat.succ ih
end
theorem set_mid {α : Type} (a b : List α) (x y : α) {n : Nat} (h : n = a.length) : (a ++ x :: b).set n y = a ++ y :: b := by
  subst h
  rw [List.set_append_right _ _ (Nat.le_refl _), Nat.sub_self]; rfl
/-- a row's parts against its tree -/
structure RowB (l : List Nd) (n : Nd) : Prop where
  s : sizes l + l.length ≤ n.size + 1
  w : wts l = n.wt
  len : 1 ≤ l.length
theorem RowB.one {n : Nd} : RowB [n] n := ⟨Nat.le_refl _, Nat.add_zero _, Nat.le_refl _⟩
theorem RowB.app {l m : List Nd} {a b n : Nd} (x : RowB l a) (y : RowB m b) (h : n.size = a.size + b.size + 1) (hw : n.wt = a.wt + b.wt) : RowB (l ++ m) n := by
  refine ⟨?_, by rw [wts_app, x.w, y.w, hw], Nat.le_trans x.len (by rw [List.length_append]; exact Nat.le_add_right _ _)⟩
  rw [sizes_app, List.length_append, Nat.add_add_add_comm, h]
  exact Nat.le_trans (Nat.add_le_add x.s y.s) (by rw [Nat.add_add_add_comm]; exact Nat.le_refl _)
theorem rowC_b (n : Nd) : RowB (rowC n) n := by
  refine Nd.rec (motive := fun n => RowB (rowC n) n) (fun _ => .one) (fun _ => .one) (fun _ => .one) (fun _ => .one) (fun _ => .one) .one .one .one (fun _ => .one) (fun _ _ => .one) (fun _ _ _ => .one) (fun _ _ _ => .one) (fun a b x y => x.app y rfl rfl) (fun _ _ _ _ => .one) n
theorem rowA_b (n : Nd) : RowB (rowA n) n := by
  refine Nd.rec (motive := fun n => RowB (rowA n) n) (fun _ => .one) (fun _ => .one) (fun _ => .one) (fun _ => .one) (fun _ => .one) .one .one .one (fun _ => .one) (fun _ _ => .one) (fun _ _ _ => .one) (fun _ _ _ => .one) (fun _ _ _ _ => .one) (fun a b x y => x.app y rfl rfl) n
theorem RowB.two {l m : List Nd} {a b n : Nd} (x : RowB l a) (y : RowB m b) (z : RowB (l ++ m) n) : 2 ≤ (l ++ m).length ∧ sizes (l ++ m) < n.size := by
  have h : 2 ≤ (l ++ m).length := by rw [List.length_append]; exact Nat.add_le_add x.len y.len
  exact ⟨h, Nat.le_of_succ_le_succ (Nat.le_trans (Nat.add_le_add_left h _) z.s)⟩
theorem rowC_two (a b : Nd) : 2 ≤ (rowC (.cat a b)).length ∧ sizes (rowC (.cat a b)) < (Nd.cat a b).size := (rowC_b a).two (rowC_b b) (rowC_b (.cat a b))
theorem rowA_two (a b : Nd) : 2 ≤ (rowA (.alt a b)).length ∧ sizes (rowA (.alt a b)) < (Nd.alt a b).size := (rowA_b a).two (rowA_b b) (rowA_b (.alt a b))
theorem mem_size {l : List Nd} {x : Nd} (h : x ∈ l) : x.size ≤ sizes l := mem_sum h
theorem mem_wt {l : List Nd} {x : Nd} (h : x ∈ l) : x.wt ≤ wts l := mem_sum h
/-- the row of an alt: all but the last, the last -/
structure AltRow (a b : Nd) (l : List Nd) (x : Nd) : Prop where
  e : rowA (.alt a b) = l ++ [x]
  el : (rowA (.alt a b)).dropLast = l
  ex : (rowA (.alt a b)).getLastD .arb = x
  s : sizes (l ++ [x]) + (l.length + 1) ≤ (Nd.alt a b).size + 1
  len : 1 ≤ l.length
  lt : sizes (l ++ [x]) < (Nd.alt a b).size
  w : wts (l ++ [x]) = (Nd.alt a b).wt
theorem altRow (a b : Nd) : ∃ l x, AltRow a b l x := by
  have h2 := rowA_two a b
  have hb := rowA_b (.alt a b)
  rcases List.eq_nil_or_concat (rowA (.alt a b)) with e | ⟨l, x, e⟩
  · rw [e] at h2; exact absurd h2.1 (by decide)
  · rw [List.concat_eq_append] at e
    refine ⟨l, x, e, by rw [e, List.dropLast_concat], by rw [e]; exact List.getLastD_concat, ?_, ?_, e ▸ h2.2, e ▸ hb.w⟩
    · have := hb.s; rw [e, List.length_append] at this; exact this
    · have := h2.1; rw [e, List.length_append] at this; exact Nat.le_of_succ_le_succ this
section
variable {cd : Nd → Nat → List Od} {j : Od}
theorem codeRow_len {l : List Nd} (h : ∀ x ∈ l, ∀ p, (cd x p).length ≤ 6 * x.size) (p : Nat) : (codeRow cd l p).length ≤ 6 * sizes l := by
  induction l generalizing p with
  | nil => exact Nat.zero_le _
  | cons x r ih =>
    unfold codeRow
    rw [List.length_append, sizes_cons, Nat.mul_add]
    exact Nat.add_le_add (h x (.head _) p) (ih (fun y hy => h y (.tail _ hy)) _)
theorem pre_len {l : List Nd} (h : ∀ x ∈ l, ∀ p, (cd x p).length ≤ 6 * x.size) (p : Nat) : (pre cd j l p).length ≤ 6 * sizes l + 2 * l.length := by
  induction l generalizing p with
  | nil => exact Nat.zero_le _
  | cons x r ih =>
    show (blk cd j x p ++ pre cd j r _).length ≤ _
    rw [List.length_append, blk_length, sizes_cons, List.length_cons, Nat.mul_add, Nat.mul_succ, Nat.add_comm (2 * r.length), Nat.add_add_add_comm]
    exact Nat.add_le_add (Nat.add_le_add_right (h x (.head _) (p + 1)) 2) (ih (fun y hy => h y (.tail _ hy)) _)
end
theorem len6 {a n : Nat} (h : a ≤ 6 * n) (k : Nat) (hk : k ≤ 6) : a + k ≤ 6 * (n + 1) := Nat.add_le_add h hk
theorem code_len {f : Nat} {n : Nd} (h : n.size ≤ f) (p : Nat) : (code f n p).length ≤ 6 * n.size := by
  induction f generalizing n p with
  | zero => exact Nat.zero_le _
  | succ f ih =>
    have one : 1 ≤ 6 * n.size := Nat.le_trans (Nat.le_trans n.size_pos (Nat.le_mul_of_pos_left _ (show 0 < 6 by decide))) (Nat.le_refl _)
    cases n with
    | cat a b =>
      have lt := Nat.le_trans (joined_sw (rowC (.cat a b))).s (Nat.le_of_lt (rowC_two a b).2)
      exact Nat.le_trans (codeRow_len (fun x hx q => ih (Nat.le_trans (mem_size hx) (Nat.le_trans (joined_sw (rowC (.cat a b))).s (Nat.le_of_lt_succ (Nat.lt_of_lt_of_le (rowC_two a b).2 h)))) q) p) (Nat.mul_le_mul_left 6 lt)
    | alt a b =>
      obtain ⟨l, x, A⟩ := altRow a b
      have ihx : ∀ y ∈ l ++ [x], ∀ q, (code f y q).length ≤ 6 * y.size := fun y hy q => ih (Nat.le_trans (mem_size hy) (Nat.le_of_lt_succ (Nat.lt_of_lt_of_le A.lt h))) q
      show (codeAlt (code f) (rowA (.alt a b)).dropLast ((rowA (.alt a b)).getLastD .arb) p).length ≤ _
      rw [A.el, A.ex]
      unfold codeAlt
      generalize p + (codeAltE (code f) l x p 0).length = E
      unfold codeAltE
      rw [List.length_append]
      have h3 := pre_len (j := .jump E) (l := l) (fun y hy => ihx y (List.mem_append_left _ hy)) p
      have h4 := ihx x (List.mem_append_right _ (.head _)) (p + (pre (code f) (.jump E) l p).length)
      have h5 := A.s
      rw [sizes_snoc] at h5
      omega
    | arbno a =>
      show ((.split _ :: .jump _ :: .mark :: code f a (p + 3) ++ [.gain, .jump p] : List Od)).length ≤ _
      rw [List.length_append]
      exact len6 (ih (Nat.le_of_succ_le_succ h) (p + 3)) 5 (by decide)
    | later a i =>
      show ((.mark :: code f a (p + 1) ++ [.name i] : List Od)).length ≤ _
      rw [List.length_append]
      exact len6 (ih (Nat.le_of_succ_le_succ h) (p + 1)) 2 (by decide)
    | now a i =>
      show ((.mark :: code f a (p + 1) ++ [.set i] : List Od)).length ≤ _
      rw [List.length_append]
      exact len6 (ih (Nat.le_of_succ_le_succ h) (p + 1)) 2 (by decide)
    | _ => exact one
end Mine

namespace Mine

/-! ## where jumps go -/
noncomputable def JumpTo (c : List Od) (p e i g : Nat) : Prop := (p + i < g ∧ g ≤ e) ∨ ∃ j h, g = p + j ∧ c[j]? = some (.split h)
noncomputable def OkO (c : List Od) (p e i : Nat) (o : Od) : Prop := match o with
  | .jump g => JumpTo c p e i g
  | .split g => g ≤ e
  | .hole => False
  | _ => True
noncomputable def GoodE (c : List Od) (p e : Nat) : Prop := ∀ i o, c[i]? = some o → OkO c p e i o
section
variable {c d : List Od} {p e e' i : Nat} {o : Od} {cd : Nd → Nat → List Od}
theorem OkO.mono (l : e ≤ e') (h : OkO c p e i o) : OkO c p e' i o := by
  cases o with
  | jump g => exact Or.imp (fun z => ⟨z.1, Nat.le_trans z.2 l⟩) id h
  | split g => exact Nat.le_trans h l
  | _ => exact h
theorem get_left (h : c[i]? = some o) : (c ++ d)[i]? = some o := (List.getElem?_append_left (List.getElem?_eq_some_iff.mp h).1).trans h
theorem OkO.left (h : OkO c p e i o) : OkO (c ++ d) p e i o := by
  cases o with
  | jump g => exact Or.imp id (fun z => by obtain ⟨j, w, e1, e2⟩ := z; exact ⟨j, w, e1, get_left e2⟩) h
  | _ => exact h
theorem OkO.right (hi : c.length ≤ i) (h : OkO d (p + c.length) e (i - c.length) o) : OkO (c ++ d) p e i o := by
  cases o with
  | jump g =>
    refine Or.imp (fun z => ⟨?_, z.2⟩) (fun z => ?_) h
    · have z := z.1; rw [Nat.add_assoc, Nat.add_sub_cancel' hi] at z; exact z
    · obtain ⟨j, w, e1, e2⟩ := z
      exact ⟨c.length + j, w, by rw [e1, Nat.add_assoc], by rw [List.getElem?_append_right (Nat.le_add_right _ _), Nat.add_sub_cancel_left]; exact e2⟩
  | _ => exact h
theorem GoodE.mono (h : GoodE c p e) (l : e ≤ e') : GoodE c p e' := fun i o q => (h i o q).mono l
theorem GoodE.nil : GoodE [] p e := fun i o q => by rw [List.getElem?_nil] at q; cases q
theorem GoodE.append (h : GoodE c p e) (k : GoodE d (p + c.length) e) : GoodE (c ++ d) p e := fun i o q => by
  by_cases hi : i < c.length
  · rw [List.getElem?_append_left hi] at q; exact (h i o q).left
  · have hi := Nat.not_lt.mp hi
    rw [List.getElem?_append_right hi] at q; exact OkO.right hi (k _ o q)
theorem GoodE.one (h : OkO [o] p e 0 o) : GoodE [o] p e := fun i o' q => by
  cases i with
  | zero => cases q; exact h
  | succ i => rw [List.getElem?_cons_succ, List.getElem?_nil] at q; cases q
theorem GoodE.cons (h : OkO [o] p e 0 o) (k : GoodE d (p + 1) e) : GoodE (o :: d) p e := (GoodE.one h).append k
/-- a jump back to the split at the head -/
theorem GoodE.back {g : Nat} (h : GoodE c p e) (hc : c[0]? = some (.split g)) : GoodE (c ++ [.jump p]) p e := fun i o q => by
  by_cases hi : i < c.length
  · rw [List.getElem?_append_left hi] at q; exact (h i o q).left
  · rw [List.getElem?_append_right (Nat.not_lt.mp hi)] at q
    generalize i - c.length = m at q
    cases m with
    | zero => cases q; exact .inr ⟨0, g, rfl, get_left hc⟩
    | succ m => rw [List.getElem?_cons_succ, List.getElem?_nil] at q; cases q
theorem good_row {l : List Nd} (h : ∀ x ∈ l, ∀ p, GoodE (cd x p) p (p + (cd x p).length)) : GoodE (codeRow cd l p) p (p + (codeRow cd l p).length) := by
  induction l generalizing p with
  | nil => exact GoodE.nil
  | cons x r ih =>
    show GoodE (cd x p ++ codeRow cd r _) p (p + (cd x p ++ codeRow cd r _).length)
    rw [List.length_append, ← Nat.add_assoc]
    exact ((h x (.head _) p).mono (Nat.le_add_right _ _)).append (ih fun y hy => h y (.tail _ hy))
theorem good_pre {E : Nat} {l : List Nd} (h : ∀ x ∈ l, ∀ p, GoodE (cd x p) p (p + (cd x p).length)) (hE : p + (pre cd (.jump E) l p).length ≤ E) : GoodE (pre cd (.jump E) l p) p E := by
  induction l generalizing p with
  | nil => exact GoodE.nil
  | cons x r ih =>
    replace hE : p + (blk cd (.jump E) x p ++ pre cd (.jump E) r (p + (blk cd (.jump E) x p).length)).length ≤ E := hE
    rw [List.length_append, ← Nat.add_assoc] at hE
    refine GoodE.append (c := blk cd (.jump E) x p) ?_ (ih (fun y hy => h y (.tail _ hy)) hE)
    have hE := Nat.le_trans (Nat.le_add_right _ _) hE
    rw [blk_length] at hE
    have h3 : p + 1 + (cd x (p + 1)).length < E := by rw [Nat.add_right_comm]; exact hE
    exact GoodE.append (c := .split _ :: cd x (p + 1)) (GoodE.cons (o := .split _) hE ((h x (.head _) (p + 1)).mono (Nat.le_of_lt h3))) (GoodE.one (o := .jump E) (.inl ⟨Nat.lt_of_lt_of_le (by rw [Nat.add_zero, List.length_cons]; exact Nat.add_lt_add_left (Nat.lt_succ_self _) _) hE, Nat.le_refl _⟩))
theorem good_code {f : Nat} {n : Nd} (h : n.size ≤ f) {p : Nat} : GoodE (code f n p) p (p + (code f n p).length) := by
  induction f generalizing n p with
  | zero => exact GoodE.nil
  | succ f ih =>
    cases n with
    | cat a b => exact good_row fun x hx q => ih (Nat.le_trans (mem_size hx) (Nat.le_trans (joined_sw _).s (Nat.le_of_lt_succ (Nat.lt_of_lt_of_le (rowC_two a b).2 h))))
    | alt a b =>
      obtain ⟨l, x, A⟩ := altRow a b
      have ihx : ∀ y ∈ l ++ [x], ∀ q, GoodE (code f y q) q (q + (code f y q).length) := fun y hy q => ih (Nat.le_trans (mem_size hy) (Nat.le_of_lt_succ (Nat.lt_of_lt_of_le A.lt h)))
      show GoodE (codeAlt (code f) (rowA (.alt a b)).dropLast ((rowA (.alt a b)).getLastD .arb) p) p (p + (codeAlt (code f) (rowA (.alt a b)).dropLast ((rowA (.alt a b)).getLastD .arb) p).length)
      rw [A.el, A.ex]
      unfold codeAlt
      have key : ∀ E, (codeAltE (code f) l x p E).length = (codeAltE (code f) l x p 0).length := fun E => by
        unfold codeAltE
        rw [List.length_append, List.length_append, pre_length (j' := .jump 0)]
      rw [key (p + (codeAltE (code f) l x p 0).length)]
      generalize hE : p + (codeAltE (code f) l x p 0).length = E
      rw [← key E] at hE
      unfold codeAltE at hE ⊢
      rw [List.length_append, ← Nat.add_assoc] at hE
      exact (good_pre (fun y hy => ihx y (List.mem_append_left _ hy)) (Nat.le_trans (Nat.le_add_right _ _) (Nat.le_of_eq hE))).append ((ihx x (List.mem_append_right _ (.head _)) _).mono (Nat.le_of_eq hE))
    | arbno a =>
      have ih := ih (Nat.le_of_succ_le_succ h) (p := p + 3)
      show GoodE (.split (p + 2) :: .jump (p + 3 + (code f a (p + 3)).length + 2) :: .mark :: code f a (p + 3) ++ ([Od.gain] ++ [Od.jump p])) p (p + (.split (p + 2) :: .jump (p + 3 + (code f a (p + 3)).length + 2) :: .mark :: code f a (p + 3) ++ [Od.gain, Od.jump p]).length)
      rw [List.length_append]
      generalize hC : code f a (p + 3) = C at ih ⊢
      have e : p + 3 + C.length = p + (C.length + 3) := by rw [Nat.add_assoc, Nat.add_comm 3]
      rw [e] at ih ⊢
      rw [← List.append_assoc]
      exact GoodE.back ((GoodE.cons (o := .split _) (Nat.add_le_add_left (Nat.le_add_left 2 (C.length + 3)) p) (GoodE.cons (o := .jump _) (.inl ⟨Nat.add_lt_add_left (show 1 < C.length + 5 from Nat.le_add_left 2 (C.length + 3)) p, Nat.le_refl _⟩) (GoodE.cons (o := .mark) trivial (ih.mono (Nat.le_add_right _ 2))))).append (GoodE.one trivial)) rfl
    | later a i =>
      have ih := ih (Nat.le_of_succ_le_succ h) (p := p + 1)
      show GoodE ((.mark :: code f a (p + 1)) ++ [Od.name i]) p (p + ((.mark :: code f a (p + 1)) ++ [Od.name i]).length)
      rw [List.length_append]
      rw [Nat.add_right_comm] at ih
      exact (GoodE.cons (o := .mark) trivial (ih.mono (Nat.le_succ _))).append (GoodE.one trivial)
    | now a i =>
      have ih := ih (Nat.le_of_succ_le_succ h) (p := p + 1)
      show GoodE ((.mark :: code f a (p + 1)) ++ [Od.set i]) p (p + ((.mark :: code f a (p + 1)) ++ [Od.set i]).length)
      rw [List.length_append]
      rw [Nat.add_right_comm] at ih
      exact (GoodE.cons (o := .mark) trivial (ih.mono (Nat.le_succ _))).append (GoodE.one trivial)
    | _ => exact GoodE.one trivial
end
/-- what the straightening asks -/
structure JumpOk (os : List Od) : Prop where
  jump : ∀ (i g : Nat), os[i]? = some (.jump g) → g < os.length ∧ (i < g ∨ ∃ h, os[g]? = some (.split h))
  split : ∀ (i g : Nat), os[i]? = some (.split g) → g < os.length
  hole : ∀ (i : Nat), os[i]? ≠ some .hole
theorem jumpOk_code {f : Nat} {n : Nd} (h : n.size ≤ f) : JumpOk (code f n 0 ++ [.done]) := by
  have g : GoodE (code f n 0 ++ [Od.done]) 0 (0 + (code f n 0).length) := (good_code h).append (GoodE.one trivial)
  have hl : (code f n 0 ++ [Od.done]).length = (code f n 0).length + 1 := List.length_append
  rw [Nat.zero_add] at g
  refine ⟨fun i v q => ?_, fun i v q => hl ▸ Nat.lt_succ_of_le (g i _ q), fun i q => g i _ q⟩
  rcases g i _ q with z | ⟨j, w, e1, e2⟩
  · rw [Nat.zero_add] at z; exact ⟨hl ▸ Nat.lt_succ_of_le z.2, .inl z.1⟩
  · rw [Nat.zero_add] at e1
    subst e1
    exact ⟨(List.getElem?_eq_some_iff.mp e2).1, .inr ⟨w, e2⟩⟩
end Mine

namespace Mine
section
variable {g : GE} {d : Nat} {σ : Sto} {k : V → Sto → Prop}
noncomputable def isChars (n : Nd) : Bool := (chOf n).isSome
theorem kind_chars {n : Nd} (h : kindS n = ("chars" : Str)) : ∃ s, n = .chars s := by
  have h := num_of (j := 0) h rfl
  cases n with
  | chars s => exact ⟨s, rfl⟩
  | _ => exact num_no h rfl
theorem chars_not {n : Nd} (h : kindS n ≠ ("chars" : Str)) : chOf n = none := by
  cases n with
  | chars s => exact absurd rfl h
  | _ => rfl
theorem sp_is_plain (ok : TOk g TBL) (R : Nat → Addr) (n : Nd) (h : k (.bool (isChars n)) σ) : CallC g (d + 1) F_is_plain_text [ndV R n] σ k := by
  refine d_ir0 d_is_plain_text ok rfl rfl rfl (su_nd0 (brD (fun hc => ?_) fun hc => ?_))
  · obtain ⟨s, e⟩ := kind_chars hc
    subst e
    exact v_iSS h
  · unfold isChars at h
    rw [chars_not hc] at h
    exact h
inductive JoinJ (R : Nat → Addr) (a b : Addr) (σ : Sto) (m : List Nd) : Lo → Sto → Prop
  | mk {p : Option V} {σ' : Sto} (x : Ext σ σ') (e : σ' b = some (.list ((joined m).map (ndV R)))) : JoinJ R a b σ m [some (.ref a), some (.ref b), p] σ'
theorem join_len {l m r : List Nd} {x : Nd} (e : l = m ++ x :: r) (hs : sizes l ≤ 1000) : (joined m).length ≤ 1000000 := by
  rw [e, sizes_app] at hs
  exact Nat.le_trans (sizes_len _) (Nat.le_trans (joined_sw m).s (Nat.le_trans (Nat.le_add_right _ _) (Nat.le_trans hs (by decide))))
theorem join_wt {l m r F : List Nd} {t s : Str} (e : l = m ++ .chars s :: r) (hw : wts l ≤ 1000) (ej : joined m = F ++ [.chars t]) : t.length + s.length ≤ 1000000 := by
  have h := (joined_sw m).w
  rw [e, wts_app, ← h, ej, wts_app] at hw
  have h2 : wts F + (t.length + 0) + (s.length + wts r) ≤ 1000 := hw
  exact Nat.le_trans (Nat.le_trans (Nat.add_le_add (Nat.le_add_left _ (wts F)) (Nat.le_add_right _ (wts r))) h2) (by decide)
theorem joined_snoc (m : List Nd) (x : Nd) : joined (m ++ [x]) = joinStep (joined m) x := by unfold joined; rw [List.foldl_append]; rfl
theorem sp_joined (ok : TOk g TBL) (R : Nat → Addr) (a : Addr) (l : List Nd) (ha : σ a = some (.list (l.map (ndV R)))) (hs : sizes l ≤ 1000) (hw : wts l ≤ 1000)
    (h : ∀ b σ', σ b = none → Ext σ σ' → σ' b = some (.list ((joined l).map (ndV R))) → k (.ref b) σ') : CallC g (d + 2) F_with_texts_joined [.ref a] σ k := by
  refine d_ir0 d_with_texts_joined ok rfl rfl rfl fun b hb => l_forP (f := ndV R) l (JoinJ R a b σ) ⟨ext_new hb, upd_eq⟩ (fun m ρ' σ' j => ?_) (fun m ρ' σ' j y r el N nx => ?_) fun ρ' σ' j => ?_
  · induction j with | mk x e => exact .list (x a _ ha)
  · induction j with | @mk p σ' x e =>
    have hl := join_len el hs
    have put : ∀ t : List Nd, joinStep (joined m) y = t → JoinJ R a b σ (m ++ [y]) [some (.ref a), some (.ref b), some (ndV R y)] (upd σ' b (.list (t.map (ndV R)))) := fun t ht => ⟨x.new hb, by rw [upd_eq, joined_snoc, ht]⟩
    refine v_fn (sp_is_plain ok R y ?_)
    cases hc : chOf y with
    | none =>
      refine brF (by unfold isChars; rw [hc]; rfl) ?_
      exact m_app e (v_appM e hl (nx _ _ (put _ (joinStep_put _ hc))))
    | some s =>
      refine brT (by unfold isChars; rw [hc]; rfl) ?_
      cases chOf_of hc
      refine brD (fun he => ?_) fun he => ?_
      · exact nx _ _ ⟨x, by rw [joined_snoc, joinStep_no _ he]; exact e⟩
      · refine v_lenM e hl (brD (fun hp => ?_) fun hp => ?_)
        · obtain ⟨F, t, eF⟩ := snoc_of hp
          rw [eF] at e hl
          refine v_lenM e hl (u_lastM e hl (v_fn (sp_is_plain ok R t ?_)))
          cases hct : chOf t with
          | none =>
            refine brF (by unfold isChars; rw [hct]; rfl) ?_
            rw [eF] at put
            exact m_app e (v_appM e hl (nx _ _ (put _ (joinStep_new F he hct))))
          | some u =>
            refine brT (by unfold isChars; rw [hct]; rfl) ?_
            cases chOf_of hct
            rw [eF] at put
            refine m_popM e (Nat.le_trans (by rw [List.length_append]; exact Nat.le_add_right _ _) hl) (b_cat (join_wt el hw eF) ?_)
            have hl' : F.length ≤ 1000000 := Nat.le_trans (by rw [List.length_append]; exact Nat.le_add_right _ _) hl
            refine m_app upd_eq (v_appM (f := ndV R) (x := .chars (u ++ s)) upd_eq hl' (nx _ _ ?_))
            exact ⟨(x.new hb).new hb, by rw [upd_eq, joined_snoc, eF, joinStep_add F u he]⟩
        · have eF := nil_of hp
          rw [eF] at e put
          exact m_app (l := []) e (v_appM (l := []) e (Nat.zero_le _) (nx _ _ (put _ (joinStep_one he))))
  · induction j with | mk x e => exact h b _ hb x e
end
end Mine

namespace Mine
/-- all but one stays -/
noncomputable def ExtO (o : Addr) (σ σ' : Sto) : Prop := ∀ b c, b ≠ o → σ b = some c → σ' b = some c
section
variable {σ σ' σ'' : Sto} {o a b pc dx : Addr} {c c' : Cell} {L L' : List V} {N N' : Nat}
theorem ExtO.refl : ExtO o σ σ := fun _ _ _ e => e
theorem ExtO.trans (a : ExtO o σ σ') (b : ExtO o σ' σ'') : ExtO o σ σ'' := fun x c n e => b x c n (a x c n e)
theorem Ext.toO (a : Ext σ σ') : ExtO o σ σ' := fun x c _ e => a x c e
theorem exto_upd : ExtO o σ (upd σ o c) := fun b d n e => upd_ne' e n
theorem exto_new (h : σ a = none) : ExtO o σ (upd σ a c) := (ext_new h).toO
noncomputable def Cell.num : Cell → Nat
  | .list _ => 0
  | .dict _ => 1
  | .inst _ _ => 2
  | .cell _ => 3
  | .tab _ _ => 4
  | .map _ => 5
  | .ro _ _ => 6
theorem ne_kind (h : σ a = some c) (e : σ b = some c') (n : Nat.beq c.num c'.num = false) : a ≠ b := fun q => by
  rw [q, e] at h
  cases h
  rw [Nat.beq_refl] at n; cases n
/-- the compiler's object -/
structure PC (σ : Sto) (pc dx o : Addr) (L : List V) (N : Nat) : Prop where
  i : σ pc = some (.inst "PatternCode" dx)
  d : σ dx = some (.dict [("orders", .ref o)])
  l : σ o = some (.list L)
  b : L.length ≤ N
theorem PC.move (p : PC σ pc dx o L N) (x : ExtO o σ σ') (e : σ' o = some (.list L')) (h : L'.length ≤ N') : PC σ' pc dx o L' N' :=
  ⟨x _ _ (ne_kind p.i p.l rfl) p.i, x _ _ (ne_kind p.d p.l rfl) p.d, e, h⟩
theorem PC.cast (p : PC σ pc dx o L N) (e : L = L') : PC σ pc dx o L' N := e ▸ p
theorem PC.z (p : PC σ pc dx o L N) : PC σ pc dx o (L ++ []) N := p.cast (List.append_nil L).symm
end
section
variable {g : GE} {d : Nat} {σ : Sto} {k : V → Sto → Prop} {pc dx o : Addr} {L M : List V} {N : Nat} {v : V}
theorem sp_pc_init (ok : TOk g TBL) {x dx : Addr} (hx : σ x = some (.inst "PatternCode" dx)) (hd : σ dx = some (.dict [])) (h : ∀ o, σ o = none → k .none (upd (upd σ o (.list [])) dx (.dict [("orders", .ref o)]))) :
    CallC g (d + 1) F_PatternCode_init [.ref x] σ k :=
  d_ir0 d_PatternCode_init ok rfl rfl rfl fun a ha => g_set (upd_old hx ha) fl_PatternCode_orders (upd_old hd ha) (Nat.zero_le _) (h a ha)
theorem g_orders {K : V → Prop} (p : PC σ pc dx o L N) (q : K (.ref o)) : VG g TBL (.ref pc) ("orders" : Str) σ K := g_inst p.i fl_PatternCode_orders p.d rfl rfl q
theorem set_at {α : Type} (L M : List α) (i : Nat) (y : α) : (L ++ M).set (L.length + i) y = L ++ M.set i y := by rw [List.set_append_right _ _ (Nat.le_add_right _ _), Nat.add_sub_cancel_left]
theorem v_lenO {K : KE} (p : PC σ pc dx o (L ++ M) N) (h : Nat.ble N 1000000 = true) (q : K (.int ((L.length + M.length : Nat))) σ) : VC g TBL d (.bi "len") [.ref o] σ K := by
  have e : (L ++ M).length = L.length + M.length := List.length_append
  exact v_lenL p.l (big_k (Nat.le_trans p.b (Nat.le_of_ble_eq_true h))) (by rw [e]; exact q)
theorem i_orders {j : Nat} {x : V} {K : Sto → Prop} (p : PC σ pc dx o (L ++ M) N) (h1 : j < M.length) (h : Nat.ble N 1000000 = true) (q : ∀ σ', ExtO o σ σ' → PC σ' pc dx o (L ++ M.set j x) N → K σ') : VI g (.ref o) (.int ((L.length + j : Nat))) x σ K := by
  have e : (L ++ M).length = L.length + M.length := List.length_append
  refine i_list p.l (by rw [e]; exact Nat.add_lt_add_left h1 _) (big_k (Nat.le_trans p.b (Nat.le_of_ble_eq_true h))) (q _ exto_upd (p.move exto_upd (by rw [upd_eq, set_at]) ?_))
  rw [← set_at, List.length_set]; exact p.b
theorem v_emit (ok : TOk g TBL) (p : PC σ pc dx o (L ++ M) N) (hN : Nat.ble N 1000000 = true) (h : ∀ σ', ExtO o σ σ' → PC σ' pc dx o (L ++ (M ++ [v])) (N + 1) → k (.int ((L.length + M.length : Nat))) σ') :
    VC g TBL (d + 1) (.fn F_PatternCode_emit) [.ref pc, v] σ k := by
  have hN' := Nat.le_of_ble_eq_true hN
  have el : (L ++ M ++ [v]).length = (L ++ M).length + 1 := List.length_append
  refine v_fn (d_ir0 d_PatternCode_emit ok rfl rfl rfl (g_orders p (m_app p.l (v_app p.l (big_k (Nat.le_trans p.b hN')) ?_))))
  have p' : PC (upd σ o (.list (L ++ M ++ [v]))) pc dx o (L ++ M ++ [v]) (N + 1) := p.move exto_upd upd_eq (by rw [el]; exact Nat.succ_le_succ p.b)
  refine g_orders p' (v_lenL p'.l (Nat.le_trans p'.b (Nat.le_trans (Nat.succ_le_succ hN') (by decide))) ?_)
  have h := h _ exto_upd (p'.cast (List.append_assoc ..))
  have e2 : (((L ++ M ++ [v]).length : Nat) : Int) - 1 = (L.length + M.length : Nat) := by rw [el, List.length_append]; exact Int.add_sub_cancel ((L.length + M.length : Nat) : Int) 1
  rw [← e2] at h
  exact h
noncomputable def KMeth (g : GE) (d : Nat) (W : WX) (k : KE) : V → List V → Prop := fun f fx => W σ fun vs σ => tupW vs fun l => VC g TBL d f (fx ++ l) σ k
theorem m_pc {n : Str} {i : FnI} {KM : V → List V → Prop} (p : PC σ pc dx o L N) (hm : TBL.mt "PatternCode" n = some i) (hn : find n [(("orders" : Str), V.ref o)] = none) (q : KM (.fn i) [.ref pc]) : VM g TBL (.ref pc) n σ KM := m_inst p.i hm p.d hn q
theorem m_emit {KM : V → List V → Prop} (p : PC σ pc dx o L N) (q : KM (.fn F_PatternCode_emit) [.ref pc]) : VM g TBL (.ref pc) ("emit" : Str) σ KM := m_pc p mt_PatternCode_emit (by kernel_rfl!) q
theorem m_put {KM : V → List V → Prop} (p : PC σ pc dx o L N) (q : KM (.fn F_PatternCode_put) [.ref pc]) : VM g TBL (.ref pc) ("put" : Str) σ KM := m_pc p mt_PatternCode_put (by kernel_rfl!) q
noncomputable def PutOk (g : GE) (R : Nat → Addr) (f : Nat) : Prop := ∀ {n : Nd} {σ : Sto} {pc dx o : Addr} {L : List V} {k : V → Sto → Prop} {N : Nat}, n.size ≤ f → n.wt ≤ 1000 → PC σ pc dx o L N → L.length + 6 * n.size ≤ 50000 →
  (∀ σ', ExtO o σ σ' → PC σ' pc dx o (L ++ (code f n L.length).map (odV R)) 50000 → k .none σ') → CallC g (3 * f + 4) F_PatternCode_put [.ref pc, ndV R n] σ k
theorem v_put {R : Nat → Addr} {f : Nat} {n : Nd} {D : Nat} (ih : PutOk g R f) (hD : 3 * f + 4 ≤ D) (hn : n.size ≤ f) (hw : n.wt ≤ 1000) (p : PC σ pc dx o (L ++ M) N) (hl : L.length + M.length + 6 * n.size ≤ 50000)
    (h : ∀ σ', ExtO o σ σ' → PC σ' pc dx o (L ++ (M ++ (code f n (L.length + M.length)).map (odV R))) 50000 → k .none σ') : VC g TBL D (.fn F_PatternCode_put) [.ref pc, ndV R n] σ k := by
  have e : (L ++ M).length = L.length + M.length := List.length_append
  refine v_fn ((ih hn hw p (by rw [e]; exact hl) fun σ' x q => h σ' x (q.cast ?_)).room hD)
  rw [List.append_assoc, e]
theorem sp_repeat (ok : TOk g TBL) {R : Nat → Addr} {f : Nat} (ih : PutOk g R f) {n : Nd} (hn : n.size ≤ f) (hw : n.wt ≤ 1000) (p : PC σ pc dx o L 50000) (hl : L.length + 6 * (n.size + 1) ≤ 50000)
    (h : ∀ σ', ExtO o σ σ' → σ' o = some (.list (L ++ (code (f + 1) (.arbno n) L.length).map (odV R))) → k .none σ') : CallC g (3 * f + 5) F_PatternCode_put_repeat [.ref pc, ndV R n] σ k := by
  have hl3 : L.length + 3 + 6 * n.size ≤ 50000 := Nat.le_trans (by rw [Nat.add_assoc, Nat.add_comm 3]; exact Nat.add_le_add_left (Nat.add_le_add_left (show 3 ≤ 6 by decide) _) _) hl
  refine d_ir0 d_PatternCode_put_repeat ok rfl rfl rfl (m_emit p (v_emit ok p.z rfl fun σ₁ x₁ p₁ => m_emit p₁ (v_emit ok p₁ rfl fun σ₂ x₂ p₂ => ?_)))
  refine g_orders p₂ (v_lenO p₂ rfl (g_orders p₂ (i_orders p₂ (show 0 < 2 by decide) rfl fun σ₃ x₃ (p₃ : PC σ₃ pc dx o (L ++ [odV R (.split (L.length + 2)), .none]) 50002) => ?_)))
  refine m_emit p₃ (v_emit ok p₃ rfl fun σ₄ x₄ (p₄ : PC σ₄ pc dx o (L ++ [odV R (.split (L.length + 2)), .none, odV R .mark]) 50003) => m_put p₄ (v_put ih (Nat.le_refl _) hn hw p₄ hl3 fun σ₅ x₅ p₅ => ?_))
  change PC σ₅ pc dx o (L ++ ([odV R (.split (L.length + 2)), .none, odV R .mark] ++ (code f n (L.length + 3)).map (odV R))) 50000 at p₅
  have hc : code (f + 1) (.arbno n) L.length = .split (L.length + 2) :: .jump (L.length + 3 + (code f n (L.length + 3)).length + 2) :: .mark :: code f n (L.length + 3) ++ [.gain, .jump L.length] := rfl
  rw [hc, List.map_append] at h
  have hl : ((code f n (L.length + 3)).map (odV R)).length = (code f n (L.length + 3)).length := List.length_map _
  rw [← hl] at h
  replace h : ∀ σ', ExtO o σ σ' → σ' o = some (.list (L ++ (odV R (.split (L.length + 2)) :: odV R (.jump (L.length + 3 + ((code f n (L.length + 3)).map (odV R)).length + 2)) :: odV R .mark :: (code f n (L.length + 3)).map (odV R) ++ [odV R .gain, odV R (.jump L.length)]))) → k .none σ' := h
  generalize (code f n (L.length + 3)).map (odV R) = C at p₅ h
  refine m_emit p₅ (v_emit ok p₅ rfl fun σ₆ x₆ p₆ => m_emit p₆ (v_emit ok p₆ rfl fun σ₇ x₇ p₇ => ?_))
  replace p₇ := p₇.cast (L' := L ++ ([odV R (.split (L.length + 2)), .none, odV R .mark] ++ C ++ [odV R .gain, odV R (.jump L.length)])) (by rw [List.append_assoc _ [_] [_]]; rfl)
  refine g_orders p₇ (v_lenO p₇ rfl (g_orders p₇ (i_orders p₇ (Nat.lt_of_lt_of_le (show 1 < 3 by decide) (Nat.le_add_left 3 _)) rfl fun σ₈ x₈ p₈ => ?_)))
  refine h σ₈ (x₁.trans (x₂.trans (x₃.trans (x₄.trans (x₅.trans (x₆.trans (x₇.trans x₈))))))) (p₈.l.trans ?_)
  have e : L.length + ([odV R (.split (L.length + 2)), .none, odV R .mark] ++ C ++ [odV R .gain, odV R (.jump L.length)]).length = L.length + 3 + C.length + 2 := by
    rw [List.length_append, List.length_append, ← Nat.add_assoc, ← Nat.add_assoc]; rfl
  rw [← e]; rfl
end
end Mine

namespace Mine
noncomputable def intV (n : Nat) : V := .int n
section
variable {g : GE} {d : Nat} {σ : Sto} {k : V → Sto → Prop} {pc dx o : Addr} {L M : List V} {N : Nat} {v : V}
/-- the parts ahead of the last one are put -/
inductive ChJ (R : Nat → Addr) (f : Nat) (L : List V) (l : List Nd) (pc dx o a b c : Addr) (σ : Sto) (m : List Nd) : Lo → Sto → Prop
  | mk {sp pt : Option V} {σ' : Sto} (x : ExtO o σ σ') (ec : σ' c = some (.list (l.map (ndV R)))) (eb : σ' b = some (.list ((holes (code f) m L.length).map intV))) (p : PC σ' pc dx o (L ++ (pre (code f) .hole m L.length).map (odV R)) 50000) :
    ChJ R f L l pc dx o a b c σ m [some (.ref pc), some (.ref a), some (.ref b), sp, pt, none] σ'
/-- .. their jumps -/
inductive ChE (R : Nat → Addr) (f : Nat) (L : List V) (l : List Nd) (C : List Od) (E : Nat) (pc dx o a b : Addr) (sp pt : Option V) (σ : Sto) : List Nat → Lo → Sto → Prop
  | mk {m r : List Nd} {av : Option V} {σ' : Sto} (el : l = m ++ r) (x : ExtO o σ σ') (eb : σ' b = some (.list ((holes (code f) l L.length).map intV)))
      (he : (L ++ (pre (code f) (.jump E) m L.length ++ pre (code f) .hole r (L.length + (pre (code f) (.jump E) m L.length).length) ++ C).map (odV R)).length = E) (p : PC σ' pc dx o (L ++ (pre (code f) (.jump E) m L.length ++ pre (code f) .hole r (L.length + (pre (code f) (.jump E) m L.length).length) ++ C).map (odV R)) 50000) :
    ChE R f L l C E pc dx o a b sp pt σ (holes (code f) m L.length) [some (.ref pc), some (.ref a), some (.ref b), sp, pt, av] σ'
theorem exto_fresh {σ' : Sto} {b : Addr} {c : Cell} (x : ExtO o σ σ') (h : σ b = none) : ExtO o σ (upd σ' b c) := fun z d n e => upd_ne' (x z d n e) (ne_of h e)
theorem PC.beside {b : Addr} {l m : List V} (p : PC σ pc dx o L N) (eb : σ b = some (.list l)) (h : o ≠ b) : PC (upd σ b (.list m)) pc dx o L N := ⟨upd_ne' p.i (ne_kind p.i eb rfl), upd_ne' p.d (ne_kind p.d eb rfl), upd_ne' p.l h, p.b⟩
theorem pre_room {f : Nat} {j : Od} {l m r : List Nd} {x : Nd} {p : Nat} (cl : ∀ y ∈ l ++ [x], ∀ q, (code f y q).length ≤ 6 * y.size) (hl : p + (6 * sizes (l ++ [x]) + 2 * l.length) ≤ 50000) (e : l = m ++ r) : p + (pre (code f) j m p).length + (6 * sizes (r ++ [x]) + 2 * r.length) ≤ 50000 := by
  subst e
  have h := pre_len (j := j) (l := m) (fun y hy q => cl y (List.mem_append_left _ (List.mem_append_left _ hy)) q) p
  rw [List.append_assoc, sizes_app, List.length_append, Nat.mul_add, Nat.mul_add, Nat.add_add_add_comm, ← Nat.add_assoc] at hl
  exact Nat.le_trans (Nat.add_le_add_right (Nat.add_le_add_left h p) _) hl
theorem len_map {α : Type} {F : α → V} {C : List α} : (L ++ C.map F).length = L.length + C.length := by rw [List.length_append, List.length_map]
theorem v_lenE {E : Nat} {K : KE} (p : PC σ pc dx o L N) (he : L.length = E) (h : Nat.ble N 1000000 = true) (q : K (.int (E : Nat)) σ) : VC g TBL d (.bi "len") [.ref o] σ K := v_lenL p.l (big_k (Nat.le_trans p.b (Nat.le_of_ble_eq_true h))) (by rw [he]; exact q)
theorem patch {α β : Type} {f : α → β} {L : List β} {A S R C : List α} {h : α} : L ++ (A ++ (S ++ [h] ++ R) ++ C).map f = (L ++ (A ++ S).map f) ++ (f h :: (R ++ C).map f) := by
  rw [List.append_assoc S, ← List.append_assoc A, List.append_assoc (A ++ S), List.map_append, ← List.append_assoc L]; rfl
theorem codeAlt_eq {cd : Nd → Nat → List Od} {l : List Nd} {x : Nd} {p : Nat} : codeAlt cd l x p = pre cd (.jump (p + (pre cd .hole l p).length + (cd x (p + (pre cd .hole l p).length)).length)) l p ++ cd x (p + (pre cd .hole l p).length) := by
  have h : ∀ E, (pre cd (.jump E) l p).length = (pre cd .hole l p).length := fun E => pre_length
  unfold codeAlt codeAltE
  rw [List.length_append, h 0, h, ← Nat.add_assoc]
theorem sp_choice (ok : TOk g TBL) {R : Nat → Addr} {f : Nat} (ih : PutOk g R f) {l : List Nd} {x : Nd} {a : Addr} (ha : σ a = some (.list ((l ++ [x]).map (ndV R)))) (hao : a ≠ o) (hn : ∀ y ∈ l ++ [x], y.size ≤ f) (hw : ∀ y ∈ l ++ [x], y.wt ≤ 1000) (p : PC σ pc dx o L 50000)
    (hl : L.length + (6 * sizes (l ++ [x]) + 2 * l.length) ≤ 50000)
    (h : ∀ σ', ExtO o σ σ' → σ' o = some (.list (L ++ (codeAlt (code f) l x L.length).map (odV R))) → k .none σ') : CallC g (3 * f + 5) F_PatternCode_put_choice [.ref pc, .ref a] σ k := by
  have cl : ∀ y ∈ l ++ [x], ∀ q, (code f y q).length ≤ 6 * y.size := fun y hy q => code_len (hn y hy) q
  have hl6 : (l ++ [x]).length ≤ 1000000 := Nat.le_trans (Nat.le_trans (sizes_len _) (Nat.le_mul_of_pos_left _ (show 0 < 6 by decide))) (Nat.le_trans (Nat.le_trans (Nat.le_add_right _ _) (Nat.le_add_left _ _)) (Nat.le_trans hl (by decide)))
  refine d_ir0 d_PatternCode_put_choice ok rfl rfl rfl fun b hb => ?_
  have pb := p.move (exto_new (c := .list []) hb) (upd_old p.l hb) p.b
  refine v_lenM (upd_old ha hb) hl6 (l_initM (upd_old ha hb) hl6 fun c hc => ?_)
  refine l_forP (f := ndV R) l (ChJ R f L l pc dx o a b c σ) (ChJ.mk ((exto_new hb).trans (exto_new hc)) upd_eq (upd_old upd_eq hc) ((pb.move (exto_new hc) (upd_old pb.l hc) p.b).cast (List.append_nil L).symm)) (fun m ρ' σ' j => ?_) (fun m ρ' σ' j y r el N nx => ?_) fun ρ' σ' j => ?_
  · induction j with | mk x ec eb p => exact .list ec
  · induction j with | @mk sp pt σ' x₀ ec eb p₀ =>
    have hy : y ∈ l ++ [x] := List.mem_append_left _ (el ▸ List.mem_append_right _ (.head _))
    have room := pre_room (j := .hole) cl hl el
    have room' := pre_room (j := .hole) cl hl (m := m ++ [y]) (r := r) (el.trans (List.append_assoc m [y] r).symm)
    rw [pre, codeRow_snoc, ← pre] at room'
    generalize hP : pre (code f) .hole m L.length = P at p₀ room room'
    have eP : (L ++ P.map (odV R)).length = L.length + P.length := len_map
    refine m_emit p₀ (v_emit ok p₀.z rfl fun σ₁ x₁ p₁ => m_put p₁ (v_put ih (Nat.le_refl _) (hn y hy) (hw y hy) p₁ ?_ fun σ₂ x₂ p₂ => ?_))
    · rw [eP]
      exact Nat.le_trans (by rw [Nat.add_assoc]; exact Nat.add_le_add_left (by rw [Nat.add_comm]; exact Nat.add_le_add (Nat.mul_le_mul_left 6 (Nat.le_add_right _ _)) (Nat.le_add_left 1 (2 * r.length + 1))) _) room
    have x02 := x₀.trans (x₁.trans x₂)
    have nbo := ne_of hb p.l
    have nco : c ≠ o := (ne_of hc (upd_old p.l hb)).symm
    refine m_app (x₂ _ _ nbo.symm (x₁ _ _ nbo.symm eb)) (m_emit p₂ (v_emit ok p₂ rfl fun σ₃ x₃ p₃ => ?_))
    have eb₃ := x₃ _ _ nbo.symm (x₂ _ _ nbo.symm (x₁ _ _ nbo.symm eb))
    refine v_appM (f := intV) eb₃ (by rw [holes_length]; exact Nat.le_trans (by rw [el, List.append_assoc, List.length_append]; exact Nat.le_add_right _ _) hl6) ?_
    have p₄ := p₃.beside (m := (holes (code f) m L.length ++ [(L ++ P.map (odV R)).length + ([V.none] ++ (code f y ((L ++ P.map (odV R)).length + 1)).map (odV R)).length]).map intV) eb₃ nbo
    refine g_orders p₄ (v_lenO p₄ rfl (g_orders p₄ (i_orders (j := 0) p₄ (by rw [List.length_append]; exact Nat.zero_lt_succ _) rfl fun σ₅ x₅ p₅ => nx _ _ (ChJ.mk ((exto_fresh (x02.trans x₃) hb).trans x₅) ?_ ?_ ?_))))
    · exact x₅ _ _ nco (upd_ne' (x₃ _ _ nco (x₂ _ _ nco (x₁ _ _ nco ec))) (ne_of hc upd_eq).symm)
    · rw [x₅ _ _ nbo.symm upd_eq, holes_append (j := .hole), hP, eP]
      show some (Cell.list (List.map intV (_ ++ [_ + ((List.map (odV R) _).length + 1)]))) = _
      rw [List.length_map]; rfl
    · refine ⟨p₅.i, p₅.d, p₅.l.trans ?_, ?_⟩
      · rw [pre, codeRow_snoc, ← pre, hP, List.map_append, ← List.append_assoc]
        show some (Cell.list (_ ++ (V.tup [.str "split", .int (((L ++ P.map (odV R)).length + ([V.none] ++ (code f y ((L ++ P.map (odV R)).length + 1)).map (odV R) ++ [V.none]).length : Nat))] :: (code f y ((L ++ P.map (odV R)).length + 1)).map (odV R) ++ [V.none]))) = _
        rw [eP, show ([V.none] ++ (code f y (L.length + P.length + 1)).map (odV R) ++ [V.none]).length = (code f y (L.length + P.length + 1)).length + 2 by rw [List.length_append, List.length_append, List.length_map]; exact congrArg Nat.succ (Nat.add_comm 1 _)]
        unfold blk
        rw [List.map_append]; rfl
      · rw [pre, codeRow_snoc, ← pre, hP, List.length_append, List.length_map]
        exact Nat.le_trans (Nat.le_add_right _ _) room'
  · induction j with | @mk sp pt σ' x₀ ec eb p₀ =>
    have hx : x ∈ l ++ [x] := List.mem_append_right _ (.head _)
    refine m_put p₀ (v_lenM (x₀ a _ hao ha) hl6 (u_lastM (x₀ a _ hao ha) hl6 (v_put ih (Nat.le_refl _) (hn x hx) (hw x hx) p₀.z ?_ fun σ₁ x₁ p₁ => ?_)))
    · have room := pre_room (j := .hole) (m := l) (r := []) cl hl (List.append_nil l).symm
      rw [len_map]
      exact room
    have nbo := ne_of hb p.l
    have eX : (L ++ (pre (code f) .hole l L.length).map (odV R)).length = L.length + (pre (code f) .hole l L.length).length := len_map
    rw [eX] at p₁
    generalize hE : L.length + (pre (code f) .hole l L.length).length + (code f x (L.length + (pre (code f) .hole l L.length).length)).length = E
    generalize hC : code f x (L.length + (pre (code f) .hole l L.length).length) = C at hE p₁
    replace p₁ : PC σ₁ pc dx o (L ++ (pre (code f) .hole l L.length).map (odV R) ++ C.map (odV R)) 50000 := p₁.cast (by rw [← hC]; rfl)
    rw [List.append_assoc, ← List.map_append] at p₁
    have h0 : (L ++ (pre (code f) .hole l L.length ++ C).map (odV R)).length = E := by rw [len_map, List.length_append, ← Nat.add_assoc]; exact hE
    refine l_forP (f := intV) (holes (code f) l L.length) (ChE R f L l C E pc dx o a b sp pt σ) (ChE.mk (m := []) (r := l) rfl (x₀.trans x₁) (x₁ _ _ nbo.symm eb) h0 p₁) (fun m ρ' σ' j => ?_) (fun m ρ' σ' j y r el N nx => ?_) fun ρ' σ' j => ?_
    · induction j with | mk el x eb he p => exact .list eb
    · induction j with | @mk m r av σ' el' x eb he p =>
      rw [el', holes_append (j := .jump E)] at el
      have el := List.append_cancel_left el
      cases r with
      | nil => cases el
      | cons z r =>
      injection el with e1 e2
      subst e1
      generalize hA : pre (code f) (.jump E) m L.length = A at p he ⊢
      have hz : pre (code f) .hole (z :: r) (L.length + A.length) = (.split (L.length + A.length + ((code f z (L.length + A.length + 1)).length + 2)) :: code f z (L.length + A.length + 1)) ++ [.hole] ++ pre (code f) .hole r (L.length + A.length + (blk (code f) .hole z (L.length + A.length)).length) := rfl
      rw [blk_length] at hz
      rw [hz] at p he
      rw [patch] at p he
      generalize hS : Od.split (L.length + A.length + ((code f z (L.length + A.length + 1)).length + 2)) :: code f z (L.length + A.length + 1) = S at p he
      have lS : S.length = (code f z (L.length + A.length + 1)).length + 1 := by rw [← hS]; rfl
      have hA' : pre (code f) (.jump E) (m ++ [z]) L.length = A ++ (S ++ [.jump E]) := by rw [pre, codeRow_snoc, ← pre, hA, ← hS]; rfl
      have hH : holes (code f) m L.length ++ [L.length + A.length + ((code f z (L.length + A.length + 1)).length + 1)] = holes (code f) (m ++ [z]) L.length := by rw [holes_append (j := .jump E), hA]; rfl
      rw [hA, hH] at nx
      have hq : L.length + (A ++ (S ++ [Od.jump E])).length = L.length + A.length + ((code f z (L.length + A.length + 1)).length + 2) := by rw [List.length_append, List.length_append, lS]; exact (Nat.add_assoc ..).symm
      generalize hQ : pre (code f) .hole r (L.length + A.length + ((code f z (L.length + A.length + 1)).length + 2)) = Q at p he
      have hn : L.length + A.length + ((code f z (L.length + A.length + 1)).length + 1) = (L ++ (A ++ S).map (odV R)).length + 0 := by
        rw [len_map, List.length_append, lS]; exact Nat.add_assoc ..
      rw [hn]
      refine g_orders p (v_lenE p he rfl (g_orders p (i_orders (j := 0) p (Nat.zero_lt_succ _) rfl fun σ₂ x₂ p₂ => nx _ _ (ChE.mk (el'.trans (List.append_assoc m [z] r).symm) (x.trans x₂) (x₂ _ _ nbo.symm eb) ?_ ?_))))
      · rw [hA', hq, hQ, List.append_assoc A, patch]
        refine Eq.trans ?_ he
        exact List.length_append.trans (List.length_append (bs := odV R Od.hole :: _)).symm
      · rw [hA', hq, hQ, List.append_assoc A, patch]; exact p₂
    · generalize hh : holes (code f) l L.length = H at j
      induction j with | @mk m r av σ' el' x eb he p =>
      have hm := congrArg List.length hh
      rw [holes_length, holes_length, el', List.length_append] at hm
      cases List.length_eq_zero_iff.mp (Nat.add_eq_left.mp hm)
      rw [List.append_nil] at el'
      cases el'
      refine h _ x (p.l.trans ?_)
      rw [codeAlt_eq, hC, hE]
      show some (Cell.list (L ++ (pre (code f) (.jump E) l L.length ++ [] ++ C).map (odV R))) = _
      rw [List.append_nil]
end
end Mine

namespace Mine
section
variable {g : GE} {d : Nat} {σ : Sto} {k : V → Sto → Prop} {pc dx o : Addr} {L M : List V} {N : Nat} {v : V} {n : Nd}
theorem kind_arbno (h : kindS n = ("arbno" : Str)) : ∃ a, n = .arbno a := by
  have h := num_of (j := 9) h rfl
  cases n with
  | arbno a => exact ⟨a, rfl⟩
  | _ => exact num_no h rfl
theorem kind_cur (h : kindS n = ("cursor" : Str)) : ∃ i, n = .cur i := by
  have h := num_of (j := 8) h rfl
  cases n with
  | cur i => exact ⟨i, rfl⟩
  | _ => exact num_no h rfl
theorem kind_arb (h : kindS n = ("arb" : Str)) : n = .arb := by
  have h := num_of (j := 5) h rfl
  cases n with
  | arb => rfl
  | _ => exact num_no h rfl
noncomputable def singles : List Str := ["chars", "len", "pos", "rpos", "tab", "rtab", "any", "notany", "span", "break", "rem"]
noncomputable def alones : List Str := ["fence", "fail", "abort", "succeed"]
noncomputable def sgB (i : Nat) : Bool := Nat.blt i 5 || Nat.beq i 6
theorem sg_all : ∀ i, i < 14 → (singles.any (· == kindAt i)) = sgB i ∧ (alones.any (· == kindAt i)) = Nat.beq i 7 ∧ (kindAt i == "bal") = false ∧ (kindAt i == "delay") = false := by decide +kernel
theorem kind_alone (h : (alones.any (· == kindS n)) = true) : n = .fail := by
  have h := (sg_all _ n.num_lt).2.1.symm.trans h
  cases n with
  | fail => rfl
  | _ => cases h
theorem kind_nbal : ¬ kindS n = ("bal" : Str) := beq_eq_false_iff_ne.mp (sg_all _ n.num_lt).2.2.1
theorem kind_ndelay : ¬ kindS n = ("delay" : Str) := beq_eq_false_iff_ne.mp (sg_all _ n.num_lt).2.2.2
/-- a single part: its parts, its code -/
inductive Single (R : Nat → Addr) (n : Nd) : Prop
  | one (h : ndV R n = .tup [.str (kindS n)]) (t : toldV n = .none) (c : ∀ cd p, codeS cd n p = [.one n]) : Single R n
  | two (h : ndV R n = .tup [.str (kindS n), toldV n]) (c : ∀ cd p, codeS cd n p = [.one n]) : Single R n
theorem single_of (R : Nat → Addr) (h : (singles.any (· == kindS n)) = true) : Single R n := by
  have h := (sg_all _ n.num_lt).1.symm.trans h
  cases n with
  | chars s => exact .two rfl fun _ _ => rfl
  | len s => exact .two rfl fun _ _ => rfl
  | tab s => exact .two rfl fun _ _ => rfl
  | span s => exact .two rfl fun _ _ => rfl
  | any s => exact .two rfl fun _ _ => rfl
  | rem => exact .one rfl rfl fun _ _ => rfl
  | _ => cases h
theorem v_lenU {x : V} {l : List V} (e : x = .tup l) (hl : Nat.ble l.length 1000000 = true) (q : k (.int l.length) σ) : VC g TBL d (.bi "len") [x] σ k := e ▸ v_lenT (big_k (Nat.le_of_ble_eq_true hl)) q
inductive PutJ (R : Nat → Addr) (f : Nat) (L : List V) (n : Nd) (pc dx o : Addr) (σ : Sto) (m : List Nd) : Lo → Sto → Prop
  | mk {pt : Option V} {σ' : Sto} (x : ExtO o σ σ') (p : PC σ' pc dx o (L ++ (codeRow (code f) m L.length).map (odV R)) 50000) : PutJ R f L n pc dx o σ m [some (.ref pc), some (ndV R n), some (.str "cat"), pt] σ'
theorem rowK_C {R : Nat → Addr} : RowK R "cat" rowC := ⟨fun x hx => by obtain ⟨a, b, rfl⟩ := kind_cat hx; exact ⟨a, b, rfl, rfl, congrArg Nat.succ (Nat.add_comm a.size b.size)⟩, fun x hx => rowC_other hx⟩
theorem rowK_A {R : Nat → Addr} : RowK R "alt" rowA := ⟨fun x hx => by obtain ⟨a, b, rfl⟩ := kind_alt hx; exact ⟨a, b, rfl, rfl, congrArg Nat.succ (Nat.add_comm a.size b.size)⟩, fun x hx => rowA_other hx⟩
theorem room3 {f : Nat} : 3 * f + 4 ≤ 3 * (f + 1) + 3 := Nat.add_le_add_left (show 4 ≤ 6 by decide) (3 * f)
theorem sp_put (ok : TOk g TBL) (R : Nat → Addr) {f : Nat} (hf : f ≤ 1000) : PutOk g R f := by
  induction f with
  | zero => exact fun {n} _ _ _ _ _ _ _ hn => absurd n.size_pos (Nat.not_lt.mpr hn)
  | succ f ih =>
  have ih : PutOk g R f := @ih (Nat.le_of_succ_le hf)
  refine fun {n σ pc dx o L k N} hn hw p hl h => ?_
  have hb : (L ++ (code (f + 1) n L.length).map (odV R)).length ≤ 50000 := by rw [len_map]; exact Nat.le_trans (Nat.add_le_add_left (code_len hn _) _) hl
  have fin : ∀ {σ' M N}, ExtO o σ σ' → PC σ' pc dx o (L ++ M) N → M = (code (f + 1) n L.length).map (odV R) → k .none σ' := fun x p e => h _ x ⟨p.i, p.d, e ▸ p.l, hb⟩
  have p : PC σ pc dx o L 50000 := ⟨p.i, p.d, p.l, Nat.le_trans (Nat.le_add_right _ _) hl⟩
  have ende : ∀ {σ'}, ExtO o σ σ' → σ' o = some (.list (L ++ (code (f + 1) n L.length).map (odV R))) → k .none σ' := fun x e => h _ x ⟨x _ _ (ne_kind p.i p.l rfl) p.i, x _ _ (ne_kind p.d p.l rfl) p.d, e, hb⟩
  refine d_ir0 d_PatternCode_put ok rfl rfl rfl (su_nd0 (brD (fun hc => ?_) fun h1 => brD (fun hc => ?_) fun h2 => q_inT (ss := singles) ?_))
  · obtain ⟨a, b, e⟩ := kind_cat hc
    subst e
    have hsz := Nat.le_trans hn hf
    have J := joined_sw (rowC (.cat a b))
    have lt := Nat.lt_of_le_of_lt J.s (rowC_two a b).2
    refine v_fn (sp_row_of ok R (.cat a b) hsz rowK_C fun r σ₁ hr1 x₁ y₁ _ => ?_)
    refine v_fn (sp_joined ok R r _ y₁ (Nat.le_trans (Nat.le_of_lt (rowC_two a b).2) hsz) (by rw [(rowC_b (.cat a b)).w]; exact hw) fun q σ₂ hq x₂ y₂ => ?_)
    have x12 := (x₁.trans x₂).toO (o := o)
    have hqo : o ≠ q := ne_of hq (x₁ _ _ p.l)
    refine l_forP (f := ndV R) (joined (rowC (.cat a b))) (PutJ R f L (.cat a b) pc dx o σ₂) (PutJ.mk ExtO.refl (p.move x12 (x₂ _ _ (x₁ _ _ p.l)) p.b).z) (fun m ρ' σ' j => ?_) (fun m ρ' σ' j y r el N nx => ?_) fun ρ' σ' j => ?_
    · induction j with | mk x p => exact .list (x _ _ hqo.symm y₂)
    · induction j with | @mk pt σ' x₃ p₃ =>
      have ls : sizes m + (y.size + sizes r) < (Nd.cat a b).size := by
        have h := lt
        rw [el, sizes_app] at h; exact h
      have hy : y.size ≤ f := Nat.le_of_lt_succ (Nat.lt_of_lt_of_le (Nat.lt_of_le_of_lt (Nat.le_trans (Nat.le_add_right _ _) (Nat.le_add_left _ _)) ls) hn)
      have hyw : y.wt ≤ 1000 := by
        have h := J.w
        rw [el, wts_app, (rowC_b (.cat a b)).w] at h
        exact Nat.le_trans (Nat.le_trans (Nat.le_trans (Nat.le_add_right _ (wts r)) (Nat.le_add_left _ (wts m))) (Nat.le_of_eq h)) hw
      have cl : ∀ z ∈ m, ∀ q, (code f z q).length ≤ 6 * z.size := fun z hz q => code_len (Nat.le_of_lt_succ (Nat.lt_of_lt_of_le (Nat.lt_of_le_of_lt (Nat.le_trans (mem_size hz) (Nat.le_add_right _ _)) ls) hn)) q
      refine m_put p₃ (v_fn ((ih hy hyw p₃ ?_ fun σ₄ x₄ p₄ => nx _ _ (PutJ.mk (x₃.trans x₄) (p₄.cast ?_))).room room3))
      · rw [len_map, Nat.add_assoc]
        refine Nat.le_trans (Nat.add_le_add_left (Nat.add_le_add_right (codeRow_len cl _) _) _) (Nat.le_trans (Nat.add_le_add_left ?_ _) hl)
        rw [← Nat.mul_add]
        exact Nat.mul_le_mul_left 6 (Nat.le_of_lt (Nat.lt_of_le_of_lt (Nat.add_le_add_left (Nat.le_add_right _ _) _) ls))
      · rw [codeRow_snoc, List.map_append, List.append_assoc, len_map]
    · induction j with | mk x p => exact fin (x12.trans x) p rfl
  · obtain ⟨a, b, e⟩ := kind_alt hc
    subst e
    obtain ⟨l, x, A⟩ := altRow a b
    have hsz := Nat.le_trans hn hf
    refine m_pc p mt_PatternCode_put_choice (by kernel_rfl!) (v_fn (sp_row_of ok R (.alt a b) hsz rowK_A fun r σ₁ hr1 x₁ y₁ _ => ?_))
    rw [A.e] at y₁
    have p₁ := p.move x₁.toO (x₁ _ _ p.l) p.b
    refine v_fn (CallC.room (sp_choice ok ih y₁ (ne_of hr1 p.l).symm (fun y hy => Nat.le_of_lt_succ (Nat.lt_of_lt_of_le (Nat.lt_of_le_of_lt (mem_size hy) A.lt) hn)) (fun y hy => Nat.le_trans (mem_wt hy) (by rw [A.w]; exact hw)) p₁ ?_ fun σ₂ x₂ y₂ => ?_) ?_)
    · refine Nat.le_trans (Nat.add_le_add_left ?_ _) hl
      have h := A.s
      omega
    · refine ende (x₁.toO.trans x₂) ?_
      show _ = some (Cell.list (L ++ (codeAlt (code f) (rowA (.alt a b)).dropLast ((rowA (.alt a b)).getLastD .arb) L.length).map (odV R)))
      rw [A.el, A.ex]; exact y₂
    · exact Nat.add_le_add_left (show 5 ≤ 6 by decide) (3 * f)
  cases hsi : singles.any (· == kindS n) with
  | true =>
    have S := single_of R hsi
    cases S with
    | one e t c => exact m_emit p (v_lenU e rfl ((v_emit ok p.z rfl fun σ₁ x₁ p₁ => fin x₁ p₁ (by
        rw [show code (f + 1) n L.length = [.one n] from c _ _]
        show _ = [V.tup [_, _, toldV n]]
        rw [t]; rfl))))
    | two e c => exact m_emit p (v_lenU e rfl ((su_tup e rfl rfl (v_emit ok p.z rfl fun σ₁ x₁ p₁ => fin x₁ p₁ (by
        rw [show code (f + 1) n L.length = [.one n] from c _ _]; rfl)))))
  | false =>
  refine brD (fun hc => ?_) fun h3 => brX kind_nbal (brD (fun hc => ?_) fun h4 => q_inT (ss := alones) ?_)
  · cases kind_arb hc
    exact m_emit p (v_emit ok p.z rfl fun σ₁ x₁ p₁ => fin x₁ p₁ rfl)
  · obtain ⟨a, e⟩ := kind_arbno hc
    subst e
    refine m_pc p mt_PatternCode_put_repeat (by kernel_rfl!) (v_fn (CallC.room (sp_repeat ok ih (Nat.le_of_succ_le_succ hn) hw p hl fun σ₁ x₁ y₁ => ?_) (Nat.add_le_add_left (show 5 ≤ 6 by decide) (3 * f))))
    exact ende x₁ y₁
  cases hal : alones.any (· == kindS n) with
  | true =>
    cases kind_alone hal
    exact m_emit p (v_emit ok p.z rfl fun σ₁ x₁ p₁ => fin x₁ p₁ rfl)
  | false =>
  refine brD (fun hc => ?_) fun h5 => brX kind_ndelay ?_
  · obtain ⟨i, e⟩ := kind_cur hc
    subst e
    exact m_emit p (v_emit ok p.z rfl fun σ₁ x₁ p₁ => fin x₁ p₁ rfl)
  have mid : ∀ {a : Nd}, a.size ≤ f → L.length + 6 * (a.size + 1) ≤ 50000 → L.length + 1 + 6 * a.size ≤ 50000 := fun _ hl => Nat.le_trans (by rw [Nat.add_assoc, Nat.add_comm 1]; exact Nat.add_le_add_left (Nat.add_le_add_left (show 1 ≤ 6 by decide) _) _) hl
  cases n with
  | later a i =>
    have hn := Nat.le_of_succ_le_succ hn
    refine m_emit p (v_emit ok p.z rfl fun σ₁ x₁ p₁ => m_put p₁ (v_put ih room3 hn hw p₁ (mid hn hl) fun σ₂ x₂ p₂ => m_emit p₂ (v_emit ok p₂ rfl fun σ₃ x₃ p₃ => fin (x₁.trans (x₂.trans x₃)) p₃ ?_)))
    show _ = List.map (odV R) (.mark :: code f a (L.length + 1) ++ [.name i])
    rw [List.map_append]; rfl
  | now a i =>
    have hn := Nat.le_of_succ_le_succ hn
    refine m_emit p (v_emit ok p.z rfl fun σ₁ x₁ p₁ => m_put p₁ (v_put ih room3 hn hw p₁ (mid hn hl) fun σ₂ x₂ p₂ => m_emit p₂ (v_emit ok p₂ rfl fun σ₃ x₃ p₃ => fin (x₁.trans (x₂.trans x₃)) p₃ ?_)))
    show _ = List.map (odV R) (.mark :: code f a (L.length + 1) ++ [.set i])
    rw [List.map_append]; rfl
  | cat _ _ => exact absurd rfl h1
  | alt _ _ => exact absurd rfl h2
  | arb => exact absurd rfl h3
  | arbno _ => exact absurd rfl h4
  | cur _ => exact absurd rfl h5
  | fail => exact Bool.noConfusion (show true = false from (sg_all _ (Nd.num_lt .fail)).2.1.symm.trans hal)
  | _ => exact Bool.noConfusion (show true = false from (sg_all _ (Nd.num_lt _)).1.symm.trans hsi)
end
end Mine

namespace Mine
noncomputable section
noncomputable def Od.num : Od → Nat
  | .one _ => 0
  | .arb => 1
  | .split _ => 2
  | .jump _ => 3
  | .mark => 4
  | .name _ => 5
  | .set _ => 6
  | .gain => 7
  | .place _ => 8
  | .fail => 9
  | .done => 10
  | .hole => 11
noncomputable def ords : List Str := ["one", "ways", "split", "jump", "mark", "name", "set", "gain", "place", "fail", "done", ""]
noncomputable def ordAt (i : Nat) : Str := (ords[i]?).getD ""
noncomputable def ordS (o : Od) : Str := ordAt o.num
noncomputable def jsS : List Str := ["jump", "split"]
end
theorem ords_inj : ∀ i, i < 12 → ∀ j, j < 12 → ordAt i = ordAt j → i = j := by decide +kernel
theorem Od.num_lt (o : Od) : o.num < 12 := by cases o <;> exact Nat.le_of_ble_eq_true rfl
theorem onum_of {o : Od} {j : Nat} (h : ordS o = ordAt j) (hj : Nat.blt j 12 = true) : o.num = j := ords_inj _ o.num_lt _ (Nat.le_of_ble_eq_true hj) h
theorem js_all : ∀ i, i < 12 → (jsS.any (· == ordAt i)) = (Nat.beq i 2 || Nat.beq i 3) := by decide +kernel
section
variable {g : GE} {d : Nat} {σ : Sto} {k : V → Sto → Prop} {R : Nat → Addr} {o : Od} {os : List Od}
theorem su_od0 {K : V → Prop} (h : o ≠ .hole) (q : K (.str (ordS o))) : suW g (odV R o) (.int 0) σ K := by
  cases o with
  | hole => exact absurd rfl h
  | _ => exact q
theorem ord_jump (h : ordS o = ("jump" : Str)) : ∃ g, o = .jump g := by
  have h := onum_of (j := 3) h rfl
  cases o with
  | jump g => exact ⟨g, rfl⟩
  | _ => exact num_no h rfl
noncomputable def lands (os : List Od) : Nat → Nat → Prop
  | 0, g => ∀ h, os[g]? ≠ some (.jump h)
  | F + 1, g => ∀ h, os[g]? = some (.jump h) → lands os F h
theorem lands_split {F v w : Nat} (z : os[v]? = some (.split w)) : lands os F v := by
  cases F with
  | zero => exact fun x e => num_no (congrArg Od.num (Option.some.inj (z.symm.trans e))) rfl
  | succ F => exact fun x e => num_no (congrArg Od.num (Option.some.inj (z.symm.trans e))) rfl
theorem lands_all (j : JumpOk os) {F g : Nat} (h : os.length ≤ g + F) : lands os F g := by
  induction F generalizing g with
  | zero => exact fun v e => absurd (List.getElem?_eq_some_iff.mp e).1 (Nat.not_lt.mpr h)
  | succ F ih =>
    intro v e
    rcases (j.jump g v e).2 with z | ⟨w, z⟩
    · exact ih (Nat.le_trans h (by rw [← Nat.add_assoc, Nat.add_right_comm]; exact Nat.add_le_add_right z F))
    · exact lands_split z
theorem thread_jump {F g h : Nat} (e : os[g]? = some (.jump h)) : thread os (F + 1) g = thread os F h := by
  show thrS (thread os F) g os[g]? = _
  rw [e]; rfl
theorem thread_stop {F g : Nat} {w : Od} (e : os[g]? = some w) (h : ¬ ordS w = ("jump" : Str)) : thread os F g = g := by
  cases F with
  | zero => rfl
  | succ F =>
    show thrS (thread os F) g os[g]? = _
    rw [e]
    cases w with
    | jump _ => exact absurd rfl h
    | _ => rfl
/-- an order that goes elsewhere -/
inductive JS (R : Nat → Addr) (t : Nat → Nat) (n : Nat) (y : Od) : Prop
  | mk (s : Str) (g0 : Nat) (e1 : odV R y = .tup [.str s, .int g0]) (e2 : odV R (strO t y) = .tup [.str s, .int (t g0)]) (lt : g0 < n) : JS R t n y
theorem js_of {t : Nat → Nat} {i : Nat} {y : Od} (hj : JumpOk os) (hy : os[i]? = some y) (h : (jsS.any (· == ordS y)) = true) : JS R t os.length y := by
  have h := (js_all _ y.num_lt).symm.trans h
  cases y with
  | jump g => exact ⟨_, g, rfl, rfl, (hj.jump i g hy).1⟩
  | split g => exact ⟨_, g, rfl, rfl, hj.split i g hy⟩
  | _ => cases h
theorem js_not {t : Nat → Nat} {y : Od} (h : (jsS.any (· == ordS y)) = false) : strO t y = y := by
  have h := (js_all _ y.num_lt).symm.trans h
  cases y with
  | jump g => cases h
  | split g => cases h
  | _ => rfl
theorem get_mid {α : Type} (m r : List α) (y : α) : (m ++ y :: r)[m.length]? = some y := by rw [List.getElem?_append_right (Nat.le_refl _), Nat.sub_self]; rfl
inductive StrJ (R : Nat → Addr) (t : Nat → Nat) (a b : Addr) (σ : Sto) (m : List Od) : Lo → Sto → Prop
  | mk {od gl : Option V} {σ' : Sto} (x : Ext σ σ') (e : σ' b = some (.list ((m.map (strO t)).map (odV R)))) : StrJ R t a b σ m [some (.ref a), some (.ref b), od, gl] σ'
inductive WhJ (R : Nat → Addr) (os : List Od) (tg : Nat) (a b : Addr) (y : Od) (σ : Sto) : Nat → Lo → Sto → Prop
  | mk {m gg : Nat} (lt : gg < os.length) (ld : lands os m gg) (et : thread os m gg = tg) : WhJ R os tg a b y σ m [some (.ref a), some (.ref b), some (odV R y), some (.int gg)] σ
theorem sp_straight (ok : TOk g TBL) (R : Nat → Addr) (a : Addr) (os : List Od) (ha : σ a = some (.list (os.map (odV R)))) (hj : JumpOk os) (hl : os.length ≤ 100000)
    (h : ∀ b σ', σ b = none → Ext σ σ' → σ' b = some (.list ((straight os).map (odV R))) → k (.ref b) σ') : CallC g (d + 1) F_straightened [.ref a] σ k := by
  refine d_ir0 d_straightened ok rfl rfl rfl fun b hb => l_forP (f := odV R) os (StrJ R (thread os os.length) a b σ) (StrJ.mk (ext_new hb) upd_eq) (fun m ρ' σ' j => ?_) (fun m ρ' σ' j y r el N nx => ?_) fun ρ' σ' j => ?_
  · induction j with | mk x e => exact .list (x _ _ ha)
  · induction j with | @mk od gl σ' x e =>
    have ha' := x _ _ ha
    have hy : os[m.length]? = some y := by rw [el]; exact get_mid m r y
    have hlm : (m.map (strO (thread os os.length))).length ≤ 1000000 := by
      rw [List.length_map]; exact Nat.le_trans (Nat.le_of_lt (List.getElem?_eq_some_iff.mp hy).1) (Nat.le_trans hl (by decide))
    have hh : y ≠ .hole := fun q => hj.hole _ (q ▸ hy)
    have fin : ∀ {od gl v}, odV R (strO (thread os os.length) y) = v → N [some (.ref a), some (.ref b), od, gl] (upd σ' b (.list ((m.map (strO (thread os os.length))).map (odV R) ++ [v]))) := fun ev => nx _ _ (StrJ.mk (x.new hb) (by rw [upd_eq, List.map_append, List.map_append, ← ev]; rfl))
    refine su_od0 hh (q_inT (ss := jsS) ?_)
    cases hjs : jsS.any (· == ordS y) with
    | true =>
      cases js_of (R := R) (t := thread os os.length) hj hy hjs with | mk s g0 e1 e2 lt =>
      refine su_tup e1 rfl rfl (l_while (WhJ R os (thread os os.length g0) a b y σ') (WhJ.mk lt (lands_all hj (Nat.le_add_left _ _)) rfl) fun n ρ' σ₁ j N' nx' => ?_)
      induction j with | @mk gg lt' ld et =>
      have hgg := List.getElem?_eq_getElem lt'
      generalize os[gg] = w at hgg
      have lt62 : gg < 2 ^ 62 := Nat.lt_of_lt_of_le lt' (Nat.le_trans hl (by decide))
      refine u_listM ha' lt62 hgg (su_od0 (fun q => hj.hole gg (q ▸ hgg)) (brD (fun hc => ?_) fun hc => ?_))
      · obtain ⟨g1, e⟩ := ord_jump hc
        subst e
        refine u_listM ha' lt62 hgg ?_
        cases n with
        | zero => exact absurd hgg (ld g1)
        | succ n => exact nx' _ _ _ (WhJ.mk (hj.jump gg g1 hgg).1 (ld g1 hgg) (by rw [← et, thread_jump hgg])) (Nat.lt_succ_self n)
      · rw [thread_stop hgg hc] at et
        refine su_tup e1 rfl rfl (m_app e (v_app e (by rw [List.length_map]; exact big_k hlm) (fin ?_)))
        rw [e2, et]
    | false =>
      refine m_app e (v_app e (by rw [List.length_map]; exact big_k hlm) (fin ?_))
      rw [js_not hjs]
  · induction j with | mk x e => exact h b _ hb x e
theorem sp_compile (ok : TOk g TBL) (R : Nat → Addr) (n : Nd) {f : Nat} (hf : f ≤ 1000) (hn : n.size ≤ f) (hw : n.wt ≤ 1000)
    (h : ∀ b σ', Ext σ σ' → σ b = none → σ' b = some (.list ((compiled f n).map (odV R))) → k (.ref b) σ') : CallC g (3 * f + 6) F_compile_pattern [ndV R n] σ k := by
  have hcl := Nat.le_trans (code_len hn 0) (Nat.mul_le_mul_left 6 (Nat.le_trans hn hf))
  refine d_ir0 d_compile_pattern ok rfl rfl rfl (v_cls ct_PatternCode fun x dx hx hd hne => ?_)
  have exd : upd (upd σ dx (.dict [])) x (.inst "PatternCode" dx) dx = _ := upd_ne' upd_eq hne.symm
  refine sp_pc_init ok upd_eq exd fun o ho => ⟨rfl, ?_⟩
  have hox := ne_of ho upd_eq
  have hod := ne_of ho exd
  have hoσ : σ o = none := by rw [upd_ne hox.symm, upd_ne hod.symm] at ho; exact ho
  have p1 : PC (upd (upd (upd (upd σ dx (.dict [])) x (.inst "PatternCode" dx)) o (.list [])) dx (.dict [("orders", .ref o)])) x dx o [] 50000 := ⟨upd_ne' (upd_ne' upd_eq hox) hne, upd_eq, upd_ne' upd_eq hod.symm, Nat.zero_le _⟩
  have x1 : Ext σ (upd (upd (upd (upd σ dx (.dict [])) x (.inst "PatternCode" dx)) o (.list [])) dx (.dict [("orders", .ref o)])) := (((ext_new hd).new hx).new hoσ).new hd
  generalize upd (upd (upd (upd σ dx (.dict [])) x (.inst "PatternCode" dx)) o (.list [])) dx (.dict [("orders", .ref o)]) = σ1 at p1 x1
  refine m_put p1 (v_fn ((sp_put ok R hf hn hw p1 ?_ fun σ2 x2 p2 => m_emit p2 (v_emit ok p2.z rfl fun σ3 x3 p3 => ?_)).room (Nat.le_succ _)))
  · exact Nat.le_trans (Nat.le_of_eq (Nat.zero_add _)) (Nat.le_trans (Nat.mul_le_mul_left 6 (Nat.le_trans hn hf)) (by decide))
  · have x03 : ∀ {z c}, σ z = some c → σ3 z = some c := fun {z c} e => x3 _ _ (ne_of hoσ e) (x2 _ _ (ne_of hoσ e) (x1 _ _ e))
    refine g_orders p3 (v_fn (sp_straight ok R o (code f n 0 ++ [Od.done]) (p3.l.trans (by rw [List.map_append]; rfl)) (jumpOk_code hn) ?_ fun b σ4 hb x4 y4 => h b _ (fun z c e => x4 _ _ (x03 e)) ?_ y4))
    · rw [List.length_append]
      exact Nat.le_trans (Nat.succ_le_succ hcl) (by decide)
    · cases q : σ b with
      | none => rfl
      | some c => rw [x03 q] at hb; cases hb
end
end Mine

namespace Mine

/-! ## texts -/
noncomputable def sl (s : Str) : List Nat := s.cps.toList
theorem sl_len (s : Str) : (sl s).length = s.length := by unfold sl; rw [Array.length_toList]; rfl
theorem str_ext {a b : Str} (h : sl a = sl b) : a = b := by
  obtain ⟨a⟩ := a; obtain ⟨b⟩ := b
  rw [show a = b from Array.toList_inj.mp h]
theorem clamp {i n : Nat} (h : i ≤ n) : max (0 : Int) (min (i : Int) (n : Int)) = (i : Nat) := by
  rw [Int.min_eq_left (Int.ofNat_le.mpr h), Int.max_eq_right (Int.natCast_nonneg i)]
theorem clamp_min (j n : Nat) : max (0 : Int) (min (j : Int) (n : Int)) = ((min j n : Nat) : Int) := by
  rcases Nat.le_total j n with q | q
  · rw [Nat.min_eq_left q]; exact clamp q
  · rw [Nat.min_eq_right q, Int.min_eq_right (Int.ofNat_le.mpr q), Int.max_eq_right (Int.natCast_nonneg n)]
theorem not_neg (i : Nat) : ¬ ((i : Int) < 0) := Int.not_lt.mpr (Int.natCast_nonneg i)
theorem indices_ij (i j n : Nat) (h : i ≤ n) : Builtin.Str.strSliceIndices (some (i : Int)) (some (j : Int)) 1 n = (List.range (min j n - i)).map (i + ·) := by
  unfold Builtin.Str.strSliceIndices
  dsimp only
  rw [if_pos (show (1 : Int) > 0 by decide), if_neg (not_neg i), if_neg (not_neg j), if_pos (show (1 : Int) > 0 by decide), clamp h, clamp_min, sliceRange_one]
theorem indices_i (i n : Nat) (h : i ≤ n) : Builtin.Str.strSliceIndices (some (i : Int)) none 1 n = (List.range (n - i)).map (i + ·) := by
  unfold Builtin.Str.strSliceIndices
  dsimp only
  rw [if_pos (show (1 : Int) > 0 by decide), if_neg (not_neg i), if_pos (show (1 : Int) > 0 by decide), clamp h, sliceRange_one]
theorem slice_of {x : Str} {lo hi : Option Int} {i m : Nat} (h : Builtin.Str.strSliceIndices lo hi 1 x.length = (List.range m).map (i + ·)) (hm : i + m ≤ x.length) : sl (Txt.slice x lo hi) = ((sl x).drop i).take m := by
  unfold Txt.slice
  rw [h, List.length_map, List.length_range]
  cases e : m == x.length with
  | true =>
    have e := eq_of_beq e
    rw [← e] at hm
    have hi : i = 0 := Nat.le_zero.mp (Nat.le_of_add_le_add_right (Nat.le_trans hm (Nat.le_of_eq (Nat.zero_add m).symm)))
    rw [hi, List.drop_zero, List.take_of_length_le (by rw [sl_len, e]; exact Nat.le_refl _)]; rfl
  | false =>
    show List.filterMap (x.cps[·]?) ((List.range m).map (i + ·)) = _
    rw [pick_run]; rfl
theorem add_sub_le {i m n : Nat} (h : i ≤ n) (hm : m ≤ n) : i + (m - i) ≤ n := by
  rcases Nat.le_total i m with q | q
  · rw [Nat.add_sub_cancel' q]; exact hm
  · rw [Nat.sub_eq_zero_of_le q]; exact h
theorem slice_ij (x : Str) (i j : Nat) (h : i ≤ x.length) : sl (Txt.slice x (some (i : Int)) (some (j : Int))) = ((sl x).drop i).take (j - i) := by
  rw [slice_of (indices_ij i j x.length h) (add_sub_le h (Nat.min_le_right _ _))]
  rcases Nat.le_total j x.length with q | q
  · rw [Nat.min_eq_left q]
  · rw [Nat.min_eq_right q, List.take_of_length_le (by rw [List.length_drop, sl_len]; exact Nat.le_refl _), List.take_of_length_le (by rw [List.length_drop, sl_len]; exact Nat.sub_le_sub_right q i)]
theorem slice_i (x : Str) (i : Nat) (h : i ≤ x.length) : sl (Txt.slice x (some (i : Int)) none) = (sl x).drop i := by
  rw [slice_of (indices_i i x.length h) (add_sub_le h (Nat.le_refl _))]
  exact List.take_of_length_le (by rw [List.length_drop, sl_len]; exact Nat.le_refl _)
theorem starts_eq (x y : Str) : Txt.startswith x y = decide ((sl x).take y.length = sl y) := by
  unfold Txt.startswith Builtin.Str.subAt
  rw [Bool.eq_iff_iff, Bool.and_eq_true, decide_eq_true_eq, beq_iff_eq, decide_eq_true_eq]
  constructor
  · rintro ⟨h1, h2⟩
    have := congrArg Array.toList h2
    rw [Array.toList_extract] at this
    simpa [sl] using this
  · intro h
    have hl := congrArg List.length h
    rw [List.length_take, sl_len, sl_len] at hl
    refine ⟨by omega, ?_⟩
    apply Array.toList_inj.mp
    rw [Array.toList_extract]
    simpa [sl] using h

/-! ## how far a single part reaches -/
noncomputable def isIn (t : Str) (c : Nat) : Bool := Txt.contains t ⟨#[c]⟩
noncomputable def runE (t : Str) : List Nat → Nat → Nat
  | [], a => a
  | c :: r, a => if isIn t c = true then runE t r (a + 1) else a
noncomputable def pAny (t : Str) (i : Nat) : Option Nat → Option Nat
  | some c => if isIn t c = true then some (i + 1) else none
  | none => none
noncomputable def pSpan (i r : Nat) : Option Nat := if i < r then some r else none
noncomputable def pend (s : Str) (n : Nd) (i : Nat) : Option Nat := match n with
  | .chars t => if ((sl s).drop i).take t.length = sl t then some (i + t.length) else none
  | .len k => if i + k ≤ s.length then some (i + k) else none
  | .tab k => if i ≤ k then (if k ≤ s.length then some k else none) else none
  | .any t => pAny t i (sl s)[i]?
  | .span t => pSpan i (runE t ((sl s).drop i) i)
  | .rem => some s.length
  | _ => none
noncomputable def optV : Option Nat → V
  | some e => .int e
  | none => .none
theorem runE_le (t : Str) (l : List Nat) (a : Nat) : a ≤ runE t l a ∧ runE t l a ≤ a + l.length := by
  induction l generalizing a with
  | nil => exact ⟨Nat.le_refl _, Nat.le_refl _⟩
  | cons c r ih =>
    have h := ih (a + 1)
    unfold runE
    by_cases hc : isIn t c = true
    · rw [if_pos hc]
      exact ⟨Nat.le_of_succ_le h.1, Nat.le_trans h.2 (Nat.le_of_eq (Nat.add_right_comm a 1 r.length))⟩
    · rw [if_neg hc]; exact ⟨Nat.le_refl _, Nat.le_add_right _ _⟩
end Mine

namespace Mine
section
variable {g : GE} {d : Nat} {σ : Sto} {k : V → Sto → Prop} {s t : Str} {i n : Nat}
inductive RunJ (s t : Str) (r : Nat) (σ : Sto) : Nat → Lo → Sto → Prop
  | mk {a : Nat} (le : a ≤ s.length) (e : runE t ((sl s).drop a) a = r) : RunJ s t r σ (s.length - a) [some (.str s), some (.int a), some (.str t), some (.bool true)] σ
theorem big_s (hs : s.length ≤ 1000) : s.length ≤ big := Nat.le_trans hs (by decide)
theorem sign_at (h : i < s.length) : ∃ c, (sl s)[i]? = some c ∧ (sl s).drop i = c :: (sl s).drop (i + 1) :=
  have h' : i < (sl s).length := by rw [sl_len]; exact h
  ⟨_, List.getElem?_eq_getElem h', List.drop_eq_getElem_cons h'⟩
theorem lt62s (hs : s.length ≤ 1000) (h : i < s.length) : i < 2 ^ 62 := Nat.lt_of_lt_of_le h (Nat.le_trans hs (by decide))
theorem runE_cons {l : List Nat} {c a : Nat} : runE t (c :: l) a = if isIn t c = true then runE t l (a + 1) else a := rfl
theorem sp_run_end (ok : TOk g TBL) (hs : s.length ≤ 1000) (hi : i ≤ s.length) (h : k (.int (runE t ((sl s).drop i) i)) σ) : CallC g (d + 1) F_run_end [.str s, .int i, .str t, .bool true] σ k := by
  refine d_ir0 d_run_end ok rfl rfl rfl ?_
  generalize hr : runE t ((sl s).drop i) i = r at h
  refine l_while (RunJ s t r σ) (RunJ.mk hi hr) fun m ρ' σ' j N nx => ?_
  induction j with | @mk a le e =>
  refine v_lenS (big_s hs) (brD (fun hp => ?_) fun hp => ?_)
  · have hp := Int.ofNat_lt.mp hp
    obtain ⟨c, hc, hd⟩ := sign_at hp
    refine u_strN (lt62s hs hp) hc (q_inS (q_eqB ?_))
    rw [hd, runE_cons] at e
    cases hb : Txt.contains t ⟨#[c]⟩ with
    | true => exact nx _ _ _ (RunJ.mk (a := a + 1) hp (by rw [← e]; exact (if_pos hb).symm)) (Nat.sub_succ_lt_self _ _ hp)
    | false =>
      rw [if_neg (by unfold isIn; rw [hb]; decide)] at e
      rw [e]; exact h
  · rw [List.drop_eq_nil_of_le (by rw [sl_len]; exact Nat.not_lt.mp fun q => hp (Int.ofNat_lt.mpr q))] at e
    rw [show a = r from e]; exact h
theorem sp_rem_end (ok : TOk g TBL) (hs : s.length ≤ 1000) (h : k (.int s.length) σ) : CallC g (d + 1) F_rem_end [.str s] σ k := d_ir0 d_rem_end ok rfl rfl rfl (v_lenS (big_s hs) h)
theorem sp_chars_end (ok : TOk g TBL) (hs : s.length ≤ 1000) (hi : i ≤ s.length) (ht : t.length ≤ 1000) (h : k (optV (pend s (.chars t) i)) σ) : CallC g (d + 1) F_chars_end [.str s, .int i, .str t] σ k := by
  have e := slice_ij s i (i + t.length) hi
  rw [Nat.add_sub_cancel_left] at e
  refine d_ir0 d_chars_end ok rfl rfl rfl (v_lenS (big_s ht) (l_str (lo := some (i : Int)) (hi := some ((i + t.length : Nat) : Int)) rfl rfl (Nat.le_trans hs (by decide)) (brD (fun hp => ?_) fun hp => ?_)))
  · rw [show pend s (.chars t) i = some (i + t.length) from if_pos (by rw [← e, hp])] at h
    exact h
  · rw [show pend s (.chars t) i = none from if_neg fun q => hp (str_ext (by rw [e, q]))] at h
    exact h
theorem sp_len_end (ok : TOk g TBL) (hs : s.length ≤ 1000) (h : k (optV (pend s (.len n) i)) σ) : CallC g (d + 1) F_len_end [.str s, .int i, .int n] σ k := by
  refine d_ir0 d_len_end ok rfl rfl rfl (v_lenS (big_s hs) (brD (fun hp => ?_) fun hp => ?_))
  · rw [show pend s (.len n) i = some (i + n) from if_pos (Int.ofNat_le.mp hp)] at h
    exact h
  · rw [show pend s (.len n) i = none from if_neg fun q => hp (Int.ofNat_le.mpr q)] at h
    exact h
theorem sp_tab_end (ok : TOk g TBL) (hs : s.length ≤ 1000) (h : k (optV (pend s (.tab n) i)) σ) : CallC g (d + 1) F_tab_end [.str s, .int i, .int n] σ k := by
  have e : pend s (.tab n) i = if i ≤ n then (if n ≤ s.length then some n else none) else none := rfl
  refine d_ir0 d_tab_end ok rfl rfl rfl (brD (fun hp => v_lenS (big_s hs) (brD (fun hq => ?_) fun hq => ?_)) fun hp => ?_)
  · rw [e, if_pos (Int.ofNat_le.mp hp), if_pos (Int.ofNat_le.mp hq)] at h
    exact h
  · rw [e, if_pos (Int.ofNat_le.mp hp), if_neg fun q => hq (Int.ofNat_le.mpr q)] at h
    exact h
  · rw [e, if_neg fun q => hp (Int.ofNat_le.mpr q)] at h
    exact h
theorem sp_any_at (ok : TOk g TBL) (hs : s.length ≤ 1000) (h : k (optV (pend s (.any t) i)) σ) : CallC g (d + 1) F_any_at [.str s, .int i, .str t] σ k := by
  have e : pend s (.any t) i = pAny t i (sl s)[i]? := rfl
  refine d_ir0 d_any_at ok rfl rfl rfl (v_lenS (big_s hs) (brD (fun hp => ?_) fun hp => ?_))
  · have hp := Int.ofNat_lt.mp hp
    obtain ⟨c, hc, hd⟩ := sign_at hp
    refine u_strN (lt62s hs hp) hc (q_inS ?_)
    rw [e, hc] at h
    cases hb : Txt.contains t ⟨#[c]⟩ with
    | true => rw [show pAny t i (some c) = some (i + 1) from if_pos hb] at h; exact h
    | false => rw [show pAny t i (some c) = none from if_neg (by unfold isIn; rw [hb]; decide)] at h; exact h
  · rw [e, List.getElem?_eq_none (by rw [sl_len]; exact Nat.not_lt.mp fun q => hp (Int.ofNat_lt.mpr q))] at h
    exact h
theorem sp_span_end (ok : TOk g TBL) (hs : s.length ≤ 1000) (hi : i ≤ s.length) (h : k (optV (pend s (.span t) i)) σ) : CallC g (d + 2) F_span_end [.str s, .int i, .str t] σ k := by
  have e : pend s (.span t) i = pSpan i (runE t ((sl s).drop i) i) := rfl
  refine d_ir0 d_span_end ok rfl rfl rfl (v_fn (sp_run_end ok hs hi (brD (fun hp => ?_) fun hp => ?_)))
  · rw [e, show pSpan i _ = some _ from if_pos (Int.ofNat_lt.mp hp)] at h
    exact h
  · rw [e, show pSpan i _ = none from if_neg fun q => hp (Int.ofNat_lt.mpr q)] at h
    exact h
theorem sp_plain_end (ok : TOk g TBL) {n : Nd} (hs : s.length ≤ 1000) (hi : i ≤ s.length) (hw : n.wt ≤ 1000) (hn : (singles.any (· == kindS n)) = true)
    (h : k (optV (pend s n i)) σ) : CallC g (d + 4) F_plain_end [.tup [.str (kindS n), toldV n], .str s, .int i] σ k := by
  refine d_ir0 d_plain_end ok rfl rfl rfl ?_
  have hn := (sg_all _ n.num_lt).1.symm.trans hn
  cases n with
  | rem => exact v_fn (sp_rem_end ok hs h)
  | chars t => exact v_fn (d_ir0 d_one_end ok rfl rfl rfl (v_fn (sp_chars_end ok hs hi hw h)))
  | len n => exact v_fn (d_ir0 d_one_end ok rfl rfl rfl (v_fn (sp_len_end ok hs h)))
  | tab n => exact v_fn (d_ir0 d_one_end ok rfl rfl rfl (v_fn (sp_tab_end ok hs h)))
  | any t => exact v_fn (d_ir0 d_one_end ok rfl rfl rfl (v_fn (sp_any_at ok hs h)))
  | span t => exact v_fn (d_ir0 d_one_end ok rfl rfl rfl (v_fn (sp_span_end ok hs hi h)))
  | _ => cases hn
end
end Mine

namespace Mine

/-! ## the machine, in plain Lean -/
noncomputable section
structure Wy where
  pc : Nat
  pos : Nat
  nm : List (Nat × Str)
  ms : List Nat
noncomputable def nmV (R : Nat → Addr) : List (Nat × Str) → V
  | [] => .none
  | p :: r => .tup [nmV R r, .tup [.ref (R p.1), .str p.2]]
noncomputable def mkV : List Nat → V
  | [] => .none
  | b :: r => .tup [mkV r, .int b]
noncomputable def keyS : Nat → Str
  | 0 => "A"
  | 1 => "B"
  | _ => "C"
noncomputable def noS (rs : List Str) (i : Nat) : Bool := rs.any (· == keyS i)
noncomputable def txt (s : Str) (b a : Nat) : Str := Txt.slice s (some (b : Int)) (some (a : Int))
structure Mv where
  next : Option Wy
  push : List Wy
  put : Option (Nat × V)
noncomputable def noM : Mv := ⟨none, [], none⟩
noncomputable def goM (w : Wy) : Mv := ⟨some w, [], none⟩
noncomputable def oneM (w : Wy) : Option Nat → Mv
  | some e => goM { w with pos := e, pc := w.pc + 1 }
  | none => noM
noncomputable def nameM (s : Str) (i : Nat) (w : Wy) : List Nat → Mv
  | b :: r => goM { w with pc := w.pc + 1, nm := (i, txt s b w.pos) :: w.nm, ms := r }
  | [] => noM
noncomputable def putM' (rs : List Str) (i : Nat) (v : V) (w : Wy) : Mv := if noS rs i = true then noM else ⟨some w, [], some (i, v)⟩
noncomputable def setM (s : Str) (rs : List Str) (i : Nat) (w : Wy) : List Nat → Mv
  | b :: r => putM' rs i (.str (txt s b w.pos)) { w with pc := w.pc + 1, ms := r }
  | [] => noM
noncomputable def gainM (w : Wy) : List Nat → Mv
  | b :: r => if b < w.pos then goM { w with pc := w.pc + 1, ms := r } else noM
  | [] => noM
noncomputable def arbL (w : Wy) (n : Nat) : List Nat := (List.range' (w.pos + 1) (n - w.pos)).reverse
noncomputable def mstepO (s : Str) (rs : List Str) (w : Wy) : Od → Mv
  | .one n => oneM w (pend s n w.pos)
  | .arb => ⟨some { w with pc := w.pc + 1 }, (arbL w s.length).map fun e => { w with pc := w.pc + 1, pos := e }, none⟩
  | .split g => ⟨some { w with pc := w.pc + 1 }, [{ w with pc := g }], none⟩
  | .jump g => goM { w with pc := g }
  | .mark => goM { w with pc := w.pc + 1, ms := w.pos :: w.ms }
  | .name i => nameM s i w w.ms
  | .set i => setM s rs i w w.ms
  | .gain => gainM w w.ms
  | .place i => putM' rs i (.int w.pos) { w with pc := w.pc + 1 }
  | _ => noM
noncomputable def mstepE (s : Str) (rs : List Str) (w : Wy) : Option Od → Mv
  | some o => mstepO s rs w o
  | none => noM
noncomputable def mstep (os : List Od) (s : Str) (rs : List Str) (w : Wy) : Mv := mstepE s rs w os[w.pc]?
end
theorem mstep_at {os : List Od} {s : Str} {rs : List Str} {w : Wy} {o : Od} (h : os[w.pc]? = some o) : mstep os s rs w = mstepO s rs w o := by unfold mstep; rw [h]; rfl
end Mine

namespace Mine
abbrev NL := List (Nat × Str)
abbrev LG := List (Nat × V)
abbrev WL := List (Addr × Addr × Wy)
noncomputable section
noncomputable def dTag : List (Str × V) → Nat
  | [] => 10
  | p :: _ => if p.1 = ("subject" : Str) then 2 else if p.1 = ("kind" : Str) then 3 else if p.1 = ("values" : Str) then 4 else if p.1 = ("orders" : Str) then 5 else 11
noncomputable def Cell.tag : Cell → Nat
  | .list _ => 0
  | .inst _ _ => 1
  | .dict l => dTag l
  | .map _ => 6
  | .cell _ => 7
  | .tab _ _ => 8
  | .ro _ _ => 9
noncomputable def wayD (os pc at_ nm mk ca : V) : List (Str × V) := [("orders", os), ("pc", pc), ("at", at_), ("named", nm), ("marks", mk), ("calls", ca)]
noncomputable def hostD (vA : Addr) (lim : Int) (rA : Addr) (n : Int) (lA : Addr) : List (Str × V) := [("values", .ref vA), ("limit", .int lim), ("refused", .ref rA), ("steps", .int n), ("log", .ref lA)]
noncomputable def refD (key : Str) : List (Str × V) := [("kind", .str "var"), ("owner", .none), ("key", .str key)]
noncomputable def matchD (s : Str) (h hs : Addr) : List (Str × V) := [("subject", .str s), ("host", .ref h), ("history", .ref hs)]
noncomputable def wyD (R : Nat → Addr) (oA : Addr) (w : Wy) : List (Str × V) := wayD (.ref oA) (.int w.pc) (.int w.pos) (nmV R w.nm) (mkV w.ms) .none
noncomputable def logV (p : Nat × V) : V := .tup [.str (keyS p.1), p.2]
end
section
variable {σ σ' σ'' : Sto} {a b : Addr} {c c' : Cell}
theorem nt {x y : Nat} (h : Nat.beq x y = false) : ¬ x = y := fun q => num_no q h
theorem ne_tag (h : σ a = some c) (e : σ b = some c') (n : ¬ c.tag = c'.tag) : a ≠ b := fun q => by
  rw [q, e] at h
  cases h
  exact n rfl
theorem tag_way {os pc at_ nm mk ca : V} : (Cell.dict (wayD os pc at_ nm mk ca)).tag = 5 := by kernel_rfl!
theorem tag_host {vA : Addr} {lim : Int} {rA : Addr} {n : Int} {lA : Addr} : (Cell.dict (hostD vA lim rA n lA)).tag = 4 := by kernel_rfl!
theorem tag_ref {key : Str} : (Cell.dict (refD key)).tag = 3 := by kernel_rfl!
theorem tag_match {s : Str} {h hs : Addr} : (Cell.dict (matchD s h hs)).tag = 2 := by kernel_rfl!
end
/-- the machine's cells -/
structure Cn where
  R : Nat → Addr
  Rd : Nat → Addr
  s : Str
  rs : List Str
  h : Addr
  dh : Addr
  vA : Addr
  rA : Addr
  lA : Addr
  lim : Int
  m : Addr
  dm : Addr
  hs : Addr
  oA : Addr
  os : List Od
/-- those that stay -/
inductive St (c : Cn) : Addr → Cell → Prop
  | m : St c c.m (.inst "Match" c.dm)
  | dm : St c c.dm (.dict (matchD c.s c.h c.hs))
  | h : St c c.h (.inst "PlainHost" c.dh)
  | rA : St c c.rA (.list (c.rs.map .str))
  | oA : St c c.oA (.list (c.os.map (odV c.R)))
  | ref (i : Nat) : St c (c.R i) (.inst "NameRef" (c.Rd i))
  | rd (i : Nat) : St c (c.Rd i) (.dict (refD (keyS i)))
theorem St.tag {c : Cn} {b : Addr} {x : Cell} (h : St c b x) : x.tag ≤ 3 := by
  induction h with
  | dm => rw [tag_match]; decide
  | rd i => rw [tag_ref]; decide
  | _ => exact Nat.le_of_ble_eq_true rfl
theorem St.list {c : Cn} {b : Addr} {x : Cell} (h : St c b x) (t : x.tag = 0) : b = c.rA ∨ b = c.oA := by
  induction h with
  | rA => exact .inl rfl
  | oA => exact .inr rfl
  | dm => exact num_no (tag_match.symm.trans t) rfl
  | rd i => exact num_no (tag_ref.symm.trans t) rfl
  | _ => exact num_no t rfl
structure Ways (σ : Sto) (R : Nat → Addr) (oA : Addr) (l : WL) : Prop where
  at_ : ∀ p ∈ l, σ p.1 = some (.inst "Way" p.2.1) ∧ σ p.2.1 = some (.dict (wyD R oA p.2.2))
  apart : (l.map (·.2.1)).Nodup
noncomputable def abc (x y z : V) : List (Str × V) := [("A", x), ("B", y), ("C", z)]
inductive VOk : List (Str × V) → Prop
  | mk (x y z : V) : VOk (abc x y z)
theorem VOk.put {vals : List (Str × V)} (h : VOk vals) (i : Nat) (v : V) : VOk (putM (keyS i) v vals) := by
  induction h with | mk x y z =>
  cases i with
  | zero => rw [show putM (keyS 0) v (abc x y z) = abc v y z by kernel_rfl!]; exact ⟨_, _, _⟩
  | succ i => cases i with
    | zero => rw [show putM (keyS 1) v (abc x y z) = abc x v z by kernel_rfl!]; exact ⟨_, _, _⟩
    | succ i => rw [show putM (keyS (i + 2)) v (abc x y z) = abc x y v by kernel_rfl!]; exact ⟨_, _, _⟩
theorem VOk.len {vals : List (Str × V)} (h : VOk vals) : vals.length ≤ 100000 := by
  induction h with | mk x y z => exact Nat.le_of_ble_eq_true rfl
structure ApartL (c : Cn) : Prop where
  hl : c.hs ≠ c.lA
  hr : c.hs ≠ c.rA
  ho : c.hs ≠ c.oA
  lo : c.lA ≠ c.oA
  lr : c.lA ≠ c.rA
structure MS (c : Cn) (σ : Sto) (n : Int) (lg : LG) (W H : WL) : Prop where
  st : ∀ b x, St c b x → σ b = some x
  hd : σ c.dh = some (.dict (hostD c.vA c.lim c.rA n c.lA))
  v : ∃ vals, σ c.vA = some (.map vals) ∧ VOk vals
  l : σ c.lA = some (.list (lg.map logV))
  h : σ c.hs = some (.list (H.map fun p => .ref p.1))
  ways : Ways σ c.R c.oA (W ++ H)
  ne : ApartL c
/-- a cell that no turn of the machine changes -/
structure Oth (c : Cn) (b : Addr) (x : Cell) : Prop where
  t : x.tag ≠ 5
  d : x.tag ≠ 4
  v : b ≠ c.vA
  l : b ≠ c.lA
  h : b ≠ c.hs
noncomputable def KeepM (c : Cn) (σ σ' : Sto) : Prop := ∀ b x, Oth c b x → σ b = some x → σ' b = some x
theorem KeepM.refl {c : Cn} {σ : Sto} : KeepM c σ σ := fun _ _ _ e => e
theorem KeepM.trans {c : Cn} {σ σ' σ'' : Sto} (a : KeepM c σ σ') (b : KeepM c σ' σ'') : KeepM c σ σ'' := fun x y o e => b x y o (a x y o e)
structure MK (c : Cn) (σ : Sto) (n : Int) (lg : LG) (W H : WL) (σ' : Sto) : Prop where
  m : MS c σ' n lg W H
  k : KeepM c σ σ'
section
variable {g : GE} {d : Nat} {σ σ' : Sto} {k : V → Sto → Prop} {K : V → Prop} {KS : Sto → Prop} {c : Cn} {n n' : Int} {lg lg' : LG} {W W' H H' : WL} {a dw : Addr} {w : Wy}
theorem MK.trans {σ₁ : Sto} (x : KeepM c σ σ₁) (y : MK c σ₁ n lg W H σ') : MK c σ n lg W H σ' := ⟨y.m, x.trans y.k⟩
theorem gt3 {x y : Nat} (h : x ≤ 3) (e : y = 4 ∨ y = 5 ∨ y = 6) : ¬ x = y := fun q => by
  rw [q] at h
  rcases e with e | e | e <;> rw [e] at h <;> exact absurd h (by decide)
theorem MS.oth (M : MS c σ n lg W H) {b : Addr} {x : Cell} (s : St c b x) : Oth c b x := by
  have e := M.st _ _ s
  have t := s.tag
  obtain ⟨vals, hv, _⟩ := M.v
  have nl : ∀ {l : List V}, σ b = some (.list l) → b = c.rA ∨ b = c.oA := fun q => s.list (by rw [Option.some.inj (e.symm.trans q)]; rfl)
  refine ⟨gt3 t (.inr (.inl rfl)), gt3 t (.inl rfl), ne_tag e hv (gt3 t (.inr (.inr rfl))), fun q => ?_, fun q => ?_⟩
  · rcases nl (q ▸ M.l) with z | z
    · exact M.ne.lr (q.symm.trans z)
    · exact M.ne.lo (q.symm.trans z)
  · rcases nl (q ▸ M.h) with z | z
    · exact M.ne.hr (q.symm.trans z)
    · exact M.ne.ho (q.symm.trans z)
theorem MS.next (M : MS c σ n lg W H) (K : KeepM c σ σ') (hd : σ' c.dh = some (.dict (hostD c.vA c.lim c.rA n' c.lA))) (v : ∃ vals, σ' c.vA = some (.map vals) ∧ VOk vals) (l : σ' c.lA = some (.list (lg'.map logV))) (h : σ' c.hs = some (.list (H'.map fun p => .ref p.1)))
    (ways : Ways σ' c.R c.oA (W' ++ H')) : MK c σ n' lg' W' H' σ' := ⟨⟨fun b x s => K b x (M.oth s) (M.st b x s), hd, v, l, h, ways, M.ne⟩, K⟩
theorem Ways.keep {R : Nat → Addr} {oA : Addr} {l : WL} (w : Ways σ R oA l) (mv : ∀ b x, x.tag = 1 ∨ x.tag = 5 → σ b = some x → σ' b = some x) : Ways σ' R oA l :=
  ⟨fun p hp => ⟨mv _ _ (.inl rfl) (w.at_ p hp).1, mv _ _ (.inr tag_way) (w.at_ p hp).2⟩, w.apart⟩
theorem MS.way0 (M : MS c σ n lg ((a, dw, w) :: W) H) : σ a = some (.inst "Way" dw) ∧ σ dw = some (.dict (wyD c.R c.oA w)) := M.ways.at_ (a, dw, w) (.head _)
theorem tag_wy {R : Nat → Addr} {oA : Addr} : (Cell.dict (wyD R oA w)).tag = 5 := tag_way
/-- the current way's dict is stored anew -/
theorem MS.way (M : MS c σ n lg [(a, dw, w)] H) (w' : Wy) : MK c σ n lg [(a, dw, w')] H (upd σ dw (.dict (wyD c.R c.oA w'))) := by
  obtain ⟨h1, h2⟩ := M.way0
  have mv : ∀ b x, x.tag ≠ 5 → σ b = some x → upd σ dw (.dict (wyD c.R c.oA w')) b = some x := fun b x t e => upd_ne' e (ne_tag e h2 fun q => t (q.trans tag_way))
  obtain ⟨vals, v1, v2⟩ := M.v
  have hap := List.nodup_cons.mp M.ways.apart
  refine M.next (fun b x o e => mv b x o.t e) (mv _ _ (by rw [tag_host]; decide) M.hd) ⟨vals, mv _ _ (nt rfl) v1, v2⟩ (mv _ _ (nt rfl) M.l) (mv _ _ (nt rfl) M.h) ⟨fun p hp => ?_, List.nodup_cons.mpr hap⟩
  cases hp with
  | head => exact ⟨mv _ _ (nt rfl) h1, upd_eq⟩
  | tail _ hp =>
    obtain ⟨g1, g2⟩ := M.ways.at_ p (.tail _ hp)
    exact ⟨mv _ _ (nt rfl) g1, upd_ne' g2 fun q => hap.1 (show dw ∈ H.map (·.2.1) by rw [← q]; exact List.mem_map_of_mem (show p ∈ H from hp))⟩
/-- the host's two stores -/
theorem MS.put (M : MS c σ n lg W H) {vals : List (Str × V)} (hv : σ c.vA = some (.map vals)) (vo : VOk vals) (i : Nat) (v : V) :
    MK c σ n (lg ++ [(i, v)]) W H (upd (upd σ c.vA (.map (putM (keyS i) v vals))) c.lA (.list (lg.map logV ++ [.tup [.str (keyS i), v]]))) := by
  have mv : ∀ b x, b ≠ c.lA → b ≠ c.vA → σ b = some x → upd (upd σ c.vA (.map (putM (keyS i) v vals))) c.lA (.list (lg.map logV ++ [.tup [.str (keyS i), v]])) b = some x := fun b x n1 n2 e => upd_ne' (upd_ne' e n2) n1
  have mt : ∀ b x, x.tag ≠ 0 → x.tag ≠ 6 → σ b = some x → upd (upd σ c.vA (.map (putM (keyS i) v vals))) c.lA (.list (lg.map logV ++ [.tup [.str (keyS i), v]])) b = some x := fun b x n1 n2 e => mv b x (ne_tag e M.l n1) (ne_tag e hv n2) e
  refine M.next (fun b x o e => mv b x o.l o.v e) (mt _ _ (by rw [tag_host]; decide) (by rw [tag_host]; decide) M.hd) ⟨_, upd_ne' upd_eq (ne_tag hv M.l (nt rfl)), vo.put i v⟩ (by rw [upd_eq, List.map_append]; rfl) (mv _ _ M.ne.hl (ne_tag M.h hv (nt rfl)) M.h) (M.ways.keep fun b x t e => mt b x ?_ ?_ e)
  · rcases t with t | t <;> rw [t] <;> decide
  · rcases t with t | t <;> rw [t] <;> decide
/-- only the history changes, and what was free -/
theorem MS.over (M : MS c σ n lg W H) (mv : ∀ b x, b ≠ c.hs → σ b = some x → σ' b = some x) (hl : σ' c.hs = some (.list (H'.map fun p => .ref p.1))) (hw : Ways σ' c.R c.oA (W' ++ H')) : MK c σ n lg W' H' σ' := by
  have mt : ∀ b x, x.tag ≠ 0 → σ b = some x → σ' b = some x := fun b x t e => mv b x (ne_tag e M.h t) e
  obtain ⟨vals, v1, v2⟩ := M.v
  exact M.next (fun b x o e => mv b x o.h e) (mt _ _ (by rw [tag_host]; decide) M.hd) ⟨vals, mt _ _ (nt rfl) v1, v2⟩ (mv _ _ M.ne.hl.symm M.l) hl hw
/-- a new way, put onto the history -/
theorem MS.push (M : MS c σ n lg W H) {y dy : Addr} (hy : σ y = none) (hdy : σ dy = none) (hne : y ≠ dy) (w : Wy) :
    MK c σ n lg W (H ++ [(y, dy, w)]) (upd (upd (upd σ dy (.dict (wyD c.R c.oA w))) y (.inst "Way" dy)) c.hs (.list (H.map (fun p => .ref p.1) ++ [.ref y]))) := by
  have mv : ∀ b x, b ≠ c.hs → σ b = some x → upd (upd (upd σ dy (.dict (wyD c.R c.oA w))) y (.inst "Way" dy)) c.hs (.list (H.map (fun p => .ref p.1) ++ [.ref y])) b = some x := fun b x nb e => upd_ne' (upd_old (upd_old e hdy) ((upd_ne hne).trans hy)) nb
  refine M.over mv (by rw [upd_eq, List.map_append]; rfl) ?_
  rw [← List.append_assoc]
  refine ⟨fun p hp => ?_, ?_⟩
  · rcases List.mem_append.mp hp with hp | hp
    · obtain ⟨g1, g2⟩ := M.ways.at_ p hp
      exact ⟨mv _ _ (ne_tag g1 M.h (nt rfl)) g1, mv _ _ (ne_tag g2 M.h (by rw [tag_wy]; exact nt rfl)) g2⟩
    · cases List.mem_singleton.mp hp
      exact ⟨upd_ne' upd_eq (ne_of hy M.h).symm, upd_ne' (upd_ne' upd_eq hne.symm) (ne_of hdy M.h).symm⟩
  · rw [List.map_append, List.nodup_append]
    refine ⟨M.ways.apart, List.nodup_cons.mpr ⟨List.not_mem_nil, .nil⟩, fun u hu v hv => ?_⟩
    obtain ⟨p, hp, rfl⟩ := List.mem_map.mp hu
    cases List.mem_singleton.mp hv
    exact ne_of hdy (M.ways.at_ p hp).2
/-- a new cell -/
theorem MS.fresh (M : MS c σ n lg W H) {f : Addr} (hf : σ f = none) (x : Cell) : MK c σ n lg W H (upd σ f x) := M.over (fun b y _ e => upd_old e hf) (upd_old M.h hf) (M.ways.keep fun b y _ e => upd_old e hf)
/-- one more step -/
theorem MS.step (M : MS c σ n lg W H) (n' : Int) : MK c σ n' lg W H (upd σ c.dh (.dict (hostD c.vA c.lim c.rA n' c.lA))) := by
  have mv : ∀ b x, x.tag ≠ 4 → σ b = some x → upd σ c.dh (.dict (hostD c.vA c.lim c.rA n' c.lA)) b = some x := fun b x t e => upd_ne' e (ne_tag e M.hd fun q => t (q.trans tag_host))
  obtain ⟨vals, v1, v2⟩ := M.v
  exact M.next (fun b x o e => mv b x o.d e) upd_eq ⟨vals, mv _ _ (nt rfl) v1, v2⟩ (mv _ _ (nt rfl) M.l) (mv _ _ (nt rfl) M.h) (M.ways.keep fun b x t e => mv b x (by rcases t with t | t <;> rw [t] <;> decide) e)
theorem MS.drop (M : MS c σ n lg W H) : MS c σ n lg [] H := { M with ways := ⟨fun p hp => M.ways.at_ p (List.mem_append_right _ hp), (List.nodup_append.mp (by have := M.ways.apart; rw [List.map_append] at this; exact this)).2.1⟩ }
/-- the last one comes off the history -/
theorem MS.pop {p : Addr × Addr × Wy} (M : MS c σ n lg [] (H ++ [p])) : MK c σ n lg [p] H (upd σ c.hs (.list (H.map fun p => .ref p.1))) := by
  refine M.over (fun b x nb e => upd_ne' e nb) upd_eq ⟨fun q hq => ?_, ?_⟩
  · have hq' : q ∈ [] ++ (H ++ [p]) := by
      cases hq with
      | head => exact (show p ∈ H ++ [p] from List.mem_append_right H (.head _))
      | tail _ hq => exact (show q ∈ H ++ [p] from List.mem_append_left _ (show q ∈ H from hq))
    obtain ⟨g1, g2⟩ := M.ways.at_ q hq'
    exact ⟨upd_ne' g1 (ne_tag g1 M.h (nt rfl)), upd_ne' g2 (ne_tag g2 M.h (by rw [tag_wy]; exact nt rfl))⟩
  · have h := M.ways.apart
    rw [List.nil_append, List.map_append, List.nodup_append] at h
    exact List.nodup_cons.mpr ⟨fun hm => h.2.2 _ hm _ (.head _) rfl, h.1⟩
end
end Mine

namespace Mine
section
variable {g : GE} {d : Nat} {σ σ' : Sto} {k : V → Sto → Prop} {K : V → Prop} {KS : Sto → Prop} {KM : V → List V → Prop} {c : Cn} {n n' : Int} {lg lg' : LG} {W W' H H' : WL} {a dw : Addr} {w : Wy} {f : Str} {v : V}

/-! ## what is read and stored -/
theorem g_match (M : MS c σ n lg W H) (hf : TBL.fl "Match" f = true) (hv : find f (matchD c.s c.h c.hs) = some v) (hb : notBi v = true) (q : K v) : VG g TBL (.ref c.m) f σ K := g_inst (M.st _ _ .m) hf (M.st _ _ .dm) hv hb q
theorem g_subject (M : MS c σ n lg W H) (q : K (.str c.s)) : VG g TBL (.ref c.m) ("subject" : Str) σ K := g_match M fl_Match_subject (by kernel_rfl!) rfl q
theorem g_mhost (M : MS c σ n lg W H) (q : K (.ref c.h)) : VG g TBL (.ref c.m) ("host" : Str) σ K := g_match M fl_Match_host (by kernel_rfl!) rfl q
theorem g_hist (M : MS c σ n lg W H) (q : K (.ref c.hs)) : VG g TBL (.ref c.m) ("history" : Str) σ K := g_match M fl_Match_history (by kernel_rfl!) rfl q
theorem m_match {i : FnI} (M : MS c σ n lg W H) (hm : TBL.mt "Match" f = some i) (hn : find f (matchD c.s c.h c.hs) = none) (q : KM (.fn i) [.ref c.m]) : VM g TBL (.ref c.m) f σ KM := m_inst (M.st _ _ .m) hm (M.st _ _ .dm) hn q
theorem nmV_nb {R : Nat → Addr} {l : NL} : notBi (nmV R l) = true := by cases l <;> rfl
theorem mkV_nb {l : List Nat} : notBi (mkV l) = true := by cases l <;> rfl
theorem g_way (M : MS c σ n lg ((a, dw, w) :: W) H) (hf : TBL.fl "Way" f = true) (hv : find f (wyD c.R c.oA w) = some v) (hb : notBi v = true) (q : K v) : VG g TBL (.ref a) f σ K := g_inst M.way0.1 hf M.way0.2 hv hb q
theorem g_wos (M : MS c σ n lg ((a, dw, w) :: W) H) (q : K (.ref c.oA)) : VG g TBL (.ref a) ("orders" : Str) σ K := g_way M fl_Way_orders (by kernel_rfl!) rfl q
theorem g_wpc (M : MS c σ n lg ((a, dw, w) :: W) H) (q : K (.int w.pc)) : VG g TBL (.ref a) ("pc" : Str) σ K := g_way M fl_Way_pc (by kernel_rfl!) rfl q
theorem g_wat (M : MS c σ n lg ((a, dw, w) :: W) H) (q : K (.int w.pos)) : VG g TBL (.ref a) ("at" : Str) σ K := g_way M fl_Way_at (by kernel_rfl!) rfl q
theorem g_wnm (M : MS c σ n lg ((a, dw, w) :: W) H) (q : K (nmV c.R w.nm)) : VG g TBL (.ref a) ("named" : Str) σ K := g_way M fl_Way_named (by kernel_rfl!) nmV_nb q
theorem g_wms (M : MS c σ n lg ((a, dw, w) :: W) H) (q : K (mkV w.ms)) : VG g TBL (.ref a) ("marks" : Str) σ K := g_way M fl_Way_marks (by kernel_rfl!) mkV_nb q
theorem g_wca (M : MS c σ n lg ((a, dw, w) :: W) H) (q : K .none) : VG g TBL (.ref a) ("calls" : Str) σ K := g_way M fl_Way_calls (by kernel_rfl!) rfl q
theorem s_way (w' : Wy) (M : MS c σ n lg [(a, dw, w)] H) (hf : TBL.fl "Way" f = true) (hp : putD f v (wyD c.R c.oA w) = wyD c.R c.oA w') (q : ∀ σ', MK c σ n lg [(a, dw, w')] H σ' → KS σ') : VS g TBL (.ref a) f v σ KS :=
  g_set M.way0.1 hf M.way0.2 (Nat.le_of_ble_eq_true rfl) (by rw [hp]; exact q _ (M.way w'))
theorem s_wpc {p : Nat} (M : MS c σ n lg [(a, dw, w)] H) (q : ∀ σ', MK c σ n lg [(a, dw, { w with pc := p })] H σ' → KS σ') : VS g TBL (.ref a) ("pc" : Str) (.int p) σ KS := s_way _ M fl_Way_pc (by kernel_rfl!) q
/-- pc += 1 -/
theorem a_wpc {cv : List Addr} {ρ : Lo} {kf : KF} (M : MS c σ n lg [(a, dw, w)] H) (q : ∀ σ', MK c σ n lg [(a, dw, { w with pc := w.pc + 1 })] H σ' → kf .next ρ σ') : augK g TBL "pc" (wE g TBL d (.k (.int 1)) cv ρ) ρ kf (.ref a) σ := g_wpc M (s_wpc (p := w.pc + 1) M q)
theorem s_wat {p : Nat} (M : MS c σ n lg [(a, dw, w)] H) (q : ∀ σ', MK c σ n lg [(a, dw, { w with pos := p })] H σ' → KS σ') : VS g TBL (.ref a) ("at" : Str) (.int p) σ KS := s_way _ M fl_Way_at (by kernel_rfl!) q
theorem s_wms {ms : List Nat} (M : MS c σ n lg [(a, dw, w)] H) (e : mkV ms = v) (q : ∀ σ', MK c σ n lg [(a, dw, { w with ms := ms })] H σ' → KS σ') : VS g TBL (.ref a) ("marks" : Str) v σ KS := e ▸ s_way _ M fl_Way_marks (by kernel_rfl!) q
theorem s_wnm {nm : NL} (M : MS c σ n lg [(a, dw, w)] H) (e : nmV c.R nm = v) (q : ∀ σ', MK c σ n lg [(a, dw, { w with nm := nm })] H σ' → KS σ') : VS g TBL (.ref a) ("named" : Str) v σ KS := e ▸ s_way _ M fl_Way_named (by kernel_rfl!) q
theorem sp_way_init (ok : TOk g TBL) {x dx : Addr} (hx : σ x = some (.inst "Way" dx)) (hd : σ dx = some (.dict [])) {os pc at_ nm mk ca : V} (h : k .none (upd σ dx (.dict (wayD os pc at_ nm mk ca)))) :
    CallC g (d + 1) F_Way_init [.ref x, os, pc, at_, nm, mk, ca] σ k := by
  have ne := ne_tag hx hd (nt rfl)
  have st : ∀ {σ₁ : Sto} {l l' : List (Str × V)} {f : Str} {v : V} {KS : Sto → Prop}, σ₁ x = some (.inst "Way" dx) → σ₁ dx = some (.dict l) → TBL.fl "Way" f = true → Nat.ble l.length 100 = true → putD f v l = l' → (∀ σ₂, σ₂ x = some (.inst "Way" dx) → σ₂ dx = some (.dict l') → (∀ b, b ≠ dx → σ₂ b = σ₁ b) → KS σ₂) → VS g TBL (.ref x) f v σ₁ KS :=
    fun h1 h2 hf hl hp q => g_set h1 hf h2 (Nat.le_of_ble_eq_true hl) (by rw [hp]; exact q _ (upd_ne' h1 ne) upd_eq fun b nb => upd_ne nb)
  refine d_ir0 d_Way_init ok rfl rfl rfl (st hx hd fl_Way_orders rfl (l' := [("orders", os)]) (by kernel_rfl!) fun σ₁ h1 d1 k1 => st h1 d1 fl_Way_pc rfl (l' := [("orders", os), ("pc", pc)]) (by kernel_rfl!) fun σ₂ h2 d2 k2 => st h2 d2 fl_Way_at rfl (l' := [("orders", os), ("pc", pc), ("at", at_)]) (by kernel_rfl!) fun σ₃ h3 d3 k3 => st h3 d3 fl_Way_named rfl (l' := [("orders", os), ("pc", pc), ("at", at_), ("named", nm)]) (by kernel_rfl!) fun σ₄ h4 d4 k4 => st h4 d4 fl_Way_marks rfl (l' := [("orders", os), ("pc", pc), ("at", at_), ("named", nm), ("marks", mk)]) (by kernel_rfl!) fun σ₅ h5 d5 k5 => st h5 d5 fl_Way_calls rfl (l' := wayD os pc at_ nm mk ca) (by kernel_rfl!) fun σ₆ h6 d6 k6 => ?_)
  rw [show upd σ dx (.dict (wayD os pc at_ nm mk ca)) = σ₆ from funext fun b => by
    by_cases e : b = dx
    · rw [e, upd_eq, d6]
    · rw [upd_ne e, k6 b e, k5 b e, k4 b e, k3 b e, k2 b e, k1 b e]] at h
  exact h
theorem upd_mid {y dy : Addr} {c1 c2 i : Cell} (h : y ≠ dy) : upd (upd (upd σ dy c1) y i) dy c2 = upd (upd σ dy c2) y i := funext fun b => by
  by_cases e : b = dy
  · rw [e, upd_eq, upd_ne h.symm, upd_eq]
  · rw [upd_ne e]
    by_cases e' : b = y
    · rw [e', upd_eq, upd_eq]
    · rw [upd_ne e', upd_ne e', upd_ne e, upd_ne e]
/-- a new Way -/
theorem v_way (ok : TOk g TBL) {os pc at_ nm mk ca : V} (h : ∀ y dy, σ y = none → σ dy = none → y ≠ dy → k (.ref y) (upd (upd σ dy (.dict (wayD os pc at_ nm mk ca))) y (.inst "Way" dy))) : VC g TBL (d + 2) (.cls "Way") [os, pc, at_, nm, mk, ca] σ k :=
  v_cls ct_Way fun y dy hy hdy hne => sp_way_init ok upd_eq (upd_ne' upd_eq hne.symm) ⟨rfl, by rw [upd_mid hne]; exact h y dy hy hdy hne⟩
theorem m_copied (M : MS c σ n lg ((a, dw, w) :: W) H) (q : KM (.fn F_Way_copied) [.ref a]) : VM g TBL (.ref a) ("copied" : Str) σ KM := m_inst M.way0.1 mt_Way_copied M.way0.2 (by kernel_rfl!) q
theorem v_copied (ok : TOk g TBL) {p : Nat} (M : MS c σ n lg ((a, dw, w) :: W) H) (h : ∀ y dy, σ y = none → σ dy = none → y ≠ dy → k (.ref y) (upd (upd σ dy (.dict (wyD c.R c.oA { w with pc := p }))) y (.inst "Way" dy))) : VC g TBL (d + 3) (.fn F_Way_copied) [.ref a, .int p] σ k :=
  v_fn (d_ir0 d_Way_copied ok rfl rfl rfl (g_wos M (g_wat M (g_wnm M (g_wms M (g_wca M (v_way ok h)))))))

/-! ## the host -/
theorem g_host {f : Str} (M : MS c σ n lg W H) (hf : TBL.fl "PlainHost" f = true) (hv : find f (hostD c.vA c.lim c.rA n c.lA) = some v) (hb : notBi v = true) (q : K v) : VG g TBL (.ref c.h) f σ K := g_inst (M.st _ _ .h) hf M.hd hv hb q
theorem g_hsteps (M : MS c σ n lg W H) (q : K (.int n)) : VG g TBL (.ref c.h) ("steps" : Str) σ K := g_host M fl_PlainHost_steps (by kernel_rfl!) rfl q
theorem g_hlim (M : MS c σ n lg W H) (q : K (.int c.lim)) : VG g TBL (.ref c.h) ("limit" : Str) σ K := g_host M fl_PlainHost_limit (by kernel_rfl!) rfl q
theorem g_href (M : MS c σ n lg W H) (q : K (.ref c.rA)) : VG g TBL (.ref c.h) ("refused" : Str) σ K := g_host M fl_PlainHost_refused (by kernel_rfl!) rfl q
theorem g_hval (M : MS c σ n lg W H) (q : K (.ref c.vA)) : VG g TBL (.ref c.h) ("values" : Str) σ K := g_host M fl_PlainHost_values (by kernel_rfl!) rfl q
theorem m_step (M : MS c σ n lg W H) (q : KM (.fn F_PlainHost_step) [.ref c.h]) : VM g TBL (.ref c.h) ("step" : Str) σ KM := m_inst (M.st _ _ .h) mt_PlainHost_step M.hd (by kernel_rfl!) q
theorem m_assign (M : MS c σ n lg W H) (q : KM (.fn F_PlainHost_assign) [.ref c.h]) : VM g TBL (.ref c.h) ("assign" : Str) σ KM := m_inst (M.st _ _ .h) mt_PlainHost_assign M.hd (by kernel_rfl!) q
theorem v_step (ok : TOk g TBL) (M : MS c σ n lg W H) (hn : n < c.lim) (hk : ∀ σ', MK c σ (n + 1) lg W H σ' → k .none σ') : VC g TBL (d + 1) (.fn F_PlainHost_step) [.ref c.h] σ k := by
  refine v_fn (d_ir0 d_PlainHost_step ok rfl rfl rfl (g_hsteps M (g_set (M.st _ _ .h) fl_PlainHost_steps M.hd (Nat.le_of_ble_eq_true rfl) ?_)))
  rw [show putD "steps" (.int (n + 1)) (hostD c.vA c.lim c.rA n c.lA) = hostD c.vA c.lim c.rA (n + 1) c.lA by kernel_rfl!]
  have M1 := M.step (n + 1)
  exact g_hsteps M1.m (g_hlim M1.m (brX (Int.not_lt.mpr hn) (hk _ M1)))
theorem v_assign (ok : TOk g TBL) {i : Nat} {v : V} (M : MS c σ n lg W H) (hll : lg.length ≤ big) (hf : noS c.rs i = true → k (.bool false) σ) (ht : noS c.rs i = false → ∀ σ', MK c σ n (lg ++ [(i, v)]) W H σ' → k (.bool true) σ') :
    VC g TBL (d + 1) (.fn F_PlainHost_assign) [.ref c.h, .ref (c.R i), v] σ k := by
  have gk : ∀ {σ' : Sto} {K : V → Prop}, σ' (c.R i) = some (.inst "NameRef" (c.Rd i)) → σ' (c.Rd i) = some (.dict (refD (keyS i))) → K (.str (keyS i)) → VG g TBL (.ref (c.R i)) ("key" : Str) σ' K := fun h1 h2 q => g_inst h1 fl_NameRef_key h2 (by kernel_rfl!) rfl q
  have r1 := M.st _ _ (.ref i)
  have r2 := M.st _ _ (.rd i)
  refine v_fn (d_ir0 d_PlainHost_assign ok rfl rfl rfl (gk r1 r2 (g_href M (q_inL (M.st _ _ .rA) ?_))))
  cases hb : c.rs.any (· == keyS i) with
  | true => exact hf hb
  | false =>
    obtain ⟨vals, hv, vo⟩ := M.v
    refine g_hval M (gk r1 r2 (i_map hv vo.len ?_))
    have mv : ∀ {b x}, x.tag ≠ 6 → σ b = some x → upd σ c.vA (.map (putM (keyS i) v vals)) b = some x := fun t e => upd_ne' e (ne_tag e hv t)
    refine g_inst (mv (nt rfl) (M.st _ _ .h)) fl_PlainHost_log (mv (by rw [tag_host]; decide) M.hd) (by kernel_rfl!) rfl (m_app (mv (nt rfl) M.l) (gk (mv (nt rfl) r1) (mv (by rw [tag_ref]; decide) r2) ?_))
    exact v_app (mv (nt rfl) M.l) (by rw [List.length_map]; exact hll) (ht hb _ (M.put hv vo i v))

/-! ## the machine's turns -/
theorem sp_arb_ends (ok : TOk g TBL) {s : Str} {i : Nat} (hs : s.length ≤ 1000) (hi : i ≤ s.length) (h : ∀ a, σ a = none → k (.ref a) (upd σ a (.list (rangeV i (s.length + 1))))) : CallC g (d + 1) F_arb_ends [.str s, .int i] σ k :=
  d_ir0 d_arb_ends ok rfl rfl rfl (v_lenS (big_s hs) (v_rg2 (v_lst ⟨Int.natCast_nonneg i, Int.ofNat_le.mpr (Nat.le_trans hi (big_s hs)), Int.natCast_nonneg (s.length + 1), Int.ofNat_le.mpr (Nat.le_trans (Nat.succ_le_succ hs) (by decide))⟩ h)))
theorem told_not {n : Nd} (q : k (.bool false) σ) : VC g TBL d (.bi "isinstance") [toldV n, .ty "tuple"] σ k := by
  cases n with
  | chars s => exact v_iST q
  | span s => exact v_iST q
  | any s => exact v_iST q
  | len s => exact v_iIT q
  | tab s => exact v_iIT q
  | _ => exact v_iNT q
theorem v_met_once (ok : TOk g TBL) (M : MS c σ n lg [(a, dw, w)] H) {x : Nd} (hs : c.s.length ≤ 1000) (hp : w.pos ≤ c.s.length) (hw : x.wt ≤ 1000) (hn : (singles.any (· == kindS x)) = true)
    (h0 : pend c.s x w.pos = none → k (.bool false) σ) (h1 : ∀ e, pend c.s x w.pos = some e → ∀ σ', MK c σ n lg [(a, dw, { w with pos := e, pc := w.pc + 1 })] H σ' → k (.bool true) σ') :
    VC g TBL (d + 5) (.fn F_Match_met_once) [.ref c.m, odV c.R (.one x), .ref a] σ k := by
  refine v_fn (d_ir0 d_Match_met_once ok rfl rfl rfl (told_not (g_subject M (g_wat M (v_fn (sp_plain_end ok hs hp hw hn ?_))))))
  cases he : pend c.s x w.pos with
  | none => exact q_is rfl (h0 he)
  | some e => exact q_is rfl (s_wat (p := e) M fun σ₁ M1 => a_wpc M1.m fun σ₂ M2 => h1 e he σ₂ (M2.trans M1.k))
end
end Mine

namespace Mine
section
variable {g : GE} {d : Nat} {σ σ' : Sto} {k : V → Sto → Prop} {K : V → Prop} {c : Cn} {n n' : Int} {lg lg' : LG} {W W' H H' : WL} {a dw : Addr} {pc pos b : Nat} {nm : NL} {r ms : List Nat}
theorem v_ended_gain (ok : TOk g TBL) (M : MS c σ n lg [(a, dw, ⟨pc, pos, nm, b :: r⟩)] H) (hs : c.s.length ≤ 1000)
    (hk : ∀ σ', MK c σ n lg [(a, dw, ⟨pc, pos, nm, r⟩)] H σ' → (b < pos → k (.bool true) σ') ∧ (¬ b < pos → k (.bool false) σ')) : VC g TBL (d + 2) (.fn F_Match_ended) [.ref c.m, odV c.R .gain, .ref a] σ k := by
  refine v_fn (d_ir0 d_Match_ended ok rfl rfl rfl (g_wms M (s_wms (ms := r) M rfl fun σ₁ M1 => g_subject M1.m (g_wat M1.m (l_str (lo := some (b : Int)) (hi := some (pos : Int)) rfl rfl (Nat.le_trans hs (by decide)) (g_wat M1.m ?_))))))
  obtain ⟨h1, h0⟩ := hk σ₁ M1
  exact bool_cases (P := fun x => k (.bool x) σ₁) (fun q => h1 (Int.ofNat_lt.mp q)) fun q => h0 fun z => q (Int.ofNat_lt.mpr z)
theorem v_ended_name (ok : TOk g TBL) (M : MS c σ n lg [(a, dw, ⟨pc, pos, nm, b :: r⟩)] H) (hs : c.s.length ≤ 1000) {i : Nat}
    (hk : ∀ σ', MK c σ n lg [(a, dw, ⟨pc, pos, (i, txt c.s b pos) :: nm, r⟩)] H σ' → k (.bool true) σ') : VC g TBL (d + 2) (.fn F_Match_ended) [.ref c.m, odV c.R (.name i), .ref a] σ k :=
  v_fn (d_ir0 d_Match_ended ok rfl rfl rfl (g_wms M (s_wms (ms := r) M rfl fun σ₁ M1 => g_subject M1.m (g_wat M1.m (l_str (lo := some (b : Int)) (hi := some (pos : Int)) rfl rfl (Nat.le_trans hs (by decide)) (g_wnm M1.m (s_wnm (nm := (i, txt c.s b pos) :: nm) M1.m rfl fun σ₂ M2 => hk σ₂ (M2.trans M1.k))))))))
theorem v_ended_set (ok : TOk g TBL) (M : MS c σ n lg [(a, dw, ⟨pc, pos, nm, b :: r⟩)] H) (hs : c.s.length ≤ 1000) (hll : lg.length ≤ big) {i : Nat}
    (hf : noS c.rs i = true → ∀ σ', MK c σ n lg [(a, dw, ⟨pc, pos, nm, r⟩)] H σ' → k (.bool false) σ') (ht : noS c.rs i = false → ∀ σ', MK c σ n (lg ++ [(i, .str (txt c.s b pos))]) [(a, dw, ⟨pc, pos, nm, r⟩)] H σ' → k (.bool true) σ') :
    VC g TBL (d + 3) (.fn F_Match_ended) [.ref c.m, odV c.R (.set i), .ref a] σ k :=
  v_fn (d_ir0 d_Match_ended ok rfl rfl rfl (g_wms M (s_wms (ms := r) M rfl fun σ₁ M1 => g_subject M1.m (g_wat M1.m (l_str (lo := some (b : Int)) (hi := some (pos : Int)) rfl rfl (Nat.le_trans hs (by decide)) (g_mhost M1.m (m_assign M1.m (v_assign ok M1.m hll (fun q => hf q _ M1) fun q σ₂ M2 => ht q σ₂ (M2.trans M1.k)))))))))

/-! ## many ways on -/
theorem put_at {R : Nat → Addr} {oA : Addr} {w : Wy} {p : Nat} : putD ("at" : Str) (.int p) (wyD R oA w) = wyD R oA { w with pos := p } := by kernel_rfl!
theorem rangeV_eq {p n : Nat} (h : p ≤ n) : rangeV (p : Int) ((n : Int) + 1) = (List.range' p (n - p + 1)).map intV := by
  unfold rangeV
  have e : (((n : Int) + 1) - (p : Int)).toNat = n - p + 1 := (Int.toNat_sub (n + 1) p).trans (Nat.succ_sub h)
  rw [e, List.range'_eq_map_range, List.map_map]; rfl
theorem ends_all {p n : Nat} (h : p ≤ n) : rangeV (p : Int) ((n : Int) + 1) = intV p :: (List.range' (p + 1) (n - p)).map intV := (rangeV_eq h).trans (by rw [List.range'_succ]; rfl)
theorem s_newat {R : Nat → Addr} {oA y dy : Addr} {w : Wy} {p : Nat} {KS : Sto → Prop} (hne : y ≠ dy) (q : KS (upd (upd σ dy (.dict (wyD R oA { w with pos := p }))) y (.inst "Way" dy))) : VS g TBL (.ref y) ("at" : Str) (.int p) (upd (upd σ dy (.dict (wyD R oA w))) y (.inst "Way" dy)) KS :=
  g_set upd_eq fl_Way_at (upd_ne' upd_eq hne.symm) (Nat.le_of_ble_eq_true rfl) (by rw [put_at, upd_mid hne]; exact q)
inductive OftJ (c : Cn) (n : Int) (lg : LG) (a dw : Addr) (w : Wy) (H : WL) (e f : Addr) (its : List Nat) (σ : Sto) (m : List Nat) : Lo → Sto → Prop
  | mk {ev ov : Option V} {ys : WL} {σ' : Sto} (M : MK c σ n lg [(a, dw, w)] (H ++ ys) σ') (ef : σ' f = some (.list (its.map intV))) (ey : ys.map (·.2.2) = m.map fun e => { w with pos := e }) :
    OftJ c n lg a dw w H e f its σ m [some (.ref c.m), some (.ref a), some (.ref e), ev, ov] σ'
theorem MS.oth_new (M : MS c σ n lg W H) {f : Addr} {l : List V} (hf : σ f = none) : Oth c f (.list l) := by
  obtain ⟨vals, hv, _⟩ := M.v
  exact ⟨nt rfl, nt rfl, (ne_of hf hv).symm, (ne_of hf M.l).symm, (ne_of hf M.h).symm⟩
theorem v_often (ok : TOk g TBL) {w : Wy} {e : Addr} (M : MS c σ n lg [(a, dw, w)] H) (hb : H.length + 1000 ≤ big) (hs : c.s.length ≤ 1000) (hp : w.pos ≤ c.s.length)
    (he : σ e = some (.list (rangeV w.pos (c.s.length + 1)))) (oe : Oth c e (.list (rangeV w.pos (c.s.length + 1))))
    (hk : ∀ σ' ys, MK c σ n lg [(a, dw, { w with pc := w.pc + 1 })] (H ++ ys) σ' → ys.map (·.2.2) = (arbL w c.s.length).map (fun e => { w with pc := w.pc + 1, pos := e }) → k (.bool true) σ') :
    VC g TBL (d + 4) (.fn F_Match_met_often) [.ref c.m, .ref a, .ref e] σ k := by
  have hall := ends_all hp
  have hlen : (rangeV w.pos (c.s.length + 1)).length ≤ 1000000 := by
    rw [rangeV_eq hp, List.length_map, List.length_range']
    exact Nat.le_trans (Nat.succ_le_succ (Nat.le_trans (Nat.sub_le _ _) hs)) (by decide)
  have hrev : ((rangeV w.pos (c.s.length + 1)).drop 1).reverse = (arbL w c.s.length).map intV := by
    rw [hall]
    exact (List.map_reverse (f := intV)).symm
  have hil : (arbL w c.s.length).length ≤ 1000 := by
    unfold arbL
    rw [List.length_reverse, List.length_range']
    exact Nat.le_trans (Nat.sub_le _ _) hs
  refine v_fn (d_ir0 d_Match_met_often ok rfl rfl rfl (v_lenL he (big_k hlen) (brX ?_ (a_wpc M fun σ₁ M1 => l_down (M1.k _ _ oe he) hlen fun f hf => ?_))))
  · rw [hall]; exact fun q => absurd (Int.ofNat.inj q) (Nat.succ_ne_zero _)
  rw [hrev]
  have of : Oth c f (.list ((arbL w c.s.length).map intV)) := M1.m.oth_new hf
  have M2 := (M1.m.fresh hf (.list ((arbL w c.s.length).map intV))).trans M1.k
  refine l_forP (f := intV) (arbL w c.s.length) (OftJ c n lg a dw { w with pc := w.pc + 1 } H e f (arbL w c.s.length) σ) (OftJ.mk (ys := []) (by rw [List.append_nil]; exact M2) upd_eq rfl) (fun m ρ' σ' j => ?_) (fun m ρ' σ' j x r el N nx => ?_) fun ρ' σ' j => ?_
  · induction j with | mk M ef ey => exact .list ef
  · induction j with | @mk ev ov ys σ' M3 ef ey =>
    have hyl : ys.length ≤ 1000 := by
      have h := congrArg List.length ey
      rw [List.length_map, List.length_map] at h
      rw [h]
      exact Nat.le_trans (by rw [el, List.length_append]; exact Nat.le_add_right _ _) hil
    refine m_copied M3.m (g_wpc M3.m (v_copied ok M3.m fun y dy hy hdy hne => ?_))
    refine s_newat hne ?_
    have M4 := M3.m.fresh hdy (.dict (wyD c.R c.oA { w with pc := w.pc + 1, pos := x }))
    have M5 := M4.m.fresh ((upd_ne hne).trans hy) (.inst "Way" dy)
    have MP := M3.m.push hy hdy hne { w with pc := w.pc + 1, pos := x }
    have hHl : ((H ++ ys).map fun p => V.ref p.1).length ≤ big := by
      rw [List.length_map, List.length_append]; exact Nat.le_trans (Nat.add_le_add_left hyl _) hb
    refine g_hist M5.m (m_app M5.m.h (v_app M5.m.h hHl (nx _ _ (OftJ.mk (ys := ys ++ [(y, dy, { w with pc := w.pc + 1, pos := x })]) (by rw [← List.append_assoc]; exact MP.trans M3.k) (MP.k _ _ of ef) ?_))))
    rw [List.map_append, ey, List.map_append]; rfl
  · induction j with | @mk ev ov ys σ' M3 ef ey =>
    refine u_listN (i := 0) (M3.k _ _ oe he) (by decide) (by rw [hall]; rfl) (s_wat (p := w.pos) M3.m fun σ₄ M4 => hk σ₄ ys (M4.trans M3.k) ey)
end
end Mine

namespace Mine
noncomputable def isEnd : Od → Bool
  | .name _ => true
  | .set _ => true
  | .gain => true
  | _ => false
structure Ready (os : List Od) (s : Str) (w : Wy) (o : Od) : Prop where
  at_ : os[w.pc]? = some o
  notDone : o ≠ .done
  notHole : o ≠ .hole
  pos : w.pos ≤ s.length
  ms : isEnd o = true → w.ms ≠ []
section
variable {g : GE} {d : Nat} {σ σ' : Sto} {k : V → Sto → Prop} {K : V → Prop} {c : Cn} {n n' : Int} {lg lg' : LG} {W W' H H' : WL} {a dw : Addr} {w : Wy} {o : Od}
theorem MK.drop (M : MK c σ n lg W H σ') : MK c σ n lg [] H σ' := ⟨M.m.drop, M.k⟩
theorem v_done (ok : TOk g TBL) (M : MS c σ n lg [(a, dw, w)] H) (hb : H.length + 1000 ≤ big) (hs : c.s.length ≤ 1000) (hll : lg.length ≤ big)
    (hr : Ready c.os c.s w o) (ho : ∀ x, o = .one x → x.wt ≤ 1000 ∧ (singles.any (· == kindS x)) = true)
    (h0 : (mstepO c.s c.rs w o).next = none → ∀ σ', MK c σ n lg [] H σ' → k (.bool false) σ')
    (h1 : ∀ w' ps pt, mstepO c.s c.rs w o = ⟨some w', ps, pt⟩ → ∀ σ' ys, MK c σ n (lg ++ pt.toList) [(a, dw, w')] (H ++ ys) σ' → ys.map (·.2.2) = ps → k (.bool true) σ') :
    VC g TBL (d + 8) (.fn F_Match_done) [.ref c.m, odV c.R o, .ref a] σ k := by
  have here : MK c σ n lg [] H σ := ⟨M.drop, .refl⟩
  have go : ∀ w' pt, mstepO c.s c.rs w o = ⟨some w', [], pt⟩ → ∀ σ', MK c σ n (lg ++ pt.toList) [(a, dw, w')] H σ' → k (.bool true) σ' := fun w' pt e σ' M' => h1 w' [] pt e σ' [] (by rw [List.append_nil]; exact M') rfl
  have go0 : ∀ w', mstepO c.s c.rs w o = goM w' → ∀ σ', MK c σ n lg [(a, dw, w')] H σ' → k (.bool true) σ' := fun w' e σ' M' => go w' none e σ' (by rw [show lg ++ Option.toList none = lg from List.append_nil lg]; exact M')
  refine v_fn (d_ir0 d_Match_done ok rfl rfl rfl ?_)
  obtain ⟨pc, pos, nm, ms⟩ := w
  cases o with
  | done => exact absurd rfl hr.notDone
  | hole => exact absurd rfl hr.notHole
  | one x =>
    obtain ⟨hw, hn⟩ := ho x rfl
    exact m_match M mt_Match_met_once (by kernel_rfl!) (v_met_once ok M hs hr.pos hw hn (fun q => h0 (show (oneM _ (pend c.s x pos)).next = none by rw [q]; rfl) _ here) fun e q σ₁ M1 => go0 _ (show oneM _ (pend c.s x pos) = _ by rw [q]; rfl) σ₁ M1)
  | arb =>
    refine q_inT (ss := ["name", "set", "gain"]) (m_match M mt_Match_other (by kernel_rfl!) (v_fn (d_ir0 d_Match_other ok rfl rfl rfl (m_match M mt_Match_met_often (by kernel_rfl!) (g_subject M (g_wat M (v_fn (d_ir0 d_ends_of ok rfl rfl rfl (v_fn (sp_arb_ends ok hs hr.pos fun e he => ?_))))))))))
    have M1 := M.fresh he (.list (rangeV pos (c.s.length + 1)))
    exact v_often ok M1.m hb hs hr.pos upd_eq (M.oth_new he) fun σ₂ ys M2 q => h1 _ _ none rfl σ₂ ys (by rw [show lg ++ Option.toList none = lg from List.append_nil lg]; exact M2.trans M1.k) q
  | split gg =>
    refine g_hist M (m_app M.h (m_copied M (v_copied ok M fun y dy hy hdy hne => v_app (upd_old (upd_old M.h hdy) ((upd_ne hne).trans hy)) (by rw [List.length_map]; exact Nat.le_trans (Nat.le_add_right _ 1000) hb) ?_)))
    have M1 := M.push hy hdy hne ⟨gg, pos, nm, ms⟩
    exact a_wpc M1.m fun σ₂ M2 => h1 _ _ none rfl σ₂ [(y, dy, ⟨gg, pos, nm, ms⟩)] (by rw [show lg ++ Option.toList none = lg from List.append_nil lg]; exact M2.trans M1.k) rfl
  | jump gg => exact s_wpc M fun σ₁ M1 => go0 _ rfl σ₁ M1
  | mark => exact g_wms M (g_wat M (s_wms (ms := pos :: ms) M rfl fun σ₁ M1 => a_wpc M1.m fun σ₂ M2 => go0 _ rfl σ₂ (M2.trans M1.k)))
  | name i =>
    cases ms with
    | nil => exact absurd rfl (hr.ms rfl)
    | cons b r => exact q_inT (ss := ["name", "set", "gain"]) (m_match M mt_Match_ended (by kernel_rfl!) (v_ended_name ok M hs fun σ₁ M1 => a_wpc M1.m fun σ₂ M2 => go0 _ rfl σ₂ (M2.trans M1.k)))
  | gain =>
    cases ms with
    | nil => exact absurd rfl (hr.ms rfl)
    | cons b r => exact q_inT (ss := ["name", "set", "gain"]) (m_match M mt_Match_ended (by kernel_rfl!) (v_ended_gain ok M hs fun σ₁ M1 => ⟨fun q => a_wpc M1.m fun σ₂ M2 => go0 _ (if_pos q) σ₂ (M2.trans M1.k), fun q => h0 (congrArg Mv.next (if_neg q)) _ M1.drop⟩))
  | set i =>
    cases ms with
    | nil => exact absurd rfl (hr.ms rfl)
    | cons b r => exact q_inT (ss := ["name", "set", "gain"]) (m_match M mt_Match_ended (by kernel_rfl!) (v_ended_set ok M hs hll (fun q σ₁ M1 => h0 (congrArg Mv.next (if_pos q)) _ M1.drop) fun q σ₁ M1 => a_wpc M1.m fun σ₂ M2 => go _ _ (if_neg (by rw [q]; decide)) σ₂ (M2.trans M1.k)))
  | place i =>
    exact q_inT (ss := ["name", "set", "gain"]) (g_mhost M (m_assign M (g_wat M (v_assign ok M hll (fun q => h0 (congrArg Mv.next (if_pos q)) _ here) fun q σ₁ M1 => a_wpc M1.m fun σ₂ M2 => go _ _ (if_neg (by rw [q]; decide)) σ₂ (M2.trans M1.k)))))
  | fail => exact q_inT (ss := ["name", "set", "gain"]) (m_match M mt_Match_other (by kernel_rfl!) (v_fn (d_ir0 d_Match_other ok rfl rfl rfl (h0 rfl _ here))))
end
end Mine

namespace Mine
/-- the machine's search -/
inductive Ex (os : List Od) (s : Str) (rs : List Str) : List Wy → LG → Option (Nat × NL) → LG → Nat → Prop
  | nil {l n} : Ex os s rs [] l none l n
  | done {w H l n} (e : os[w.pc]? = some .done) (h : H.length ≤ n) : Ex os s rs (w :: H) l (some (w.pos, w.nm.reverse)) l (n + 1)
  | die {w H l r l' n o} (a : Ready os s w o) (e : (mstepO s rs w o).next = none) (x : Ex os s rs H l r l' n) : Ex os s rs (w :: H) l r l' (n + 1)
  | go {w w' H l r l' n o ps pt} (a : Ready os s w o) (e : mstepO s rs w o = ⟨some w', ps, pt⟩) (x : Ex os s rs (w' :: (ps.reverse ++ H)) (l ++ pt.toList) r l' n) : Ex os s rs (w :: H) l r l' (n + 1)
/-- .. its first way -/
inductive ExT (os : List Od) (s : Str) (rs : List Str) (w : Wy) (H : List Wy) (l : LG) (r : Option (Nat × NL)) (l' : LG) (o : Od) (n : Nat) : Prop
  | die (e : (mstepO s rs w o).next = none) (x : Ex os s rs H l r l' n) : ExT os s rs w H l r l' o n
  | go {w' ps pt} (e : mstepO s rs w o = ⟨some w', ps, pt⟩) (x : Ex os s rs (w' :: (ps.reverse ++ H)) (l ++ pt.toList) r l' n) : ExT os s rs w H l r l' o n
inductive ExV (os : List Od) (s : Str) (rs : List Str) (w : Wy) (H : List Wy) (l : LG) (r : Option (Nat × NL)) (l' : LG) : Nat → Prop
  | done {n} (e : os[w.pc]? = some .done) (hr : r = some (w.pos, w.nm.reverse)) (hl : l' = l) : ExV os s rs w H l r l' (n + 1)
  | turn {n o} (a : Ready os s w o) (t : ExT os s rs w H l r l' o n) : ExV os s rs w H l r l' (n + 1)
section
variable {os : List Od} {s : Str} {rs : List Str} {w : Wy} {Hw ws : List Wy} {l l' : LG} {r : Option (Nat × NL)} {m : Nat}
theorem Ex.inv (h : Ex os s rs (w :: Hw) l r l' m) : ExV os s rs w Hw l r l' m := by
  cases h with
  | done e h => exact .done e rfl rfl
  | die a e x => exact .turn a (.die e x)
  | go a e x => exact .turn a (.go e x)
theorem Ex.inv0 (h : Ex os s rs [] l r l' m) : r = none ∧ l' = l := by
  cases h with | nil => exact ⟨rfl, rfl⟩
theorem Ex.len (h : Ex os s rs ws l r l' m) : ws.length ≤ m := by
  induction h with
  | nil => exact Nat.zero_le _
  | done e h => exact Nat.succ_le_succ h
  | die a e x ih => exact Nat.succ_le_succ ih
  | go a e x ih =>
    rw [List.length_cons, List.length_append] at ih
    exact Nat.succ_le_succ (Nat.le_trans (Nat.le_trans (Nat.le_add_left _ _) (Nat.le_succ _)) ih)
end
section
variable {g : GE} {d : Nat} {σ σ' : Sto} {k : V → Sto → Prop} {K : V → Prop} {c : Cn} {n n' : Int} {lg lg' : LG} {W W' H H' : WL} {a dw : Addr} {w : Wy} {o : Od}
theorem v_way_back (ok : TOk g TBL) (M : MS c σ n lg [] H) (hb : H.length + 1000 ≤ big) (h0 : H = [] → k .none σ) (h1 : ∀ H' p, H = H' ++ [p] → ∀ σ', MK c σ n lg [p] H' σ' → k (.ref p.1) σ') : VC g TBL (d + 1) (.fn F_Match_way_back) [.ref c.m] σ k := by
  refine v_fn (d_ir0 d_Match_way_back ok rfl rfl rfl (g_hist M (v_lenMb (f := fun p : Addr × Addr × Wy => V.ref p.1) M.h (Nat.le_trans (Nat.le_add_right _ _) hb) (brD (fun hp => ?_) fun hp => h0 (nil_of hp)))))
  obtain ⟨H', p, e⟩ := snoc_of hp
  subst e
  exact g_hist M (m_popMb (f := fun p : Addr × Addr × Wy => V.ref p.1) M.h (Nat.lt_of_lt_of_le (by rw [List.length_append]; exact Nat.lt_succ_self _) (Nat.le_trans (Nat.le_add_right _ 1000) hb)) (h1 H' p rfl _ M.pop))
theorem MS.first (M : MS c σ n lg [] []) {y dy : Addr} (hy : σ y = none) (hdy : σ dy = none) (hne : y ≠ dy) (w : Wy) : MK c σ n lg [(y, dy, w)] [] (upd (upd σ dy (.dict (wyD c.R c.oA w))) y (.inst "Way" dy)) := by
  have mv : ∀ b x, σ b = some x → upd (upd σ dy (.dict (wyD c.R c.oA w))) y (.inst "Way" dy) b = some x := fun b x e => upd_old (upd_old e hdy) ((upd_ne hne).trans hy)
  refine M.over (fun b x _ e => mv b x e) (mv _ _ M.h) ⟨fun p hp => ?_, List.nodup_cons.mpr ⟨List.not_mem_nil, .nil⟩⟩
  cases hp with
  | head => exact ⟨upd_eq, upd_ne' upd_eq hne.symm⟩
  | tail _ hp => cases hp
theorem ord_ne (h : o ≠ .done) : ¬ ordS o = ("done" : Str) := fun q => by
  have e := onum_of (j := 10) q rfl
  cases o with
  | done => exact h rfl
  | _ => exact num_no e rfl
theorem ords_na : ∀ i, i < 12 → (ordAt i == "abort") = false := by decide +kernel
theorem ord_na : ¬ ordS o = ("abort" : Str) := beq_eq_false_iff_ne.mp (ords_na _ o.num_lt)
/-- how far a run has come: its steps, its log -/
structure Bd (n n' : Int) (b m L L' : Nat) : Prop where
  z : 0 ≤ n'
  s : n' + m ≤ n + b
  l : L' + m ≤ L + b
theorem Bd.next {b m L L' q : Nat} (h : Bd n n' b (m + 1) L L') (hq : q ≤ 1) : Bd n (n' + 1) b m L (L' + q) := ⟨Int.le_trans h.z (Int.le_add_of_nonneg_right (by decide)), by
  have := h.s
  rw [Int.add_assoc, Int.add_comm 1]; exact this, Nat.le_trans (by rw [Nat.add_right_comm]; exact Nat.add_le_add_left hq _) h.l⟩
inductive MRunJ (c : Cn) (σ : Sto) (n : Int) (b L i : Nat) (r : Option (Nat × NL)) (lg' : LG) (m : Nat) : Lo → Sto → Prop
  | none {n' : Int} {lg : LG} {ov : Option V} {σ' : Sto} (M : MK c σ n' lg [] [] σ') (hx : Ex c.os c.s c.rs [] lg r lg' m) (bd : Bd n n' b m L lg.length) : MRunJ c σ n b L i r lg' m [some (.ref c.m), some (.ref c.oA), some (.int i), some .none, ov] σ'
  | some {n' : Int} {lg : LG} {ov : Option V} {σ' : Sto} {a dw : Addr} {w : Wy} {H : WL} (M : MK c σ n' lg [(a, dw, w)] H σ') (hx : Ex c.os c.s c.rs (w :: (H.map (·.2.2)).reverse) lg r lg' m) (bd : Bd n n' b m L lg.length) : MRunJ c σ n b L i r lg' m [some (.ref c.m), some (.ref c.oA), some (.int i), some (.ref a), ov] σ'
theorem v_run (ok : TOk g TBL) {i b : Nat} {r : Option (Nat × NL)} (M : MS c σ n lg [] []) (hs : c.s.length ≤ 1000) (hx : Ex c.os c.s c.rs [⟨0, i, [], []⟩] lg r lg' b) (h0 : 0 ≤ n) (hn : n + b < c.lim) (hl : lg.length + b + 1000 ≤ big)
    (hos : c.os.length ≤ 100000) (ho : ∀ x, Od.one x ∈ c.os → x.wt ≤ 1000 ∧ (singles.any (· == kindS x)) = true)
    (hk0 : r = none → ∀ σ' n', MK c σ n' lg' [] [] σ' → Bd n n' b 0 lg.length lg'.length → k (.tup [.int 1, .none]) σ')
    (hk1 : ∀ w, r = some (w.pos, w.nm.reverse) → ∀ σ' n' H a dw, MK c σ n' lg' [(a, dw, w)] H σ' → Bd n n' b 0 lg.length lg'.length → k (.tup [.int 0, .ref a]) σ') :
    VC g TBL (d + 9) (.fn F_Match_run) [.ref c.m, .ref c.oA, .int i] σ k := by
  have fin : ∀ {n' : Int} {m : Nat}, Bd n n' b m lg.length lg'.length → Bd n n' b 0 lg.length lg'.length := fun h => ⟨h.z, Int.le_trans (Int.add_le_add_left (Int.ofNat_le.mpr (Nat.zero_le _)) _) h.s, Nat.le_trans (Nat.le_add_right _ _) h.l⟩
  refine v_fn (d_ir0 d_Match_run ok rfl rfl rfl (v_way ok fun y dy hy hdy hne => ?_))
  refine l_while (MRunJ c σ n b lg.length i r lg') (m := b) (MRunJ.some (w := ⟨0, i, [], []⟩) (H := []) (M.first hy hdy hne ⟨0, i, [], []⟩) hx ⟨h0, Int.le_refl _, Nat.le_refl _⟩) fun m ρ' σ₁ j N nx => ?_
  induction j with
  | none M1 hx1 bd =>
    refine q_isN rfl ?_
    obtain ⟨e1, e2⟩ := hx1.inv0
    subst e2
    exact hk0 e1 _ _ M1 (fin bd)
  | @some n₁ lg₁ ov σ₁ a dw w H M1 hx1 bd =>
    have hlen := hx1.len
    have hv := hx1.inv
    have hlt : n₁ < c.lim := Int.lt_of_le_of_lt (Int.le_trans (Int.le_add_of_nonneg_right (Int.natCast_nonneg m)) bd.s) hn
    refine q_isN rfl (g_mhost M1.m (m_step M1.m (v_step ok M1.m hlt fun σ₂ M2 => g_wos M2.m (g_wpc M2.m ?_))))
    have hoo := M2.m.st _ _ .oA
    have M2 := M2.trans M1.k
    have at_ : ∀ {o : Od}, c.os[w.pc]? = some o → w.pc < 2 ^ 62 := fun e => Nat.lt_of_lt_of_le (List.getElem?_eq_some_iff.mp e).1 (Nat.le_trans hos (by decide))
    cases hv with
    | done e hr hl =>
      subst hl
      exact u_listM hoo (at_ e) e (g_wca M2.m (q_is rfl (hk1 w hr _ _ H a dw M2 (fin (bd.next (q := 0) (Nat.zero_le _))))))
    | @turn m o a' t =>
    rw [List.length_cons, List.length_reverse, List.length_map] at hlen
    have hlen := Nat.le_of_succ_le_succ hlen
    have hbL := bd.l
    have hH : H.length + 1000 ≤ big := Nat.le_trans (Nat.add_le_add_right (Nat.le_trans hlen (Nat.le_trans (Nat.le_trans (Nat.le_succ _) (Nat.le_add_left _ _)) hbL)) _) hl
    have hll : lg₁.length ≤ big := Nat.le_trans (Nat.le_trans (Nat.le_add_right _ _) hbL) (Nat.le_trans (Nat.le_add_right _ _) hl)
    refine u_listM hoo (at_ a'.at_) a'.at_ (su_od0 a'.notHole (brX (ord_ne a'.notDone) (su_od0 a'.notHole (brX ord_na (m_match M2.m mt_Match_done (by kernel_rfl!) (v_done ok M2.m hH hs hll a' (fun x q => ho x (q ▸ List.mem_of_getElem? a'.at_)) (fun e σ₃ M3 => ?_) fun w' ps pt e σ₃ ys M3 ey => ?_))))))
    · have M3 := M3.trans M2.k
      cases t with
      | go e' _ => rw [e'] at e; cases e
      | die _ x =>
      refine m_match M3.m mt_Match_way_back (by kernel_rfl!) (v_way_back ok M3.m hH (fun eH => ?_) fun H' p eH σ₄ M4 => ?_)
      · subst eH
        exact q_isN rfl (nx _ _ _ (MRunJ.none M3 x (bd.next (q := 0) (Nat.zero_le _))) (Nat.lt_succ_self _))
      · subst eH
        rw [List.map_append, List.reverse_append] at x
        exact q_isN rfl (g_wos M4.m (q_is rfl (nx _ _ _ (MRunJ.some (M4.trans M3.k) x (bd.next (q := 0) (Nat.zero_le _))) (Nat.lt_succ_self _))))
    · cases t with
      | die e' _ => rw [e] at e'; cases e'
      | @go w₂ ps₂ pt₂ e' x =>
      have e := e'.symm.trans e
      cases (show some w₂ = some w' from congrArg Mv.next e)
      cases (show ps₂ = ps from congrArg Mv.push e)
      cases (show pt₂ = pt from congrArg Mv.put e)
      have hq : pt.toList.length ≤ 1 := by
        cases pt with
        | none => exact Nat.zero_le _
        | some _ => exact Nat.le_refl _
      exact nx _ _ _ (MRunJ.some (M3.trans M2.k) (by rw [List.map_append, List.reverse_append, ey]; exact x) (by rw [List.length_append]; exact bd.next hq)) (Nat.lt_succ_self _)
end
end Mine

namespace Mine

/-! ## the trials, in plain Lean -/
abbrev Res := Option (Nat × NL) × LG
abbrev KT := Nat → NL → LG → Res
noncomputable section
noncomputable def orX (x : Option (Nat × NL)) (l : LG) (f : LG → Res) : Res := match x with
  | some p => (some p, l)
  | none => f l
noncomputable def orE (r : Res) (f : LG → Res) : Res := orX r.1 r.2 f
noncomputable def noR : KT := fun _ _ l => (none, l)
noncomputable def altK (A B : KT) : KT := fun i nm l => orE (A i nm l) (B i nm)
noncomputable def moreK (i : Nat) (M : KT) : KT := fun e t l => if i < e then M e t l else (none, l)
noncomputable def moreS (T : KT → KT) (K M : KT) : KT := fun i nm l => orE (K i nm l) (T (moreK i M) i nm)
noncomputable def moreF (T : KT → KT) (K : KT) (n : Nat) : KT := Nat.rec noR (fun _ => moreS T K) n
noncomputable def arbF (K : KT) (nm : NL) : List Nat → LG → Res
  | [], l => (none, l)
  | e :: r, l => orE (K e nm l) (arbF K nm r)
noncomputable def laterK (s : Str) (k i : Nat) (K : KT) : KT := fun e t l => K e (t ++ [(k, txt s i e)]) l
noncomputable def nowK (s : Str) (rs : List Str) (k i : Nat) (K : KT) : KT := fun e t l => if noS rs k = true then (none, l) else K e t (l ++ [(k, .str (txt s i e))])
noncomputable def curK (rs : List Str) (k : Nat) (K : KT) : KT := fun i nm l => if noS rs k = true then (none, l) else K i nm (l ++ [(k, .int i)])
noncomputable def oneK (K : KT) (nm : NL) (l : LG) : Option Nat → Res
  | some e => K e nm l
  | none => (none, l)
noncomputable def tr (s : Str) (rs : List Str) : Nd → KT → KT
  | .arb, K => fun i nm l => arbF K nm (List.range' i (s.length + 1 - i)) l
  | .fail, _ => noR
  | .cur k, K => curK rs k K
  | .later a k, K => fun i nm l => tr s rs a (laterK s k i K) i nm l
  | .now a k, K => fun i nm l => tr s rs a (nowK s rs k i K) i nm l
  | .cat a b, K => tr s rs a (tr s rs b K)
  | .alt a b, K => altK (tr s rs a K) (tr s rs b K)
  | .arbno a, K => fun i nm l => moreF (tr s rs a) K (s.length + 1 - i) i nm l
  | n, K => fun i nm l => oneK K nm l (pend s n i)
noncomputable def trR (s : Str) (rs : List Str) : List Nd → KT → KT
  | [], K => K
  | x :: r, K => tr s rs x (trR s rs r K)
noncomputable def trO (s : Str) (rs : List Str) (K : KT) : List Nd → KT
  | [] => noR
  | x :: r => altK (tr s rs x K) (trO s rs K r)
end
section
variable {s : Str} {rs : List Str} {K : KT}
theorem orX_assoc {x : Option (Nat × NL)} {l : LG} {f h : LG → Res} : orE (orX x l f) h = orX x l fun l => orE (f l) h := by cases x <;> rfl
theorem altK_assoc {A B C : KT} : altK (altK A B) C = altK A (altK B C) := funext fun i => funext fun nm => funext fun l => orX_assoc
theorem orX_none {x : Option (Nat × NL)} {l : LG} : orX x l (fun l => (none, l)) = (x, l) := by cases x <;> rfl
theorem altK_none {A : KT} : altK A noR = A := funext fun i => funext fun nm => funext fun l => orX_none
theorem trR_append {l m : List Nd} : trR s rs (l ++ m) K = trR s rs l (trR s rs m K) := by
  induction l with
  | nil => rfl
  | cons x r ih => exact congrArg (tr s rs x) ih
theorem trR_rowC {n : Nd} : trR s rs (rowC n) K = tr s rs n K := by
  refine Nd.rec (motive := fun n => ∀ K, trR s rs (rowC n) K = tr s rs n K) (fun _ _ => rfl) (fun _ _ => rfl) (fun _ _ => rfl) (fun _ _ => rfl) (fun _ _ => rfl) (fun _ => rfl) (fun _ => rfl) (fun _ => rfl) (fun _ _ => rfl) (fun _ _ _ => rfl) (fun _ _ _ _ => rfl) (fun _ _ _ _ => rfl) (fun a b x y K => ?_) (fun _ _ _ _ _ => rfl) n K
  exact (trR_append (l := rowC a) (m := rowC b)).trans ((x _).trans (congrArg (tr s rs a) (y K)))
theorem trO_append {l m : List Nd} : trO s rs K (l ++ m) = altK (trO s rs K l) (trO s rs K m) := by
  induction l with
  | nil => rfl
  | cons x r ih => exact (congrArg (altK _) ih).trans altK_assoc.symm
theorem trO_one {n : Nd} : trO s rs K [n] = tr s rs n K := altK_none
theorem trO_rowA {n : Nd} : trO s rs K (rowA n) = tr s rs n K := by
  refine Nd.rec (motive := fun n => trO s rs K (rowA n) = tr s rs n K) (fun _ => trO_one) (fun _ => trO_one) (fun _ => trO_one) (fun _ => trO_one) (fun _ => trO_one) trO_one trO_one trO_one (fun _ => trO_one) (fun _ _ => trO_one) (fun _ _ _ => trO_one) (fun _ _ _ => trO_one) (fun _ _ _ _ => trO_one) (fun a b x y => ?_) n
  exact (trO_append (l := rowA a) (m := rowA b)).trans ((congrArg (altK · _) x).trans (congrArg (altK _) y))

/-! ### texts side by side -/
theorem sl_append (a b : Str) : sl (a ++ b) = sl a ++ sl b := Array.toList_append
theorem take_eq {α : Type} {l a b : List α} : l.take (a.length + b.length) = a ++ b ↔ (l.take a.length = a ∧ (l.drop a.length).take b.length = b) := by
  rw [List.take_add]
  refine ⟨fun h => ?_, fun h => by rw [h.1, h.2]⟩
  by_cases hc : a.length ≤ l.length
  · exact List.append_inj h (by rw [List.length_take, Nat.min_eq_left hc])
  · have hd : List.drop a.length l = [] := List.drop_eq_nil_of_le (Nat.le_of_not_le hc)
    rw [hd, List.take_nil, List.append_nil] at h
    have hl := congrArg List.length h
    rw [List.length_take, List.length_append] at hl
    exact absurd (Nat.le_trans (Nat.le_add_right _ b.length) (Nat.le_trans (Nat.le_of_eq hl.symm) (Nat.min_le_right _ _))) hc
theorem pend_cat (t u : Str) (i : Nat) : pend s (.chars (t ++ u)) i = (pend s (.chars t) i).bind (pend s (.chars u)) := by
  show (if ((sl s).drop i).take (t ++ u).length = sl (t ++ u) then some (i + (t ++ u).length) else none) = Option.bind (if ((sl s).drop i).take t.length = sl t then some (i + t.length) else none) (pend s (.chars u))
  rw [sl_append, Str.length_append, ← sl_len, ← sl_len]
  by_cases h1 : ((sl s).drop i).take (sl t).length = sl t
  · rw [if_pos h1, Option.bind_some]
    show _ = if ((sl s).drop (i + (sl t).length)).take u.length = sl u then some (i + (sl t).length + u.length) else none
    rw [← sl_len u, ← List.drop_drop]
    by_cases h2 : (((sl s).drop i).drop (sl t).length).take (sl u).length = sl u
    · rw [if_pos h2, if_pos (take_eq.mpr ⟨h1, h2⟩), Nat.add_assoc]
    · rw [if_neg h2, if_neg fun h => h2 (take_eq.mp h).2]
  · rw [if_neg h1, if_neg fun h => h1 (take_eq.mp h).1]; rfl
theorem tr_nil {t : Str} (h : t = Str.empty) : tr s rs (.chars t) K = K := by subst h; rfl
theorem oneK_bind {nm : NL} {l : LG} {x : Option Nat} {f : Nat → Option Nat} : oneK K nm l (x.bind f) = oneK (fun i nm l => oneK K nm l (f i)) nm l x := by cases x <;> rfl
theorem tr_cat {t u : Str} : tr s rs (.chars (t ++ u)) K = tr s rs (.chars t) (tr s rs (.chars u) K) := funext fun i => funext fun nm => funext fun l => (congrArg (oneK K nm l) (pend_cat t u i)).trans oneK_bind
theorem trR_join1 {acc : List Nd} {p : Nd} : trR s rs (joinStep acc p) K = trR s rs (acc ++ [p]) K := by
  cases hp : chOf p with
  | none => rw [joinStep_put acc hp]
  | some u =>
    cases chOf_of hp
    by_cases h : u = Str.empty
    · rw [joinStep_no acc h, trR_append]
      exact congrArg (trR s rs acc) (tr_nil h).symm
    · rcases List.eq_nil_or_concat acc with e | ⟨F, q, e⟩
      · subst e; rw [joinStep_one h]; rfl
      · rw [List.concat_eq_append] at e
        subst e
        cases hq : chOf q with
        | none => rw [joinStep_new F h hq]
        | some t =>
          cases chOf_of hq
          rw [joinStep_add F t h, List.append_assoc, trR_append, trR_append]
          exact congrArg (trR s rs F) tr_cat
theorem trR_joined {l : List Nd} : trR s rs (joined l) K = trR s rs l K := by
  have key : ∀ acc : List Nd, trR s rs (l.foldl joinStep acc) K = trR s rs (acc ++ l) K := by
    induction l with
    | nil => intro acc; rw [List.append_nil]; rfl
    | cons x l ih => intro acc; exact (ih _).trans (by rw [trR_append, trR_join1, ← trR_append, List.append_assoc]; rfl)
  exact key []
end
end Mine

namespace Mine

/-! ## the machine's search -/
section
variable {os raw : List Od} {s : Str} {rs : List Str} {ws vs : List Wy} {l l' l₁ : LG} {r : Option (Nat × NL)} {n m b b' b₁ b₂ : Nat} {res r₁ : Res} {w w' : Wy} {o : Od}
theorem succ_of {n m : Nat} (h : n + 1 ≤ m) : ∃ k, m = k + 1 ∧ n ≤ k := by
  cases m with
  | zero => cases h
  | succ k => exact ⟨k, rfl, Nat.le_of_succ_le_succ h⟩
theorem Ex.mono (h : Ex os s rs ws l r l' n) (hm : n ≤ m) : Ex os s rs ws l r l' m := by
  induction h generalizing m with
  | nil => exact .nil
  | done e hl => obtain ⟨k, e', h⟩ := succ_of hm; subst e'; exact .done e (Nat.le_trans hl h)
  | die a b c ih => obtain ⟨k, e', h⟩ := succ_of hm; subst e'; exact .die a b (ih h)
  | go a b c ih => obtain ⟨k, e', h⟩ := succ_of hm; subst e'; exact .go a b (ih h)
/-- how it may go on behind a result -/
inductive FinR (os : List Od) (s : Str) (rs : List Str) (H : List Wy) (n : Nat) : Res → Option (Nat × NL) → LG → Prop
  | none {l : LG} {r : Option (Nat × NL)} {l' : LG} (x : Ex os s rs H l r l' n) : FinR os s rs H n (none, l) r l'
  | some {p : Nat × NL} {l : LG} (h : H.length ≤ n) : FinR os s rs H n (some p, l) (some p) l
/-- the ways ws, one behind the other, come to res -/
noncomputable def RunsL (os : List Od) (s : Str) (rs : List Str) (ws : List Wy) (l : LG) (res : Res) (b : Nat) : Prop := ∀ H n r l', FinR os s rs H n res r l' → Ex os s rs (ws ++ H) l r l' (b + n)
theorem RunsL.mono (h : RunsL os s rs ws l res b) (hb : b ≤ b') : RunsL os s rs ws l res b' := fun H n r l' f => (h H n r l' f).mono (Nat.add_le_add_right hb n)
theorem fin_of (res : Res) : ∃ r l', FinR os s rs [] 0 res r l' := by
  obtain ⟨x, l⟩ := res
  cases x with
  | none => exact ⟨_, _, .none .nil⟩
  | some p => exact ⟨_, _, .some (Nat.le_refl _)⟩
theorem RunsL.len (h : RunsL os s rs ws l res b) : ws.length ≤ b := by
  obtain ⟨r, l', f⟩ := fin_of res
  have := (h _ _ _ _ f).len
  rw [List.append_nil] at this
  exact this
theorem RunsL.nil : RunsL os s rs [] l (none, l) 0 := fun H n r l' f => by
  cases f with | none x => rw [Nat.zero_add]; exact x
theorem RunsL.append {f : LG → Res} (h₁ : RunsL os s rs ws l r₁ b₁) (h₂ : ∀ l, RunsL os s rs vs l (f l) b₂) : RunsL os s rs (ws ++ vs) l (orE r₁ f) (b₁ + b₂) := fun H n r l' q => by
  rw [List.append_assoc, Nat.add_assoc]
  refine h₁ (vs ++ H) (b₂ + n) r l' ?_
  obtain ⟨x, l₁⟩ := r₁
  cases x with
  | none => exact .none (h₂ l₁ H n r l' q)
  | some p =>
    have q : FinR os s rs H n (some p, l₁) r l' := q
    have hv := (h₂ l₁).len
    cases q with | some h => exact .some (by rw [List.length_append]; exact Nat.add_le_add hv h)
theorem RunsL.go {ps : List Wy} {pt : Option (Nat × V)} (a : Ready os s w o) (e : mstepO s rs w o = ⟨some w', ps, pt⟩) (h : RunsL os s rs (w' :: ps.reverse) (l ++ pt.toList) res b) : RunsL os s rs [w] l res (b + 1) := fun H n r l' q => by
  rw [Nat.add_right_comm]; exact .go a e (h H n r l' q)
theorem RunsL.go0 (a : Ready os s w o) (e : mstepO s rs w o = goM w') (h : RunsL os s rs [w'] l res b) : RunsL os s rs [w] l res (b + 1) := RunsL.go a e (by rw [show l ++ Option.toList none = l from List.append_nil l]; exact h)
theorem RunsL.die (a : Ready os s w o) (e : (mstepO s rs w o).next = none) : RunsL os s rs [w] l (none, l) 1 := fun H n r l' q => by
  cases q with | none x => rw [Nat.add_comm]; exact .die a e x
theorem RunsL.end (h : os[w.pc]? = some .done) : RunsL os s rs [w] l (some (w.pos, w.nm.reverse), l) 1 := fun H n r l' q => by
  cases q with | some x => rw [Nat.add_comm]; exact .done h x

/-! ### jumps -/
theorem thread_more {F g : Nat} (h : lands os F g) : thread os (F + 1) g = thread os F g := by
  induction F generalizing g with
  | zero =>
    show thrS (thread os 0) g os[g]? = g
    cases e : os[g]? with
    | none => rfl
    | some o => cases o with
      | jump v => exact absurd e (h v)
      | _ => rfl
  | succ F ih =>
    show thrS (thread os (F + 1)) g os[g]? = thrS (thread os F) g os[g]?
    cases e : os[g]? with
    | none => rfl
    | some o => cases o with
      | jump v => exact ih (h v e)
      | _ => rfl
noncomputable def th (raw : List Od) (g : Nat) : Nat := thread raw raw.length g
theorem th_split {g v : Nat} (e : raw[g]? = some (.split v)) : th raw g = g := thread_stop e fun q => num_no (onum_of (j := 3) q rfl) rfl
theorem th_jump (hj : JumpOk raw) {g h : Nat} (e : raw[g]? = some (.jump h)) : th raw g = th raw h := by
  obtain ⟨F, hF⟩ : ∃ F, raw.length = F + 1 := ⟨_, (Nat.succ_pred_eq_of_pos (Nat.lt_of_le_of_lt (Nat.zero_le _) (List.getElem?_eq_some_iff.mp e).1)).symm⟩
  unfold th
  rw [hF, thread_jump e]
  refine (thread_more ?_).symm
  rcases (hj.jump g h e).2 with z | ⟨w, z⟩
  · exact lands_all hj (by rw [hF, Nat.add_comm]; exact Nat.add_le_add_right (Nat.le_trans (Nat.succ_le_succ (Nat.zero_le g)) z) F)
  · exact lands_split z
theorem straight_at {i : Nat} (h : raw[i]? = some o) : (straight raw)[i]? = some (strO (th raw) o) := by
  unfold straight
  rw [List.getElem?_map, h]; rfl
theorem RunsL.thread {g i : Nat} {t : NL} {ms : List Nat} (hj : JumpOk raw) (h : RunsL (straight raw) s rs [⟨g, i, t, ms⟩] l res b) : RunsL (straight raw) s rs [⟨th raw g, i, t, ms⟩] l res b := by
  have stop : th raw g = g → RunsL (straight raw) s rs [⟨th raw g, i, t, ms⟩] l res b := fun e => by rw [e]; exact h
  cases e : raw[g]? with
  | none => exact stop (by
      unfold th
      cases raw.length with
      | zero => rfl
      | succ F => show thrS (Mine.thread raw F) g raw[g]? = g; rw [e]; rfl)
  | some o => cases o with
    | jump v =>
      have ho : (straight raw)[g]? = some (.jump (th raw v)) := straight_at e
      intro H n r l' q
      have hx := (h H n r l' q).inv
      generalize b + n = m at hx ⊢
      cases hx with
      | done q _ _ => exact num_no (congrArg Od.num (Option.some.inj (ho.symm.trans q))) rfl
      | turn a x =>
        have eo := Option.some.inj (ho.symm.trans a.at_)
        subst eo
        cases x with
        | die e' _ => cases e'
        | go e' z =>
          cases (congrArg Mv.next e' : some _ = some _)
          cases (congrArg Mv.push e' : [] = _)
          cases (congrArg Mv.put e' : none = _)
          rw [show l ++ Option.toList none = l from List.append_nil l] at z
          rw [th_jump hj e]
          exact Ex.mono z (Nat.le_succ _)
    | _ => exact stop (thread_stop e fun q => num_no (onum_of (j := 3) q rfl) rfl)

/-! ### a part of the code -/
noncomputable def Emb (raw : List Od) (p : Nat) (c : List Od) : Prop := ∀ (k : Nat) (o : Od), c[k]? = some o → raw[p + k]? = some o
theorem Emb.left {p : Nat} {c d : List Od} (h : Emb raw p (c ++ d)) : Emb raw p c := fun k o e => h k o (get_left e)
theorem Emb.right {p : Nat} {c d : List Od} (h : Emb raw p (c ++ d)) : Emb raw (p + c.length) d := fun k o e => by
  rw [Nat.add_assoc]
  exact h _ o (by rw [List.getElem?_append_right (Nat.le_add_right _ _), Nat.add_sub_cancel_left]; exact e)
theorem Emb.head {p : Nat} {c : List Od} (h : Emb raw p (o :: c)) : raw[p]? = some o := h 0 o rfl
theorem Emb.tail {p : Nat} {c : List Od} (h : Emb raw p (o :: c)) : Emb raw (p + 1) c := fun k q e => by
  rw [Nat.add_assoc, Nat.add_comm 1]; exact h (k + 1) q e
theorem pAny_le {t : Str} {i e : Nat} (h : pAny t i (sl s)[i]? = some e) (hi : i ≤ s.length) : i ≤ e ∧ e ≤ s.length := by
  cases q : (sl s)[i]? with
  | none => rw [q] at h; cases h
  | some c =>
    rw [q] at h
    have hl := (List.getElem?_eq_some_iff.mp q).1
    rw [sl_len] at hl
    by_cases hc : isIn t c = true
    · cases (show some (i + 1) = some e from (if_pos hc).symm.trans h)
      exact ⟨Nat.le_succ _, hl⟩
    · cases (show none = some e from (if_neg hc).symm.trans h)
theorem some_if {c : Prop} [Decidable c] {x : Option Nat} {e : Nat} (h : (if c then x else none) = some e) : c ∧ x = some e := by
  by_cases hc : c
  · rw [if_pos hc] at h; exact ⟨hc, h⟩
  · rw [if_neg hc] at h; cases h
theorem pend_le {n : Nd} {i e : Nat} (h : pend s n i = some e) (hi : i ≤ s.length) : i ≤ e ∧ e ≤ s.length := by
  cases n with
  | chars t =>
    obtain ⟨q, e'⟩ := some_if h
    cases e'
    have hl := congrArg List.length q
    rw [List.length_take, List.length_drop, sl_len, sl_len] at hl
    have h2 : t.length ≤ s.length - i := Nat.le_trans (Nat.le_of_eq hl.symm) (Nat.min_le_right _ _)
    exact ⟨Nat.le_add_right _ _, Nat.le_trans (Nat.add_le_add_left h2 i) (Nat.le_of_eq (Nat.add_sub_cancel' hi))⟩
  | len k =>
    obtain ⟨q, e'⟩ := some_if h
    cases e'
    exact ⟨Nat.le_add_right _ _, q⟩
  | tab k =>
    obtain ⟨q, h⟩ := some_if h
    obtain ⟨q2, e'⟩ := some_if h
    cases e'
    exact ⟨q, q2⟩
  | any t => exact pAny_le h hi
  | span t =>
    obtain ⟨q, e'⟩ := some_if h
    have hr := (runE_le t ((sl s).drop i) i).2
    rw [List.length_drop, sl_len, Nat.add_sub_cancel' hi] at hr
    have e := Option.some.inj e'
    exact ⟨Nat.le_of_lt (Nat.lt_of_lt_of_le q (Nat.le_of_eq e)), e ▸ hr⟩
  | rem => cases h; exact ⟨hi, Nat.le_refl _⟩
  | _ => cases h
end
end Mine

namespace Mine

/-! ## how many steps at most: by the signs still ahead -/
noncomputable section
noncomputable def dot (P B : Nat → Nat) (c : Nat) : Nat := Nat.rec (fun P => P 0 * B 0) (fun c ih P => P 0 * B (c + 1) + ih fun j => P (j + 1)) c P
noncomputable def pTab : List (List Nat) := [[1, 0, 0, 0, 0], [1, 1, 1, 1, 1], [2, 2, 3, 4, 8], [3, 4, 7, 24, 85], [4, 8, 23, 144, 918], [6, 14, 87, 1024, 12263], [9, 24, 283, 6204, 138076]]
noncomputable def qTab : List (List Nat) := [[0, 0, 0, 0, 0], [1, 1, 1, 1, 1], [5, 12, 26, 54, 110], [10, 41, 153, 546, 1944], [16, 119, 769, 4915, 31449], [25, 326, 3975, 47882, 576181], [40, 839, 18890, 422410, 9436214]]
noncomputable def pW (w k : Nat) : Nat := (((pTab[w]?).getD [])[k]?).getD 0
noncomputable def qW (w k : Nat) : Nat := (((qTab[w]?).getD [])[k]?).getD 0
noncomputable def lw (L w : Nat) (B : Nat → Nat) (i : Nat) : Nat := dot (pW w) (fun c => B (L - c)) (L - i) + qW w (L - i)
noncomputable def sumB (B : Nat → Nat) (l : List Nat) : Nat := (l.map B).sum
noncomputable def rTab : List (List Nat) := [[0, 0, 0, 0, 0], [1, 1, 2, 4, 8], [1, 2, 7, 24, 85], [1, 4, 23, 144, 918], [1, 8, 87, 1024, 12263], [1, 14, 283, 6204, 138076]]
noncomputable def sTab : List (List Nat) := [[0, 0, 0, 0, 0], [5, 12, 26, 54, 110], [10, 41, 153, 546, 1944], [16, 119, 769, 4915, 31449], [23, 326, 3975, 47882, 576181], [34, 839, 18890, 422410, 9436214]]
noncomputable def rW (w k : Nat) : Nat := (((rTab[w]?).getD [])[k]?).getD 0
noncomputable def sW (w k : Nat) : Nat := (((sTab[w]?).getD [])[k]?).getD 0
/-- .. of a repeat -/
noncomputable def lr (L w : Nat) (B : Nat → Nat) (i : Nat) : Nat := dot (rW w) (fun c => B (L - c)) (L - i) + sW w (L - i)
noncomputable def moreB (L w i : Nat) (B : Nat → Nat) : Nat → Nat := fun e => if i < e then lr L w B e + 2 else 1
end
section
variable {P P' B B' : Nat → Nat} {c a : Nat}
theorem dot_mono (h : ∀ j ≤ c, P j ≤ P' j) (h' : ∀ e ≤ c, B e ≤ B' e) : dot P B c ≤ dot P' B' c := by
  induction c generalizing P P' with
  | zero => exact Nat.mul_le_mul (h 0 (Nat.le_refl _)) (h' 0 (Nat.le_refl _))
  | succ c ih => exact Nat.add_le_add (Nat.mul_le_mul (h 0 (Nat.zero_le _)) (h' _ (Nat.le_refl _))) (ih (fun j hj => h _ (Nat.succ_le_succ hj)) fun e he => h' e (Nat.le_succ_of_le he))
theorem dot_addB : dot P (fun e => B e + B' e) c = dot P B c + dot P B' c := by
  induction c generalizing P with
  | zero => exact Nat.mul_add _ _ _
  | succ c ih =>
    show P 0 * (B (c + 1) + B' (c + 1)) + dot (fun j => P (j + 1)) (fun e => B e + B' e) c = (P 0 * B (c + 1) + dot (fun j => P (j + 1)) B c) + (P 0 * B' (c + 1) + dot (fun j => P (j + 1)) B' c)
    rw [ih, Nat.mul_add, Nat.add_add_add_comm]
theorem dot_addP : dot (fun j => P j + P' j) B c = dot P B c + dot P' B c := by
  induction c generalizing P P' with
  | zero => exact Nat.add_mul _ _ _
  | succ c ih =>
    show (P 0 + P' 0) * B (c + 1) + dot (fun j => P (j + 1) + P' (j + 1)) B c = (P 0 * B (c + 1) + dot _ B c) + (P' 0 * B (c + 1) + dot _ B c)
    rw [ih, Nat.add_mul, Nat.add_add_add_comm]
theorem dot_mulP : dot (fun j => a * P j) B c = a * dot P B c := by
  induction c generalizing P with
  | zero => exact Nat.mul_assoc _ _ _
  | succ c ih =>
    show a * P 0 * B (c + 1) + dot (fun j => a * P (j + 1)) B c = a * (P 0 * B (c + 1) + dot _ B c)
    rw [ih, Nat.mul_add, Nat.mul_assoc]
theorem dot_dot : dot P (dot P' B) c = dot (dot P P') B c := by
  induction c generalizing P with
  | zero => exact (Nat.mul_assoc _ _ _).symm
  | succ c ih =>
    show P 0 * (P' 0 * B (c + 1) + dot (fun j => P' (j + 1)) B c) + dot (fun j => P (j + 1)) (dot P' B) c = P 0 * P' 0 * B (c + 1) + dot (fun j => P 0 * P' (j + 1) + dot (fun j => P (j + 1)) P' j) B c
    rw [ih, dot_addP, dot_mulP, Nat.mul_add, Nat.mul_assoc, Nat.add_assoc]
end
/-- the numbers -/
theorem num_cat : ∀ w, w < 7 → ∀ u, u < 7 - w → ∀ k, k < 5 → dot (pW w) (pW u) k ≤ pW (w + u) k ∧ dot (pW w) (qW u) k + qW w k ≤ qW (w + u) k := by decide +kernel
theorem num_one : ∀ w, w < 6 → ∀ k, k < 5 → 0 < w → pW w k ≤ pW (w + 1) k ∧ dot (pW w) (fun _ => 1) k + qW w k + 1 ≤ qW (w + 1) k := by decide +kernel
theorem num_alt : ∀ w, w < 7 → ∀ u, u < 7 - w → ∀ k, k < 5 → (0 < w ∧ 0 < u) → pW w k + pW u k ≤ pW (w + u) k ∧ dot (pW w) (fun _ => 1) k + qW w k + qW u k + 1 ≤ qW (w + u) k := by decide +kernel
theorem num_more0 : ∀ w, w < 6 → 0 < w → rW w 0 = 1 ∧ pW w 0 + qW w 0 + 3 ≤ sW w 0 := by decide +kernel
theorem num_more : ∀ w, w < 6 → ∀ k, k < 4 → 0 < w → dot (fun j => pW w (j + 1)) (rW w) k ≤ rW w (k + 1) ∧ pW w 0 + dot (fun j => pW w (j + 1)) (fun e => sW w e + 2) k + qW w (k + 1) + 3 ≤ sW w (k + 1) := by decide +kernel
theorem num_moreW : ∀ w, w < 6 → ∀ k, k < 5 → rW w k ≤ pW (w + 1) k ∧ sW w k ≤ qW (w + 1) k := by decide +kernel
theorem num_weak : ∀ w, w < 7 → ∀ u, u < 7 - w → ∀ k, k < 5 → pW w k ≤ pW (w + u) k ∧ qW w k ≤ qW (w + u) k := by decide +kernel
theorem num_leaf : ∀ k, k < 5 → 1 ≤ pW 1 k ∧ 1 ≤ qW 1 k := by decide +kernel
section
variable {L w u i : Nat} {B B' : Nat → Nat} (hL : L ≤ 4)
theorem lw_mono (h : ∀ e ≤ L, B e ≤ B' e) : lw L w B i ≤ lw L w B' i := Nat.add_le_add_right (dot_mono (fun _ _ => Nat.le_refl _) fun e _ => h _ (Nat.sub_le _ _)) _
include hL
theorem lt5 {k : Nat} (h : k ≤ L - i) : k < 5 := Nat.lt_succ_of_le (Nat.le_trans h (Nat.le_trans (Nat.sub_le _ _) hL))
theorem lt7 {x y : Nat} (h : x + y ≤ 6) : x < 7 ∧ y < 7 - x := ⟨Nat.lt_succ_of_le (Nat.le_trans (Nat.le_add_right _ _) h), Nat.lt_sub_of_add_lt (by rw [Nat.add_comm]; exact Nat.lt_succ_of_le h)⟩
theorem lw_weak (h : w + u ≤ 6) : lw L w B i ≤ lw L (w + u) B i := by
  obtain ⟨h1, h2⟩ := lt7 hL h
  exact Nat.add_le_add (dot_mono (fun j hj => (num_weak w h1 u h2 j (lt5 hL hj)).1) fun _ _ => Nat.le_refl _) (num_weak w h1 u h2 _ (lt5 hL (Nat.le_refl _))).2
theorem lw_at {e : Nat} (he : e ≤ L) : lw L w B (L - e) = dot (pW w) (fun c => B (L - c)) e + qW w e := by
  unfold lw
  rw [Nat.sub_sub_self he]
theorem lw_cat (h : w + u ≤ 6) : lw L w (lw L u B) i ≤ lw L (w + u) B i := by
  obtain ⟨h1, h2⟩ := lt7 hL h
  refine Nat.le_trans (Nat.add_le_add_right (dot_mono (B' := fun e => dot (pW u) (fun c => B (L - c)) e + qW u e) (fun _ _ => Nat.le_refl _) fun e he => Nat.le_of_eq (lw_at hL (Nat.le_trans he (Nat.sub_le _ _)))) _) ?_
  rw [dot_addB, Nat.add_assoc]
  refine Nat.add_le_add ?_ (num_cat w h1 u h2 _ (lt5 hL (Nat.le_refl _))).2
  rw [show dot (pW w) (fun e => dot (pW u) (fun c => B (L - c)) e) (L - i) = _ from dot_dot]
  exact dot_mono (fun j hj => (num_cat w h1 u h2 j (lt5 hL hj)).1) fun _ _ => Nat.le_refl _
theorem lw_one (h : w + 1 ≤ 6) (h0 : 0 < w) : lw L w (fun e => B e + 1) i + 1 ≤ lw L (w + 1) B i := by
  have N := fun k hk => num_one w (Nat.lt_of_succ_le h) k hk h0
  show dot (pW w) (fun c => B (L - c) + 1) (L - i) + qW w (L - i) + 1 ≤ _
  rw [dot_addB (B' := fun _ => 1), Nat.add_assoc, Nat.add_assoc, ← Nat.add_assoc _ _ 1]
  exact Nat.add_le_add (dot_mono (fun j hj => (N j (lt5 hL hj)).1) fun _ _ => Nat.le_refl _) (N _ (lt5 hL (Nat.le_refl _))).2
theorem lw_alt (h : w + u ≤ 6) (h0 : 0 < w) (h0' : 0 < u) : lw L w (fun e => B e + 1) i + lw L u B i + 1 ≤ lw L (w + u) B i := by
  obtain ⟨h1, h2⟩ := lt7 hL h
  have N := fun k hk => num_alt w h1 u h2 k hk ⟨h0, h0'⟩
  show dot (pW w) (fun c => B (L - c) + 1) (L - i) + qW w (L - i) + (dot (pW u) (fun c => B (L - c)) (L - i) + qW u (L - i)) + 1 ≤ _
  have e : dot (pW w) (fun c => B (L - c) + 1) (L - i) + qW w (L - i) + (dot (pW u) (fun c => B (L - c)) (L - i) + qW u (L - i)) + 1 =
      dot (fun j => pW w j + pW u j) (fun c => B (L - c)) (L - i) + (dot (pW w) (fun _ => 1) (L - i) + qW w (L - i) + qW u (L - i) + 1) := by
    rw [dot_addB (B' := fun _ => 1), dot_addP]
    omega
  rw [e]
  exact Nat.add_le_add (dot_mono (fun j hj => (N j (lt5 hL hj)).1) fun _ _ => Nat.le_refl _) (N _ (lt5 hL (Nat.le_refl _))).2
theorem lr_at {e : Nat} (he : e ≤ L) : lr L w B (L - e) = dot (rW w) (fun c => B (L - c)) e + sW w e := by
  unfold lr
  rw [Nat.sub_sub_self he]
theorem lr_le (h : w + 1 ≤ 6) : lr L w B i ≤ lw L (w + 1) B i := Nat.add_le_add (dot_mono (fun j hj => (num_moreW w (Nat.lt_of_succ_le h) j (lt5 hL hj)).1) fun _ _ => Nat.le_refl _) (num_moreW w (Nat.lt_of_succ_le h) _ (lt5 hL (Nat.le_refl _))).2
theorem lw_more (h : w + 1 ≤ 6) (h0 : 0 < w) (hi : i ≤ L) : B i + 1 + (lw L w (moreB L w i B) i + 1) + 1 ≤ lr L w B i := by
  have hw := Nat.lt_of_succ_le h
  obtain ⟨c, hc⟩ : ∃ c, L - i = c := ⟨_, rfl⟩
  have ei : L - c = i := by rw [← hc]; exact Nat.sub_sub_self hi
  have here : moreB L w i B (L - c) = 1 := by rw [ei]; exact if_neg (Nat.lt_irrefl i)
  unfold lw lr
  rw [hc]
  cases c with
  | zero =>
    obtain ⟨n1, n2⟩ := num_more0 w hw h0
    show B i + 1 + (pW w 0 * moreB L w i B (L - 0) + qW w 0 + 1) + 1 ≤ rW w 0 * B (L - 0) + sW w 0
    rw [here, ei]
    rw [n1, Nat.one_mul]
    omega
  | succ c =>
    have hc4 : c < 4 := Nat.lt_of_succ_le (Nat.le_trans (Nat.le_of_eq hc.symm) (Nat.le_trans (Nat.sub_le _ _) hL))
    have N := num_more w hw c hc4 h0
    have hcL : c + 1 ≤ L := Nat.le_trans (Nat.le_of_eq hc.symm) (Nat.sub_le _ _)
    have n1 := (num_more0 w hw h0).1
    show B i + 1 + (pW w 0 * moreB L w i B (L - (c + 1)) + dot (fun j => pW w (j + 1)) (fun e => moreB L w i B (L - e)) c + qW w (c + 1) + 1) + 1 ≤ rW w 0 * B (L - (c + 1)) + dot (fun j => rW w (j + 1)) (fun e => B (L - e)) c + sW w (c + 1)
    rw [here, ei]
    have rest : dot (fun j => pW w (j + 1)) (fun e => moreB L w i B (L - e)) c ≤ dot (fun j => rW w (j + 1)) (fun e => B (L - e)) c + dot (fun j => pW w (j + 1)) (fun e => sW w e + 2) c := by
      refine Nat.le_trans (dot_mono (B' := fun e => dot (rW w) (fun c => B (L - c)) e + (sW w e + 2)) (fun _ _ => Nat.le_refl _) fun e he => ?_) ?_
      · have hlt : i < L - e := ei ▸ Nat.sub_lt_sub_left (Nat.lt_of_lt_of_le (Nat.lt_succ_of_le he) hcL) (Nat.lt_succ_of_le he)
        show (if i < L - e then lr L w B (L - e) + 2 else 1) ≤ _
        rw [if_pos hlt, lr_at hL (Nat.le_trans (Nat.le_succ_of_le he) hcL)]
        exact Nat.le_of_eq (Nat.add_assoc _ _ _)
      · rw [dot_addB (B' := fun e => sW w e + 2)]
        refine Nat.add_le_add_right ?_ _
        rw [show dot (fun j => pW w (j + 1)) (fun e => dot (rW w) (fun c => B (L - c)) e) c = _ from dot_dot]
        exact dot_mono (fun j hj => (num_more w hw j (Nat.lt_of_le_of_lt hj hc4) h0).1) fun _ _ => Nat.le_refl _
    rw [n1, Nat.one_mul]
    omega
theorem sum_rg {c : Nat} (h : c ≤ L) : sumB B (List.range' (L - c) (c + 1)) = dot (fun _ => 1) (fun e => B (L - e)) c := by
  induction c with
  | zero => show B (L - 0) + 0 = 1 * B (L - 0); rw [Nat.one_mul, Nat.add_zero]
  | succ c ih =>
    rw [List.range'_succ, show L - (c + 1) + 1 = L - c from Nat.succ_pred_eq_of_pos (Nat.sub_pos_of_lt h)]
    show B (L - (c + 1)) + sumB B (List.range' (L - c) (c + 1)) = 1 * B (L - (c + 1)) + dot (fun _ => 1) (fun e => B (L - e)) c
    rw [ih (Nat.le_of_succ_le h), Nat.one_mul]
theorem lw_leaf (hi : i ≤ L) : sumB B (List.range' i (L + 1 - i)) + 1 ≤ lw L 1 B i := by
  have e := sum_rg (B := B) hL (Nat.sub_le L i)
  rw [Nat.sub_sub_self hi] at e
  rw [Nat.succ_sub hi, show sumB B (List.range' i (L - i).succ) = _ from e]
  exact Nat.add_le_add (dot_mono (fun j hj => (num_leaf j (lt5 hL hj)).1) fun _ _ => Nat.le_refl _) (num_leaf _ (lt5 hL (Nat.le_refl _))).2
omit hL in
theorem sumB_mem {l : List Nat} {e : Nat} (h : e ∈ l) : B e ≤ sumB B l := mem_sum h
omit hL in
theorem mem_rg {e : Nat} (hi : i ≤ L) : e ∈ List.range' i (L + 1 - i) ↔ i ≤ e ∧ e ≤ L := by
  rw [List.mem_range'_1, Nat.add_sub_cancel' (Nat.le_succ_of_le hi), Nat.lt_succ_iff]
theorem lw_at1 {e : Nat} (hi : i ≤ e) (he : e ≤ L) : B e + 1 ≤ lw L 1 B i := Nat.le_trans (Nat.succ_le_succ (sumB_mem ((mem_rg (Nat.le_trans hi he)).mpr ⟨hi, he⟩))) (lw_leaf hL (Nat.le_trans hi he))
end
end Mine

namespace Mine

/-! ## the code does what the trials do -/
noncomputable def Nd.w : Nd → Nat
  | .arbno a => a.w + 1
  | .later a _ => a.w + 1
  | .now a _ => a.w + 1
  | .cat a b => a.w + b.w
  | .alt a b => a.w + b.w
  | _ => 1
theorem Nd.w_pos (n : Nd) : 0 < n.w := by
  refine Nd.rec (motive := fun n => 0 < n.w) (fun _ => Nat.one_pos) (fun _ => Nat.one_pos) (fun _ => Nat.one_pos) (fun _ => Nat.one_pos) (fun _ => Nat.one_pos) Nat.one_pos Nat.one_pos Nat.one_pos (fun _ => Nat.one_pos) (fun _ _ => Nat.succ_pos _) (fun _ _ _ => Nat.succ_pos _) (fun _ _ _ => Nat.succ_pos _) (fun a b x y => Nat.lt_of_lt_of_le x (Nat.le_add_right _ _)) (fun a b x y => Nat.lt_of_lt_of_le x (Nat.le_add_right _ _)) n
noncomputable def Wl (l : List Nd) : Nat := (l.map Nd.w).sum
theorem mem_w {l : List Nd} {x : Nd} (h : x ∈ l) : x.w ≤ Wl l := mem_sum h
theorem Wl_app (l m : List Nd) : Wl (l ++ m) = Wl l + Wl m := by unfold Wl; rw [List.map_append, List.sum_append]
theorem Wl_rowC {n : Nd} : Wl (rowC n) = n.w := by
  refine Nd.rec (motive := fun n => Wl (rowC n) = n.w) (fun _ => rfl) (fun _ => rfl) (fun _ => rfl) (fun _ => rfl) (fun _ => rfl) rfl rfl rfl (fun _ => rfl) (fun _ _ => rfl) (fun _ _ _ => rfl) (fun _ _ _ => rfl) (fun a b x y => ?_) (fun _ _ _ _ => rfl) n
  exact (Wl_app (rowC a) (rowC b)).trans (by rw [x, y]; rfl)
theorem Wl_rowA {n : Nd} : Wl (rowA n) = n.w := by
  refine Nd.rec (motive := fun n => Wl (rowA n) = n.w) (fun _ => rfl) (fun _ => rfl) (fun _ => rfl) (fun _ => rfl) (fun _ => rfl) rfl rfl rfl (fun _ => rfl) (fun _ _ => rfl) (fun _ _ _ => rfl) (fun _ _ _ => rfl) (fun _ _ _ _ => rfl) (fun a b x y => ?_) n
  exact (Wl_app (rowA a) (rowA b)).trans (by rw [x, y]; rfl)
theorem Wl_join1 {acc : List Nd} {p : Nd} : Wl (joinStep acc p) ≤ Wl (acc ++ [p]) := by
  cases hp : chOf p with
  | none => rw [joinStep_put acc hp]; exact Nat.le_refl _
  | some u =>
    cases chOf_of hp
    by_cases h : u = Str.empty
    · rw [joinStep_no acc h, Wl_app]; exact Nat.le_add_right _ _
    · rcases List.eq_nil_or_concat acc with e | ⟨F, q, e⟩
      · subst e; rw [joinStep_one h]; exact Nat.le_refl _
      · rw [List.concat_eq_append] at e
        subst e
        cases hq : chOf q with
        | none => rw [joinStep_new F h hq]; exact Nat.le_refl _
        | some t =>
          cases chOf_of hq
          rw [joinStep_add F t h, Wl_app, Wl_app, Wl_app]
          exact Nat.le_add_right _ _
theorem Wl_joined {l : List Nd} : Wl (joined l) ≤ Wl l := by
  have key : ∀ acc : List Nd, Wl (l.foldl joinStep acc) ≤ Wl (acc ++ l) := by
    induction l with
    | nil => intro acc; rw [List.append_nil]; exact Nat.le_refl _
    | cons x l ih =>
      intro acc
      refine Nat.le_trans (ih _) ?_
      rw [Wl_app, show acc ++ x :: l = (acc ++ [x]) ++ l from (List.append_assoc acc [x] l).symm, Wl_app (acc ++ [x])]
      exact Nat.add_le_add_right Wl_join1 _
  exact key []
section
variable {raw : List Od} {s : Str} {rs : List Str} {p q g w : Nat} {ms : List Nat} {K : KT} {B : Nat → Nat} {o o' : Od} {n : Nd} {cd : Nd → Nat → List Od}
noncomputable def Cont (raw : List Od) (s : Str) (rs : List Str) (q : Nat) (ms : List Nat) (K : KT) (B : Nat → Nat) : Prop := ∀ (e : Nat) (t : NL) (l : LG), e ≤ s.length → RunsL (straight raw) s rs [⟨q, e, t, ms⟩] l (K e t.reverse l) (B e)
noncomputable def FragOk (raw : List Od) (s : Str) (rs : List Str) (c : List Od) (p : Nat) (T : KT → KT) (w : Nat) : Prop := ∀ (K : KT) (B : Nat → Nat) (ms : List Nat), Cont raw s rs (p + c.length) ms K B → Cont raw s rs p ms (T K) (lw s.length w B)
theorem Cont.mono {B' : Nat → Nat} (h : Cont raw s rs q ms K B) (hb : ∀ e ≤ s.length, B e ≤ B' e) : Cont raw s rs q ms K B' := fun e t l he => (h e t l he).mono (hb e he)
theorem ready_of {i : Nat} {t : NL} (h : raw[p]? = some o) (e : strO (th raw) o = o') (hn : Nat.blt o'.num 10 = true) (hi : i ≤ s.length) (h3 : isEnd o' = true → ms ≠ []) : Ready (straight raw) s ⟨p, i, t, ms⟩ o' :=
  ⟨(straight_at h).trans (congrArg some e), fun q => (by rw [q] at hn; cases hn), fun q => (by rw [q] at hn; cases hn), hi, h3⟩
theorem noE {P : Prop} (h : false = true) : P := Bool.noConfusion h
theorem run_jump (hj : JumpOk raw) (h : raw[p]? = some (.jump g)) (k : Cont raw s rs g ms K B) : Cont raw s rs p ms K (fun e => B e + 1) := fun e t l he => RunsL.go0 (ready_of h rfl rfl he noE) rfl ((k e t l he).thread hj)
variable (hL : s.length ≤ 4)
include hL
theorem frag_one (h : raw[p]? = some (.one n)) (k : Cont raw s rs (p + 1) ms K B) : Cont raw s rs p ms (fun i nm l => oneK K nm l (pend s n i)) (lw s.length 1 B) := fun i t l hi => by
  have hr := ready_of (s := s) (t := t) (ms := ms) h rfl rfl hi noE
  dsimp only
  cases hp : pend s n i with
  | none => exact (RunsL.die hr (show (oneM _ (pend s n i)).next = none by rw [hp]; rfl)).mono (Nat.le_trans (Nat.le_add_left _ _) (lw_at1 hL (Nat.le_refl i) hi))
  | some e =>
    have he := pend_le hp hi
    exact (RunsL.go0 hr (show oneM _ (pend s n i) = _ by rw [hp]; rfl) (k e t l he.2)).mono (lw_at1 hL he.1 he.2)
theorem frag_fail (h : raw[p]? = some .fail) : Cont raw s rs p ms noR (lw s.length 1 B) := fun i t l hi =>
  (RunsL.die (ready_of h rfl rfl hi noE) rfl).mono (Nat.le_trans (Nat.le_add_left _ _) (lw_at1 hL (Nat.le_refl i) hi))
theorem frag_cur {j : Nat} (h : raw[p]? = some (.place j)) (k : Cont raw s rs (p + 1) ms K B) : Cont raw s rs p ms (curK rs j K) (lw s.length 1 B) := fun i t l hi => by
  have hr := ready_of (s := s) (t := t) (ms := ms) h rfl rfl hi noE
  unfold curK
  have hb := lw_at1 (B := B) hL (Nat.le_refl i) hi
  by_cases hp : noS rs j = true
  · rw [if_pos hp]
    exact (RunsL.die hr (congrArg Mv.next (if_pos hp))).mono (Nat.le_trans (Nat.le_add_left _ _) hb)
  · rw [if_neg hp]
    exact (RunsL.go hr (if_neg hp) (k i t _ hi)).mono hb
omit hL in
theorem run_list (k : Cont raw s rs q ms K B) {t : NL} {es : List Nat} {l : LG} (h : ∀ e ∈ es, e ≤ s.length) : RunsL (straight raw) s rs (es.map fun e => ⟨q, e, t, ms⟩) l (arbF K t.reverse es l) (sumB B es) := by
  induction es generalizing l with
  | nil => exact RunsL.nil
  | cons e es ih => exact RunsL.append (k e t l (h e (.head _))) fun l => ih fun x hx => h x (.tail _ hx)
theorem frag_arb (h : raw[p]? = some .arb) (k : Cont raw s rs (p + 1) ms K B) : Cont raw s rs p ms (tr s rs .arb K) (lw s.length 1 B) := fun i t l hi => by
  have hh := run_list k (t := t) (l := l) (es := List.range' i (s.length + 1 - i)) fun e he => ((mem_rg hi).mp he).2
  refine (RunsL.go (ready_of (s := s) (t := t) (ms := ms) h rfl rfl hi noE) rfl ?_).mono (lw_leaf hL hi)
  rw [show l ++ Option.toList none = l from List.append_nil l, ← List.map_reverse, arbL, List.reverse_reverse]
  rw [Nat.succ_sub hi, List.range'_succ] at hh
  show RunsL _ _ _ _ _ (arbF K t.reverse (List.range' i (s.length + 1 - i)) l) _
  rw [Nat.succ_sub hi, List.range'_succ]
  exact hh
omit hL in
theorem lw_zero {L i : Nat} : B i ≤ lw L 0 B i ∨ L < i := by
  by_cases hi : i ≤ L
  · refine .inl ?_
    unfold lw
    have e := Nat.sub_sub_self hi
    generalize L - i = c at e ⊢
    refine Nat.le_trans ?_ (Nat.le_add_right _ _)
    rw [← e]
    cases c with
    | zero => exact Nat.le_of_eq (Nat.one_mul _).symm
    | succ c => exact Nat.le_trans (Nat.le_of_eq (Nat.one_mul _).symm) (Nat.le_add_right _ _)
  · exact .inr (Nat.not_le.mp hi)
theorem frag_row {l : List Nd} (h : ∀ x ∈ l, ∀ q, Emb raw q (cd x q) → FragOk raw s rs (cd x q) q (tr s rs x) x.w) (hw : Wl l ≤ 6) (he : Emb raw p (codeRow cd l p)) : FragOk raw s rs (codeRow cd l p) p (trR s rs l) (Wl l) := by
  induction l generalizing p with
  | nil => exact fun K B ms k => k.mono fun e he => (lw_zero).resolve_right (Nat.not_lt.mpr he)
  | cons x r ih =>
    intro K B ms k
    have k : Cont raw s rs (p + (cd x p ++ codeRow cd r (p + (cd x p).length)).length) ms K B := k
    rw [List.length_append, ← Nat.add_assoc] at k
    exact (h x (.head _) p he.left _ _ ms (ih (fun y hy => h y (.tail _ hy)) (Nat.le_trans (Nat.le_add_left _ _) hw) he.right K B ms k)).mono fun e _ => lw_cat hL hw
omit hL in
theorem alt_cons {y x : Nd} {r : List Nd} {E : Nat} : codeAltE cd (y :: r) x p E = .split (p + ((cd y (p + 1)).length + 2)) :: (cd y (p + 1) ++ (.jump E :: codeAltE cd r x (p + ((cd y (p + 1)).length + 2)) E)) := by
  show (blk cd (.jump E) y p ++ pre cd (.jump E) r (p + (blk cd (.jump E) y p).length)) ++ cd x (p + (blk cd (.jump E) y p ++ pre cd (.jump E) r (p + (blk cd (.jump E) y p).length)).length) = _
  rw [List.length_append, blk_length, ← Nat.add_assoc p (_ + 2), List.append_assoc]
  unfold blk
  rw [List.append_assoc]; rfl
theorem frag_alt {l : List Nd} {x : Nd} {E : Nat} (hj : JumpOk raw) (k : Cont raw s rs E ms K B) (h : ∀ y ∈ l ++ [x], ∀ q, Emb raw q (cd y q) → FragOk raw s rs (cd y q) q (tr s rs y) y.w) (hw : Wl (l ++ [x]) ≤ 6)
    (he : Emb raw p (codeAltE cd l x p E)) (hE : p + (codeAltE cd l x p E).length = E) : Cont raw s rs p ms (trO s rs K (l ++ [x])) (lw s.length (Wl (l ++ [x])) B) := by
  induction l generalizing p with
  | nil =>
    show Cont raw s rs p ms (trO s rs K [x]) _
    rw [trO_one]
    exact h x (.head _) p he K B ms (by rw [show p + (cd x p).length = E from hE]; exact k)
  | cons y r ih =>
    intro i t l hi
    rw [alt_cons] at he hE
    have e1 := he.tail.left
    have e2 := he.tail.right.head
    have e3 := he.tail.right.tail
    rw [show p + 1 + (cd y (p + 1)).length + 1 = p + ((cd y (p + 1)).length + 2) by rw [Nat.add_assoc p, Nat.add_comm 1]; rfl] at e3
    have k1 := h y (.head _) (p + 1) e1 K _ ms (run_jump hj e2 k) i t
    have k2 := ih (fun z hz => h z (.tail _ hz)) (Nat.le_trans (Nat.le_add_left _ _) hw) e3 (by
      rw [List.length_cons, List.length_append, List.length_cons] at hE
      refine Eq.trans ?_ hE
      rw [Nat.add_assoc p]
      exact congrArg (p + ·) (by rw [Nat.add_right_comm]; rfl)) i t
    exact (RunsL.go (ready_of (s := s) (t := t) (ms := ms) he.head rfl rfl hi noE) rfl (by
      rw [show l ++ Option.toList none = l from List.append_nil l]
      exact RunsL.append (ws := [_]) (k1 l hi) fun l => (k2 l hi).thread hj)).mono (lw_alt hL hw y.w_pos (show 0 < Wl (r ++ [x]) by
        rw [Wl_app]; exact Nat.lt_of_lt_of_le x.w_pos (Nat.le_add_left (Wl [x]) _)))
theorem frag_more {a : Nd} {c : List Od} (hj : JumpOk raw) (hw : a.w + 1 ≤ 6) (fa : FragOk raw s rs c (p + 3) (tr s rs a) a.w) (k : Cont raw s rs (p + 3 + c.length + 2) ms K B)
    (e0 : raw[p]? = some (.split (p + 2))) (e1 : raw[p + 1]? = some (.jump (p + 3 + c.length + 2))) (e2 : raw[p + 2]? = some .mark) (e4 : raw[p + 3 + c.length]? = some .gain) (e5 : raw[p + 3 + c.length + 1]? = some (.jump p)) :
    Cont raw s rs p ms (tr s rs (.arbno a) K) (lw s.length (a.w + 1) B) := by
  have kj := run_jump hj e1 k
  have tp := th_split e0
  have key : ∀ (F i : Nat) (t : NL) (l : LG), i ≤ s.length → s.length + 1 ≤ i + F → RunsL (straight raw) s rs [⟨p, i, t, ms⟩] l (moreF (tr s rs a) K F i t.reverse l) (lr s.length a.w B i) := by
    intro F
    induction F with
    | zero => exact fun i t l hi hF => absurd (Nat.le_trans hF hi) (Nat.not_succ_le_self _)
    | succ F ih =>
      intro i t l hi hF
      have c1 : Cont raw s rs (p + 3 + c.length) (i :: ms) (moreK i (moreF (tr s rs a) K F)) (moreB s.length a.w i B) := fun e t l he => by
        have hr := ready_of (s := s) (t := t) (ms := i :: ms) e4 rfl rfl he fun _ q => by cases q
        unfold moreK moreB
        by_cases hie : i < e
        · rw [if_pos hie, if_pos hie]
          refine RunsL.go0 hr (if_pos hie) (RunsL.go0 (ready_of (s := s) (t := t) (ms := ms) e5 (congrArg Od.jump tp) rfl he noE) rfl (ih e t l he ?_))
          exact Nat.le_trans hF (by rw [← Nat.add_assoc, Nat.add_right_comm]; exact Nat.add_le_add_right hie F)
        · rw [if_neg hie, if_neg hie]
          exact RunsL.die hr (congrArg Mv.next (if_neg hie))
      have c3 : ∀ l, RunsL (straight raw) s rs [⟨p + 2, i, t, ms⟩] l _ _ := fun l => RunsL.go0 (ready_of (s := s) (t := t) (ms := ms) e2 rfl rfl hi noE) rfl (fa _ _ _ c1 i t l hi)
      exact (RunsL.go (ready_of (s := s) (t := t) (ms := ms) e0 (congrArg Od.split (show th raw (p + 2) = p + 2 from thread_stop e2 fun q => num_no (onum_of (j := 3) q rfl) rfl)) rfl hi noE) rfl (by
        rw [show l ++ Option.toList none = l from List.append_nil l]
        exact RunsL.append (ws := [_]) (kj i t l hi) c3)).mono (lw_more hL hw a.w_pos hi)
  exact fun i t l hi => (key _ i t l hi (Nat.le_of_eq (Nat.add_sub_cancel' (Nat.le_succ_of_le hi)).symm)).mono (lr_le hL hw)
end
end Mine

namespace Mine
theorem codeAlt_fix {cd : Nd → Nat → List Od} {l : List Nd} {x : Nd} {p : Nat} : codeAlt cd l x p = codeAltE cd l x p (p + (codeAlt cd l x p).length) := by
  have key : ∀ E, (codeAltE cd l x p E).length = (codeAltE cd l x p 0).length := fun E => by
    unfold codeAltE
    rw [List.length_append, List.length_append, pre_length (j' := .jump 0)]
  rw [show (codeAlt cd l x p).length = (codeAltE cd l x p 0).length from key _]; rfl
section
variable {raw : List Od} {s : Str} {rs : List Str} (hL : s.length ≤ 4)
include hL
theorem frag {f : Nat} {n : Nd} (h : n.size ≤ f) (hw : n.w ≤ 6) (hj : JumpOk raw) {p : Nat} (he : Emb raw p (code f n p)) : FragOk raw s rs (code f n p) p (tr s rs n) n.w := by
  induction f generalizing n p with
  | zero => exact absurd n.size_pos (Nat.not_lt.mpr h)
  | succ f ih =>
    cases n with
    | cat a b =>
      intro K B ms k
      have hz : ∀ x ∈ joined (rowC (.cat a b)), x.size ≤ f := fun x hx => Nat.le_trans (mem_size hx) (Nat.le_trans (joined_sw _).s (Nat.le_of_lt_succ (Nat.lt_of_lt_of_le (rowC_two a b).2 h)))
      have hW : Wl (joined (rowC (.cat a b))) ≤ (Nd.cat a b).w := Nat.le_trans Wl_joined (Nat.le_of_eq Wl_rowC)
      have hx6 : ∀ x ∈ joined (rowC (.cat a b)), x.w ≤ 6 := fun x hx => Nat.le_trans (mem_w hx) (Nat.le_trans hW hw)
      have z := frag_row (cd := code f) hL (fun x hx q e => ih (hz x hx) (hx6 x hx) e) (Nat.le_trans hW hw) he K B ms k
      rw [trR_joined, trR_rowC] at z
      obtain ⟨u, hu⟩ := Nat.exists_eq_add_of_le hW
      exact z.mono fun e _ => by rw [hu]; exact lw_weak hL (hu ▸ hw)
    | alt a b =>
      intro K B ms k
      obtain ⟨l, x, A⟩ := altRow a b
      have e : code (f + 1) (.alt a b) p = codeAlt (code f) l x p := by
        show codeAlt (code f) (rowA (.alt a b)).dropLast ((rowA (.alt a b)).getLastD .arb) p = _
        rw [A.el, A.ex]
      have hW : (Nd.alt a b).w = Wl (l ++ [x]) := by rw [← A.e]; exact Wl_rowA.symm
      rw [e] at he k
      rw [hW] at hw ⊢
      have z := frag_alt (cd := code f) (l := l) (x := x) (E := p + (codeAlt (code f) l x p).length) hL hj k (fun y hy q e => ih (Nat.le_trans (mem_size hy) (Nat.le_of_lt_succ (Nat.lt_of_lt_of_le A.lt h))) (Nat.le_trans (mem_w hy) hw) e) hw (p := p) ?_ ?_
      · rw [show trO s rs K (l ++ [x]) = _ from (congrArg _ A.e.symm).trans trO_rowA] at z; exact z
      · rw [← codeAlt_fix]; exact he
      · rw [← codeAlt_fix]
    | arbno a =>
      intro K B ms k
      have h' := Nat.le_of_succ_le_succ h
      replace he : Emb raw p (.split (p + 2) :: .jump (p + 3 + (code f a (p + 3)).length + 2) :: .mark :: (code f a (p + 3) ++ [.gain, .jump p])) := he
      have e4 := he.tail.tail.tail.right
      refine frag_more hL hj hw (ih h' (Nat.le_of_succ_le hw) he.tail.tail.tail.left) (by
        have k : Cont raw s rs (p + ((.split (p + 2) :: .jump (p + 3 + (code f a (p + 3)).length + 2) :: .mark :: code f a (p + 3)) ++ [Od.gain, .jump p]).length) ms K B := k
        rw [List.length_append, ← Nat.add_assoc] at k
        rw [show p + 3 + (code f a (p + 3)).length = p + ((code f a (p + 3)).length + 3) by rw [Nat.add_assoc, Nat.add_comm 3]]
        exact k) he.head he.tail.head he.tail.tail.head e4.head e4.tail.head
    | later a j =>
      intro K B ms k i t l hi
      replace he : Emb raw p (.mark :: (code f a (p + 1) ++ [.name j])) := he
      have c1 : Cont raw s rs (p + 1 + (code f a (p + 1)).length) (i :: ms) (laterK s j i K) (fun e => B e + 1) := fun e t l h2 => RunsL.go0 (ready_of (s := s) (t := t) (ms := i :: ms) he.tail.right.head rfl rfl h2 fun _ q => by cases q) rfl (by
        have k : Cont raw s rs (p + ((.mark :: code f a (p + 1)) ++ [Od.name j]).length) ms K B := k
        rw [List.length_append] at k
        have z := k e ((j, txt s i e) :: t) l h2
        rw [List.reverse_cons] at z
        rw [show p + 1 + (code f a (p + 1)).length = p + ((code f a (p + 1)).length + 1) by rw [Nat.add_assoc, Nat.add_comm 1]]
        exact z)
      exact (RunsL.go0 (ready_of (s := s) (t := t) (ms := ms) he.head rfl rfl hi noE) rfl (ih (Nat.le_of_succ_le_succ h) (Nat.le_of_succ_le hw) he.tail.left _ _ _ c1 i t l hi)).mono (lw_one hL hw a.w_pos)
    | now a j =>
      intro K B ms k i t l hi
      replace he : Emb raw p (.mark :: (code f a (p + 1) ++ [.set j])) := he
      have c1 : Cont raw s rs (p + 1 + (code f a (p + 1)).length) (i :: ms) (nowK s rs j i K) (fun e => B e + 1) := fun e t l h2 => by
        have hr := ready_of (s := s) (t := t) (ms := i :: ms) he.tail.right.head rfl rfl h2 fun _ q => by cases q
        unfold nowK
        by_cases hn : noS rs j = true
        · rw [if_pos hn]
          exact (RunsL.die hr (congrArg Mv.next (if_pos hn))).mono (Nat.le_add_left _ _)
        · rw [if_neg hn]
          refine RunsL.go hr (if_neg hn) ?_
          have k : Cont raw s rs (p + ((.mark :: code f a (p + 1)) ++ [Od.set j]).length) ms K B := k
          rw [List.length_append] at k
          rw [show p + 1 + (code f a (p + 1)).length = p + ((code f a (p + 1)).length + 1) by rw [Nat.add_assoc, Nat.add_comm 1]]
          exact k e t _ h2
      exact (RunsL.go0 (ready_of (s := s) (t := t) (ms := ms) he.head rfl rfl hi noE) rfl (ih (Nat.le_of_succ_le_succ h) (Nat.le_of_succ_le hw) he.tail.left _ _ _ c1 i t l hi)).mono (lw_one hL hw a.w_pos)
    | arb => exact fun K B ms k => frag_arb hL he.head k
    | fail => exact fun K B ms k => frag_fail hL he.head
    | cur j => exact fun K B ms k => frag_cur hL he.head k
    | _ => exact fun K B ms k => frag_one hL he.head k
/-- the whole -/
noncomputable def endK : KT := fun e t l => (some (e, t), l)
theorem run_whole {f : Nat} {n : Nd} (h : n.size ≤ f) (hw : n.w ≤ 6) {i : Nat} {l : LG} (hi : i ≤ s.length) : RunsL (compiled f n) s rs [⟨0, i, [], []⟩] l (tr s rs n endK i [] l) (lw s.length n.w (fun _ => 1) i) := by
  have he : Emb (code f n 0 ++ [.done]) 0 (code f n 0 ++ [.done]) := fun k o e => by rw [Nat.zero_add]; exact e
  exact frag hL h hw (jumpOk_code h) he.left endK (fun _ => 1) [] (fun e t l _ => RunsL.end (straight_at he.right.head)) i [] l hi
end
end Mine

namespace Mine

/-! ### what the orders hold -/
noncomputable def sgK (x : Nd) : Bool := singles.any (· == kindS x)
noncomputable def OnesIn (c : List Od) (W : Nat) : Prop := ∀ x, Od.one x ∈ c → x.wt ≤ W ∧ sgK x = true
section
variable {c d : List Od} {W W' p f : Nat} {o : Od} {n x : Nd} {l : List Nd} {cd : Nd → Nat → List Od}
theorem OnesIn.nil : OnesIn [] W := fun x h => by cases h
theorem OnesIn.cons (ho : Nat.beq 0 o.num = false) (h : OnesIn c W) : OnesIn (o :: c) W := fun x hx => by
  rcases List.mem_cons.mp hx with e | hx
  · exact num_no (congrArg Od.num e) ho
  · exact h x hx
theorem OnesIn.app (h : OnesIn c W) (k : OnesIn d W) : OnesIn (c ++ d) W := fun x hx => (List.mem_append.mp hx).elim (h x) (k x)
theorem OnesIn.mono (h : OnesIn c W) (l : W ≤ W') : OnesIn c W' := fun x hx => ⟨Nat.le_trans (h x hx).1 l, (h x hx).2⟩
theorem ones_row (h : ∀ x ∈ l, ∀ q, OnesIn (cd x q) W) : OnesIn (codeRow cd l p) W := by
  induction l generalizing p with
  | nil => exact .nil
  | cons x r ih => exact (h x (.head _) p).app (ih fun y hy => h y (.tail _ hy))
theorem ones_alt (h : ∀ y ∈ l ++ [x], ∀ q, OnesIn (cd y q) W) : OnesIn (codeAlt cd l x p) W :=
  (ones_row fun y hy q => .cons rfl ((h y (List.mem_append_left _ hy) (q + 1)).app (.cons rfl .nil))).app (h x (List.mem_append_right _ (.head _)) _)
theorem ones_one (h : sgB n.num = true) : OnesIn [.one n] n.wt := fun x hx => by
  cases hx with
  | head => exact ⟨Nat.le_refl _, (sg_all _ n.num_lt).1.trans h⟩
  | tail _ h => cases h
theorem code_ones (h : n.size ≤ f) : OnesIn (code f n p) n.wt := by
  induction f generalizing n p with
  | zero => exact .nil
  | succ f ih =>
    cases n with
    | cat a b => exact ones_row fun x hx q => (ih (Nat.le_trans (mem_size hx) (Nat.le_trans (joined_sw _).s (Nat.le_of_lt_succ (Nat.lt_of_lt_of_le (rowC_two a b).2 h))))).mono (Nat.le_trans (mem_wt hx) (Nat.le_of_eq ((joined_sw _).w.trans (rowC_b (.cat a b)).w)))
    | alt a b =>
      obtain ⟨l, x, A⟩ := altRow a b
      show OnesIn (codeAlt (code f) (rowA (.alt a b)).dropLast ((rowA (.alt a b)).getLastD .arb) p) _
      rw [A.el, A.ex]
      exact ones_alt fun y hy q => (ih (Nat.le_trans (mem_size hy) (Nat.le_of_lt_succ (Nat.lt_of_lt_of_le A.lt h)))).mono (Nat.le_trans (mem_wt hy) (Nat.le_of_eq A.w))
    | arbno a => exact .cons rfl (.cons rfl (.cons rfl ((ih (Nat.le_of_succ_le_succ h)).app (.cons rfl (.cons rfl .nil)))))
    | later a i => exact .cons rfl ((ih (Nat.le_of_succ_le_succ h)).app (.cons rfl .nil))
    | now a i => exact .cons rfl ((ih (Nat.le_of_succ_le_succ h)).app (.cons rfl .nil))
    | arb => exact .cons rfl .nil
    | fail => exact .cons rfl .nil
    | cur i => exact .cons rfl .nil
    | _ => exact ones_one rfl
theorem compiled_ones (h : n.size ≤ f) (hx : Od.one x ∈ compiled f n) : x.wt ≤ n.wt ∧ sgK x = true := by
  obtain ⟨o, ho, e⟩ := List.mem_map.mp (show Od.one x ∈ (code f n 0 ++ [Od.done]).map _ from hx)
  refine ((code_ones h (p := 0)).app (.cons rfl .nil) : OnesIn (code f n 0 ++ [Od.done]) _) x ?_
  cases o with
  | split g => exact num_no (congrArg Od.num e) rfl
  | jump g => exact num_no (congrArg Od.num e) rfl
  | _ => exact e ▸ ho
theorem compiled_len (h : n.size ≤ f) : (compiled f n).length ≤ 6 * n.size + 1 := by
  unfold compiled straight
  rw [List.length_map, List.length_append]
  exact Nat.succ_le_succ (code_len h 0)
end
/-! ### how many names -/
structure NmOk (N : Nat) (m : Mv) : Prop where
  next : ∀ w, m.next = some w → w.nm.length ≤ N
  push : ∀ v ∈ m.push, v.nm.length ≤ N
section
variable {os : List Od} {s : Str} {rs : List Str} {w : Wy} {N : Nat} {o : Od} {r : Option (Nat × NL)} {ws : List Wy} {l l' : LG} {n : Nat}
theorem nm_no : NmOk N noM := ⟨fun w e => no_some e, fun v h => by cases h⟩
theorem nm_put {pt : Option (Nat × V)} (h : w.nm.length ≤ N) : NmOk N ⟨some w, [], pt⟩ := ⟨fun v e => Option.some.inj e ▸ h, fun v h => by cases h⟩
theorem nm_if {c : Prop} [Decidable c] {a b : Mv} (ha : NmOk N a) (hb : NmOk N b) : NmOk N (if c then a else b) := by
  by_cases h : c
  · rw [if_pos h]; exact ha
  · rw [if_neg h]; exact hb
theorem nm_step : NmOk (w.nm.length + 1) (mstepO s rs w o) := by
  have le := Nat.le_succ w.nm.length
  obtain ⟨pc, pos, nm, ms⟩ := w
  cases o with
  | one n =>
    show NmOk _ (oneM _ (pend s n pos))
    cases pend s n pos with
    | none => exact nm_no
    | some e => exact nm_put le
  | arb => exact ⟨fun v e => Option.some.inj e ▸ le, fun v h => by
      obtain ⟨x, _, e⟩ := List.mem_map.mp h
      exact e ▸ le⟩
  | split g => exact ⟨fun v e => Option.some.inj e ▸ le, fun v h => by
      cases List.mem_singleton.mp h
      exact le⟩
  | jump g => exact nm_put le
  | mark => exact nm_put le
  | name i => cases ms with
    | nil => exact nm_no
    | cons b r => exact nm_put (Nat.le_refl _)
  | set i => cases ms with
    | nil => exact nm_no
    | cons b r => exact nm_if nm_no (nm_put le)
  | gain => cases ms with
    | nil => exact nm_no
    | cons b r => exact nm_if (nm_put le) nm_no
  | place i => exact nm_if nm_no (nm_put le)
  | _ => exact nm_no
theorem Ex.nmlen (h : Ex os s rs ws l r l' n) : ∀ N, (∀ w ∈ ws, w.nm.length ≤ N) → ∀ e t, r = some (e, t) → t.length ≤ N + n := by
  induction h with
  | nil => exact fun N _ e t q => no_some q
  | done e hl =>
    intro N hN e t q
    cases q
    rw [List.length_reverse]
    exact Nat.le_trans (hN _ (.head _)) (Nat.le_add_right _ _)
  | die a b c ih => exact fun N hN e t q => Nat.le_trans (ih N (fun w hw => hN w (.tail _ hw)) e t q) (Nat.le_succ _)
  | @go w w' H l r l' n o ps pt a b c ih =>
    intro N hN e t q
    have K := nm_step (s := s) (rs := rs) (w := w) (o := o)
    rw [b] at K
    have hw := Nat.succ_le_succ (hN w (.head _))
    have z := ih (N + 1) (fun v hv => ?_) e t q
    · rw [Nat.add_right_comm] at z; exact z
    · rcases List.mem_cons.mp hv with e | hv
      · rw [e]; exact Nat.le_trans (K.next _ rfl) hw
      · rcases List.mem_append.mp hv with hv | hv
        · exact Nat.le_trans (K.push v (List.mem_reverse.mp hv)) hw
        · exact Nat.le_succ_of_le (hN v (.tail _ hv))
end
/-! ### from each begin -/
abbrev Due := Option (Nat × Nat × NL) × LG
noncomputable section
noncomputable def dueX (b : Nat) (l : LG) (f : LG → Due) : Option (Nat × NL) → Due
  | some p => (some (b, p), l)
  | none => f l
noncomputable def due (s : Str) (rs : List Str) (n : Nd) : List Nat → LG → Due
  | [], l => (none, l)
  | b :: r, l => dueX b (tr s rs n endK b [] l).2 (due s rs n r) (tr s rs n endK b [] l).1
noncomputable def cMax (c : Nat) : Nat := dot (pW 6) (fun _ => 1) c + qW 6 c
noncomputable def tot (k : Nat) : Nat := Nat.rec 0 (fun k t => t + cMax k) k
end
theorem tot_5 : ∀ k, k < 6 → tot k ≤ 10029867 := by decide +kernel
theorem lw_max {L w i : Nat} (hL : L ≤ 4) (hw : w ≤ 6) : lw L w (fun _ => 1) i ≤ cMax (L - i) := by
  obtain ⟨u, hu⟩ := Nat.exists_eq_add_of_le hw
  have := lw_weak (B := fun _ => 1) (i := i) hL (w := w) (u := u) (Nat.le_of_eq hu.symm)
  rw [← hu] at this
  exact this
end Mine

namespace Mine
noncomputable def namV (R : Nat → Addr) (p : Nat × Str) : V := .tup [.ref (R p.1), .str p.2]
/-- the host's cells that stay -/
inductive Sh (c : Cn) : Addr → Cell → Prop
  | h : Sh c c.h (.inst "PlainHost" c.dh)
  | rA : Sh c c.rA (.list (c.rs.map .str))
  | oA : Sh c c.oA (.list (c.os.map (odV c.R)))
  | ref (i : Nat) : Sh c (c.R i) (.inst "NameRef" (c.Rd i))
  | rd (i : Nat) : Sh c (c.Rd i) (.dict (refD (keyS i)))
structure HS (c : Cn) (σ : Sto) (n : Int) (lg : LG) : Prop where
  st : ∀ b x, Sh c b x → σ b = some x
  hd : σ c.dh = some (.dict (hostD c.vA c.lim c.rA n c.lA))
  v : ∃ vals, σ c.vA = some (.map vals) ∧ VOk vals
  l : σ c.lA = some (.list (lg.map logV))
  lo : c.lA ≠ c.oA
  lr : c.lA ≠ c.rA
structure OthH (c : Cn) (b : Addr) (x : Cell) : Prop where
  t : x.tag ≠ 5
  d : x.tag ≠ 4
  v : b ≠ c.vA
  l : b ≠ c.lA
noncomputable def KeepH (c : Cn) (σ σ' : Sto) : Prop := ∀ b x, OthH c b x → σ b = some x → σ' b = some x
inductive DueV (c : Cn) (σ : Sto) : Option (Nat × Nat × NL) → V → Sto → Prop
  | none {σ' : Sto} : DueV c σ none .none σ'
  | some {b e : Nat} {t : NL} {a : Addr} {σm σ' : Sto} (h : σ' a = some (.list (t.map (namV c.R)))) (k : KeepH c σ σm) (hn : σm a = none) (hl : t.length ≤ big) : DueV c σ (some (b, e, t)) (.tup [.int b, .int e, .ref a]) σ'
inductive NamJ (R : Nat → Addr) (nm : NL) (a : Addr) (σ : Sto) : Nat → Lo → Sto → Prop
  | mk {x y : NL} {lv : Option V} {σ' : Sto} (xt : Ext σ σ') (e : σ' a = some (.list (x.map (namV R)))) (h : x ++ y = nm) : NamJ R nm a σ y.length [some (nmV R y), some (.ref a), lv] σ'
section
variable {g : GE} {d : Nat} {σ σ' : Sto} {k : V → Sto → Prop} {c : Cn} {n n' : Int} {lg lg' : LG}
theorem sp_named (ok : TOk g TBL) {R : Nat → Addr} {nm : NL} (hl : nm.length ≤ big) (h : ∀ a σ', σ a = none → Ext σ σ' → σ' a = some (.list (nm.reverse.map (namV R))) → k (.ref a) σ') : CallC g (d + 1) F_named_rows [nmV R nm] σ k := by
  refine d_ir0 d_named_rows ok rfl rfl rfl fun a ha => l_while (NamJ R nm a σ) (NamJ.mk (x := []) (y := nm) (ext_new ha) upd_eq rfl) fun m ρ' σ' j N nx => ?_
  induction j with | @mk x y lv σ' xt e h' =>
  have hxl : x.length + y.length ≤ big := by rw [← List.length_append, h']; exact hl
  cases y with
  | nil =>
    rw [List.append_nil] at h'
    subst h'
    refine q_isN rfl (m_rev e (v_rev e (by rw [List.length_map]; exact hl) (h a _ ha (xt.new ha) ?_)))
    rw [upd_eq, List.map_reverse]
  | cons p y =>
    refine q_isN rfl (m_app e (v_app e (by rw [List.length_map]; exact Nat.le_trans (Nat.le_add_right _ _) hxl) (nx _ _ _ (NamJ.mk (x := x ++ [p]) (xt.new ha) ?_ ?_) (Nat.lt_succ_self _))))
    · rw [upd_eq, List.map_append]; rfl
    · rw [List.append_assoc]; exact h'
theorem init_set {cn : Str} {x dx : Addr} {l l' : List (Str × V)} {f : Str} {v : V} {KS : Sto → Prop} (h1 : σ x = some (.inst cn dx)) (h2 : σ dx = some (.dict l)) (hf : TBL.fl cn f = true) (ne : x ≠ dx) (hl : Nat.ble l.length 100 = true) (hp : putD f v l = l')
    (q : ∀ σ₂, σ₂ x = some (.inst cn dx) → σ₂ dx = some (.dict l') → (∀ b, b ≠ dx → σ₂ b = σ b) → KS σ₂) : VS g TBL (.ref x) f v σ KS :=
  g_set h1 hf h2 (Nat.le_of_ble_eq_true hl) (by rw [hp]; exact q _ (upd_ne' h1 ne) upd_eq fun b nb => upd_ne nb)
theorem sp_match_init (ok : TOk g TBL) {x dx h : Addr} {s : Str} (hx : σ x = some (.inst "Match" dx)) (hd : σ dx = some (.dict [])) (ne : x ≠ dx)
    (hk : ∀ hs σ', σ hs = none → σ' x = some (.inst "Match" dx) → σ' dx = some (.dict (matchD s h hs)) → σ' hs = some (.list []) → (∀ b c, b ≠ dx → σ b = some c → σ' b = some c) → k .none σ') : CallC g (d + 1) F_Match_init [.ref x, .str s, .ref h] σ k := by
  refine d_ir0 d_Match_init ok rfl rfl rfl (init_set hx hd fl_Match_subject ne rfl (l' := [("subject", .str s)]) (by kernel_rfl!) fun σ₁ h1 d1 k1 => init_set h1 d1 fl_Match_host ne rfl (l' := [("subject", .str s), ("host", .ref h)]) (by kernel_rfl!) fun σ₂ h2 d2 k2 hs hhs => ?_)
  have hsx := ne_of hhs d2
  refine init_set (upd_old h2 hhs) (upd_old d2 hhs) fl_Match_history ne rfl (l' := matchD s h hs) (by kernel_rfl!) fun σ₃ h3 d3 k3 => hk hs σ₃ ?_ h3 d3 ?_ fun b c nb e => ?_
  · rw [← k1 hs hsx.symm, ← k2 hs hsx.symm]; exact hhs
  · rw [k3 hs hsx.symm, upd_eq]
  · rw [k3 b nb, upd_ne, k2 b nb, k1 b nb]
    · exact e
    · exact ne_of hhs (show σ₂ b = some c by rw [k2 b nb, k1 b nb]; exact e)

/-! ## from each begin -/
theorem KeepH.refl : KeepH c σ σ := fun _ _ _ e => e
theorem KeepH.trans {σ'' : Sto} (a : KeepH c σ σ') (b : KeepH c σ' σ'') : KeepH c σ σ'' := fun x y o e => b x y o (a x y o e)
theorem KeepH.ext (x : Ext σ σ') : KeepH c σ σ' := fun b y _ e => x b y e
theorem HS.ext (h : HS c σ n lg) (x : Ext σ σ') : HS c σ' n lg := by
  obtain ⟨vals, v1, v2⟩ := h.v
  exact ⟨fun b y s => x b y (h.st b y s), x _ _ h.hd, ⟨vals, x _ _ v1, v2⟩, x _ _ h.l, h.lo, h.lr⟩
theorem Sh.st {b : Addr} {x : Cell} (h : Sh c b x) : St c b x := by
  cases h with
  | h => exact .h
  | rA => exact .rA
  | oA => exact .oA
  | ref i => exact .ref i
  | rd i => exact .rd i
theorem MS.hs {W H : WL} (M : MS c σ n lg W H) : HS c σ n lg := ⟨fun b x s => M.st b x s.st, M.hd, M.v, M.l, M.ne.lo, M.ne.lr⟩
theorem RunsL.ex {os : List Od} {s : Str} {rs : List Str} {ws : List Wy} {l : LG} {res : Res} {b : Nat} (h : RunsL os s rs ws l res b) : Ex os s rs ws l res.1 res.2 b := by
  have z := h [] 0
  rw [List.append_nil] at z
  obtain ⟨x, l'⟩ := res
  cases x with
  | none => exact z _ _ (.none .nil)
  | some p => exact z _ _ (.some (Nat.le_refl _))
end
end Mine

namespace Mine
noncomputable section
/-- how much is left for these begins -/
noncomputable def budg (L : Nat) (r : List Nat) : Nat := (r.map fun x => cMax (L - x)).sum
noncomputable def ordB : I := (.cons (.asg2 false 5 false 6 (.meth (.new "Match" (.cons (.x 1) (.cons (.x 3) .nil))) "run" (.cons (.x 0) (.cons (.x 4) .nil)))) (.cons (.iff (.cmp .Eq (.x 5) (.k (.int 0))) (.cons (.ret (.tup (.cons (.x 4) (.cons (.att (.x 6) "at") (.cons (.call (.k (.fn F_named_rows)) (.cons (.att (.x 6) "named") .nil)) .nil))))) .nil) .nil) (.cons (.iff (.cmp .Eq (.x 5) (.k (.int 2))) (.cons (.ret (.k .none)) .nil) .nil) .nil)))
end
theorem budg_all : ∀ L, L < 5 → ∀ N, N < L + 2 → budg L (List.range' 0 N) ≤ 10029867 := by decide +kernel
inductive OrdJ (c : Cn) (σ : Sto) (n : Int) (lg : LG) (nd : Nd) (N : Nat) (anch : Bool) (m : List Nat) : Lo → Sto → Prop
  | mk {rest : List Nat} {n' : Int} {lg' : LG} {bv hv wv : Option V} {σ' : Sto} (er : List.range' 0 N = m ++ rest) (H : HS c σ' n' lg') (K : KeepH c σ σ') (ed : due c.s c.rs nd (List.range' 0 N) lg = due c.s c.rs nd rest lg')
      (b0 : 0 ≤ n') (b1 : n' + (budg c.s.length rest : Nat) ≤ n + 10029867) (b2 : lg'.length + budg c.s.length rest ≤ lg.length + 10029867) :
    OrdJ c σ n lg nd N anch m [some (.ref c.oA), some (.str c.s), some (.bool anch), some (.ref c.h), bv, hv, wv] σ'
section
variable {g : GE} {d : Nat} {σ σ' : Sto} {k : V → Sto → Prop} {c : Cn} {n n' : Int} {lg lg' : LG} {nd : Nd} {f N : Nat}
theorem HS.base {m dm hs : Addr} (h : HS { c with m := m, dm := dm, hs := hs } σ n lg) : HS c σ n lg := ⟨fun b x s => by
  cases s with
  | h => exact h.st _ _ .h
  | rA => exact h.st _ _ .rA
  | oA => exact h.st _ _ .oA
  | ref i => exact h.st _ _ (.ref i)
  | rd i => exact h.st _ _ (.rd i), h.hd, h.v, h.l, h.lo, h.lr⟩
theorem orders_loop (ok : TOk g TBL) (Hs : HS c σ n lg) (hos : c.os = compiled f nd) (hf : nd.size ≤ f) (hz : nd.size ≤ 1000) (hL : c.s.length ≤ 4) (hin : nd.w ≤ 6) (hw : nd.wt ≤ 1000) (anch : Bool) (hN : N ≤ c.s.length) (h0 : 0 ≤ n) (hn : n + 10029867 < c.lim) (hl : lg.length + 10029867 + 1000 ≤ big)
    (hk : ∀ σ' n' v, HS c σ' n' (due c.s c.rs nd (List.range' 0 (N + 1)) lg).2 → KeepH c σ σ' → DueV c σ (due c.s c.rs nd (List.range' 0 (N + 1)) lg).1 v σ' → (due c.s c.rs nd (List.range' 0 (N + 1)) lg).2.length ≤ lg.length + 10029867 → k v σ') {bv hv wv : Option V} :
    LF (setX 4) (wS g TBL (d + 10) ordB []) (thenF (fun ρ σ => wS g TBL (d + 10) (.cons (.ret (.k .none)) .nil) [] ρ σ (endF k)) (endF k)) [some (.ref c.oA), some (.str c.s), some (.bool anch), some (.ref c.h), bv, hv, wv] (.rng 0 ((N : Int) + 1)) σ := by
  have hi : rangeV ((0 : Nat) : Int) ((N : Int) + 1) = (List.range' 0 (N + 1)).map intV := rangeV_eq (Nat.zero_le N)
  have hN4 : N ≤ 4 := Nat.le_trans hN hL
  refine l_forP (f := intV) (List.range' 0 (N + 1)) (OrdJ c σ n lg nd (N + 1) anch) (OrdJ.mk rfl Hs .refl rfl h0 ?_ ?_) (fun m ρ' σ' j => ?_) (fun m ρ' σ' j x r el Nx nx => ?_) fun ρ' σ' j => ?_
  · exact Int.add_le_add_left (Int.ofNat_le.mpr (budg_all _ (Nat.lt_succ_of_le hL) _ (Nat.succ_lt_succ (Nat.lt_succ_of_le hN)))) _
  · exact Nat.add_le_add_left (budg_all _ (Nat.lt_succ_of_le hL) _ (Nat.succ_lt_succ (Nat.lt_succ_of_le hN))) _
  · rw [← hi]
    exact .rng ⟨Int.le_refl _, by decide, Int.natCast_nonneg (N + 1), Int.ofNat_le.mpr (Nat.le_trans (Nat.succ_le_succ hN4) (by decide))⟩
  · induction j with | @mk rest n' lg' bv hv wv σ' er H1 K1 ed b0 b1 b2 =>
    have e := List.append_cancel_left (er.symm.trans el)
    subst e
    have hx : x ≤ c.s.length := by
      have hm : x ∈ List.range' 0 (N + 1) := by rw [er]; exact List.mem_append_right _ (.head _)
      rw [List.mem_range'_1] at hm
      exact Nat.le_trans (Nat.le_of_lt_succ (by have := hm.2; rw [Nat.zero_add] at this; exact this)) hN
    refine v_cls ct_Match fun m' dm hm hdm hne => ?_
    refine sp_match_init ok upd_eq (upd_ne' upd_eq hne.symm) hne fun hs σ₁ hhs e1 e2 e3 kp => ⟨rfl, ?_⟩
    have up : ∀ {b y}, σ' b = some y → upd (upd σ' dm (.dict [])) m' (.inst "Match" dm) b = some y := fun e => upd_old (upd_old e hdm) ((upd_ne hne).trans hm)
    have X1 : ∀ {b y}, σ' b = some y → σ₁ b = some y := fun {b y} e => kp b y (ne_of hdm e) (up e)
    have hsn : ∀ {b y}, σ' b = some y → b ≠ hs := fun e => ne_of hhs (up e)
    have H2 := H1.ext (fun b y e => X1 e)
    have M2 : MS { c with m := m', dm := dm, hs := hs } σ₁ n' lg' [] [] := ⟨fun b y s => by
      cases s with
      | m => exact e1
      | dm => exact e2
      | h => exact H2.st _ _ .h
      | rA => exact H2.st _ _ .rA
      | oA => exact H2.st _ _ .oA
      | ref i => exact H2.st _ _ (.ref i)
      | rd i => exact H2.st _ _ (.rd i), H2.hd, H2.v, H2.l, e3, ⟨fun p hp => (by cases hp), List.nodup_nil⟩, ⟨(hsn H1.l).symm, (hsn (H1.st _ _ .rA)).symm, (hsn (H1.st _ _ .oA)).symm, H1.lo, H1.lr⟩⟩
    have keep : ∀ {σ₂ : Sto}, KeepM { c with m := m', dm := dm, hs := hs } σ₁ σ₂ → KeepH c σ σ₂ := fun {σ₂} K => K1.trans fun b y o e => K b y ⟨o.t, o.d, o.v, o.l, hsn e⟩ (X1 e)
    have hrun := (run_whole (s := c.s) (rs := c.rs) hL hf hin (i := x) (l := lg') hx).ex
    have hb := lw_max (L := c.s.length) (i := x) hL hin
    have hB : budg c.s.length (x :: r) = cMax (c.s.length - x) + budg c.s.length r := rfl
    have hdue : due c.s c.rs nd (x :: r) lg' = dueX x (tr c.s c.rs nd endK x [] lg').2 (due c.s c.rs nd r) (tr c.s c.rs nd endK x [] lg').1 := rfl
    rw [← hos] at hrun
    rw [hB] at b1 b2
    rw [hdue] at ed
    generalize tr c.s c.rs nd endK x [] lg' = T at *
    generalize lw c.s.length nd.w (fun _ => 1) x = B at *
    generalize cMax (c.s.length - x) = C at *
    have hC : C + budg c.s.length r ≤ 10029867 + lg.length := Nat.le_trans (Nat.le_add_left _ _) (Nat.le_trans b2 (Nat.le_of_eq (Nat.add_comm _ _)))
    have hosl : c.os.length ≤ 100000 := by
      rw [hos]
      exact Nat.le_trans (compiled_len hf) (Nat.le_trans (Nat.succ_le_succ (Nat.mul_le_mul_left 6 hz)) (by decide))
    have hlB : lg'.length + B + 1000 ≤ big := Nat.le_trans (Nat.add_le_add_right (Nat.le_trans (Nat.add_le_add_left (Nat.le_trans hb (Nat.le_add_right _ _)) _) b2) _) hl
    have hnB : n' + B < c.lim := Int.lt_of_le_of_lt (Int.le_trans (Int.add_le_add_left (Int.ofNat_le.mpr (Nat.le_trans hb (Nat.le_add_right _ _))) _) b1) hn
    refine m_match M2 mt_Match_run (by kernel_rfl!) (v_run ok M2 (Nat.le_trans hL (by decide)) hrun b0 hnB hlB hosl (fun y hy => ?_) (fun e σ₂ n₂ M3 bd => ?_) fun w e σ₂ n₂ H a dw M3 bd => ?_)
    · have h := compiled_ones hf (show Od.one y ∈ compiled f nd from hos ▸ hy)
      exact ⟨Nat.le_trans h.1 hw, h.2⟩
    · rw [e] at ed
      have hs := bd.s
      have hl' := bd.l
      exact nx _ _ (OrdJ.mk (rest := r) (er.trans (List.append_assoc m [x] r).symm) M3.m.hs.base (keep M3.k) ed bd.z (by omega) (by omega))
    · have hnl := hrun.nmlen 0 (fun v hv => by cases List.mem_singleton.mp hv; exact Nat.le_refl _) _ _ e
      have hB' : (0 : Nat) + B ≤ big := Nat.le_trans (Nat.le_trans (Nat.le_of_eq (Nat.zero_add _)) (Nat.le_add_left _ _)) (Nat.le_trans (Nat.le_add_right _ 1000) hlB)
      have hnl := Nat.le_trans hnl hB'
      rw [e] at ed
      refine g_wat M3.m (g_wnm M3.m (v_fn (sp_named ok (by rw [← List.length_reverse]; exact hnl) fun l σ₃ hl1 hl2 hl3 => ?_)))
      refine hk σ₃ n₂ _ ?_ ((keep M3.k).trans (.ext hl2)) ?_ ?_
      · rw [ed]; exact M3.m.hs.base.ext hl2
      · rw [ed]; exact .some hl3 (keep M3.k) hl1 hnl
      · rw [ed]
        exact Nat.le_trans bd.l (Nat.le_trans (Nat.add_le_add_left (Nat.le_trans hb (Nat.le_add_right _ _)) _) b2)
  · induction j with | @mk rest n' lg' bv hv wv σ' er H1 K1 ed b0 b1 b2 =>
    have e : rest = [] := List.append_right_eq_self.mp er.symm
    subst e
    refine hk _ n' _ ?_ K1 ?_ ?_
    · rw [ed]; exact H1
    · rw [ed]; exact .none
    · rw [ed]; exact Nat.le_trans (Nat.le_add_right _ _) b2
theorem sp_match_orders (ok : TOk g TBL) (Hs : HS c σ n lg) (hos : c.os = compiled f nd) (hf : nd.size ≤ f) (hz : nd.size ≤ 1000) (hL : c.s.length ≤ 4) (hin : nd.w ≤ 6) (hw : nd.wt ≤ 1000) (anch : Bool) (h0 : 0 ≤ n) (hn : n + 10029867 < c.lim) (hl : lg.length + 10029867 + 1000 ≤ big)
    (hk : ∀ σ' n' v, HS c σ' n' (due c.s c.rs nd (List.range' 0 (cond anch 0 c.s.length + 1)) lg).2 → KeepH c σ σ' → DueV c σ (due c.s c.rs nd (List.range' 0 (cond anch 0 c.s.length + 1)) lg).1 v σ' → (due c.s c.rs nd (List.range' 0 (cond anch 0 c.s.length + 1)) lg).2.length ≤ lg.length + 10029867 → k v σ') :
    CallC g (d + 11) F_match_orders [.ref c.oA, .str c.s, .bool anch, .ref c.h] σ k := by
  refine d_ir0 d_match_orders ok rfl rfl rfl ?_
  cases anch with
  | true => exact v_rg1 (orders_loop (N := 0) ok Hs hos hf hz hL hin hw true (Nat.zero_le _) h0 hn hl hk)
  | false => exact v_lenS (big_s (Nat.le_trans hL (by decide))) (v_rg1 (orders_loop (N := c.s.length) ok Hs hos hf hz hL hin hw false (Nat.le_refl _) h0 hn hl hk))
end
end Mine

namespace Mine
inductive Sh0 (c : Cn) : Addr → Cell → Prop
  | h : Sh0 c c.h (.inst "PlainHost" c.dh)
  | rA : Sh0 c c.rA (.list (c.rs.map .str))
  | ref (i : Nat) : Sh0 c (c.R i) (.inst "NameRef" (c.Rd i))
  | rd (i : Nat) : Sh0 c (c.Rd i) (.dict (refD (keyS i)))
structure H0 (c : Cn) (σ : Sto) (n : Int) (lg : LG) : Prop where
  st : ∀ b x, Sh0 c b x → σ b = some x
  hd : σ c.dh = some (.dict (hostD c.vA c.lim c.rA n c.lA))
  v : ∃ vals, σ c.vA = some (.map vals) ∧ VOk vals
  l : σ c.lA = some (.list (lg.map logV))
  lr : c.lA ≠ c.rA
section
variable {g : GE} {d : Nat} {σ σ' : Sto} {k : V → Sto → Prop} {c : Cn} {n n' : Int} {lg lg' : LG} {nd : Nd} {b : Addr} {os : List Od}
theorem H0.ext (h : H0 c σ n lg) (x : Ext σ σ') : H0 c σ' n lg := by
  obtain ⟨vals, v1, v2⟩ := h.v
  exact ⟨fun b y s => x b y (h.st b y s), x _ _ h.hd, ⟨vals, x _ _ v1, v2⟩, x _ _ h.l, h.lr⟩
theorem H0.hs (h : H0 c σ n lg) (hb : σ b = some (.list (os.map (odV c.R)))) (lo : c.lA ≠ b) : HS { c with oA := b, os := os } σ n lg := ⟨fun b x s => by
  cases s with
  | h => exact h.st _ _ .h
  | rA => exact h.st _ _ .rA
  | oA => exact hb
  | ref i => exact h.st _ _ (.ref i)
  | rd i => exact h.st _ _ (.rd i), h.hd, h.v, h.l, lo, h.lr⟩
theorem HS.h0 (h : HS { c with oA := b, os := os } σ n lg) : H0 c σ n lg := ⟨fun b x s => by
  cases s with
  | h => exact h.st _ _ .h
  | rA => exact h.st _ _ .rA
  | ref i => exact h.st _ _ (.ref i)
  | rd i => exact h.st _ _ (.rd i), h.hd, h.v, h.l, h.lr⟩
theorem KeepH.base (h : KeepH { c with oA := b, os := os } σ σ') : KeepH c σ σ' := fun b x o e => h b x ⟨o.t, o.d, o.v, o.l⟩ e
theorem v_match_compiled (ok : TOk g TBL) (H : H0 c σ n lg) (hz : nd.size ≤ 20) (hL : c.s.length ≤ 4) (hin : nd.w ≤ 6) (hw : nd.wt ≤ 1000) (anch : Bool) (h0 : 0 ≤ n) (hn : n + 10029867 < c.lim) (hl : lg.length + 10029867 + 1000 ≤ big)
    (hk : ∀ σ' n' v, H0 c σ' n' (due c.s c.rs nd (List.range' 0 (cond anch 0 c.s.length + 1)) lg).2 → KeepH c σ σ' → DueV c σ (due c.s c.rs nd (List.range' 0 (cond anch 0 c.s.length + 1)) lg).1 v σ' → (due c.s c.rs nd (List.range' 0 (cond anch 0 c.s.length + 1)) lg).2.length ≤ lg.length + 10029867 → k v σ') :
    VC g TBL (d + 70) (.fn F_match_compiled) [ndV c.R nd, .str c.s, .bool anch, .ref c.h] σ k := by
  refine v_fn (d_ir0 d_match_compiled ok rfl rfl rfl (v_fn (CallC.room (sp_compile ok c.R nd (f := 20) (by decide) hz hw fun b σ₁ x1 hb hc => ?_) (Nat.le_add_left 66 (d + 3)))))
  have lo : c.lA ≠ b := ne_of hb H.l
  refine v_fn (CallC.room (sp_match_orders (d := d) ok (c := { c with oA := b, os := compiled 20 nd }) ((H.ext x1).hs hc lo) rfl hz (Nat.le_trans hz (by decide)) hL hin hw anch h0 hn hl fun σ' n' v H' K q hb => ?_) (Nat.add_le_add_left (by decide) d))
  have kx : KeepH c σ σ₁ := KeepH.ext x1
  refine hk σ' n' v H'.h0 (kx.trans K.base) ?_ hb
  generalize (due c.s c.rs nd (List.range' 0 (cond anch 0 c.s.length + 1)) lg).1 = r at q ⊢
  cases q with
  | none => exact .none
  | some h k hn hl => exact .some h (kx.trans k.base) hn hl
end
end Mine

namespace Mine
/-- the box of draws -/
structure BoxAt (σ : Sto) (bx q : Addr) (xs : List Int) (a b : Int) : Prop where
  hb : σ bx = some (.list [.ref q, .int a, .int b])
  hq : σ q = some (.list (xs.map .int))
  ne : bx ≠ q
  ha : 0 ≤ a ∧ a < 1000003
  hx : xs.length ≤ 1000
noncomputable def KeepB (bx q : Addr) (σ σ' : Sto) : Prop := ∀ b x, b ≠ bx → b ≠ q → σ b = some x → σ' b = some x
section
variable {g : GE} {d : Nat} {σ σ' σ'' : Sto} {k : V → Sto → Prop} {bx q : Addr} {xs : List Int} {a b : Int}
theorem KeepB.refl : KeepB bx q σ σ := fun _ _ _ _ e => e
theorem KeepB.trans (a : KeepB bx q σ σ') (b : KeepB bx q σ' σ'') : KeepB bx q σ σ'' := fun x y n h1 e => b x y n h1 (a x y n h1 e)
theorem KeepB.ext (x : Ext σ σ') : KeepB bx q σ σ' := fun b y _ _ e => x b y e
theorem BoxAt.ext (B : BoxAt σ bx q xs a b) (x : Ext σ σ') : BoxAt σ' bx q xs a b := ⟨x _ _ B.hb, x _ _ B.hq, B.ne, B.ha, B.hx⟩
theorem fmod_nn (a : Int) {b : Int} (h : 0 < b) : 0 ≤ a.fmod b := by
  rw [Int.fmod_eq_emod_of_nonneg _ (Int.le_of_lt h)]
  exact Int.emod_nonneg _ (Int.ne_of_gt h)
theorem fmod_at (a : Int) {m : Nat} (h : 0 < m) : ∃ v : Nat, a.fmod m = v ∧ v < m := by
  have h1 : (0 : Int) < m := Int.ofNat_lt.mpr h
  have hv := fmod_nn a h1
  obtain ⟨v, e⟩ := Int.eq_ofNat_of_zero_le hv
  refine ⟨v, e, Int.ofNat_lt.mp ?_⟩
  have hl := Int.fmod_lt_of_pos a h1
  rw [e] at hl; exact hl
theorem na_of {a : Int} (h : 0 ≤ a ∧ a < 1000003) : a.natAbs < 1000003 := by omega
/-- the second number of the box is drawn anew -/
theorem BoxAt.turn (B : BoxAt σ bx q xs a b) {a' : Int} (h : 0 ≤ a' ∧ a' < 1000003) : BoxAt (upd σ bx (.list [.ref q, .int a', .int b])) bx q xs a' b ∧ KeepB bx q σ (upd σ bx (.list [.ref q, .int a', .int b])) :=
  ⟨⟨upd_eq, upd_ne' B.hq B.ne.symm, B.ne, h, B.hx⟩, fun b x n1 _ e => upd_ne' e n1⟩
theorem fmod_box (a : Int) : 0 ≤ a.fmod 1000003 ∧ a.fmod 1000003 < 1000003 := ⟨fmod_nn a (by decide), Int.fmod_lt_of_pos a (by decide)⟩
theorem v_take (ok : TOk g TBL) (B : BoxAt σ bx q xs a b) (m : Nat) (hm : 0 < m) (hk : ∀ (v : Nat) σ' xs' a', v < m → BoxAt σ' bx q xs' a' b → KeepB bx q σ σ' → k (.int v) σ') : VC g TBL (d + 1) (.fn F_law_take) [.ref bx, .int m] σ k := by
  have m0 : (m : Int) ≠ 0 := fun e => absurd (Int.ofNat.inj e) (Nat.ne_of_gt hm)
  refine v_fn (d_ir0 d_law_take ok rfl rfl rfl (u_listN (i := 0) B.hb (by decide) rfl (v_lenM (f := V.int) B.hq (Nat.le_trans B.hx (by decide)) (brD (fun hp => ?_) fun hp => ?_))))
  · cases xs with
    | nil => exact absurd hp (Int.lt_irrefl 0)
    | cons x r =>
      refine u_listN (i := 0) B.hb (by decide) rfl (m_pop B.hq (v_pop0 B.hq (big_k (by rw [List.length_cons, List.length_map]; exact Nat.le_trans B.hx (by decide))) (b_mod m0 ?_)))
      obtain ⟨v, e, lt⟩ := fmod_at x hm
      rw [e]
      exact hk v _ r a lt ⟨upd_ne' B.hb B.ne, upd_eq, B.ne, B.ha, Nat.le_of_succ_le B.hx⟩ fun b x _ n2 e => upd_ne' e n2
  · have ha := na_of B.ha
    refine u_listN (i := 1) B.hb (by decide) rfl (b_mul (Nat.lt_trans ha (by decide)) (by decide) (b_mod (by decide) (i_list (j := 1) B.hb (Nat.le_of_ble_eq_true rfl) (Nat.le_of_ble_eq_true rfl) ?_)))
    obtain ⟨B1, K1⟩ := B.turn (fmod_box (a * 4093 + 12289))
    refine u_listN (i := 1) B1.hb (by decide) rfl (b_div (by decide) (Nat.lt_trans (na_of B1.ha) (by decide)) (by decide) (b_mod m0 ?_))
    obtain ⟨v, e, lt⟩ := fmod_at (((a * 4093 + 12289).fmod 1000003).fdiv 8) hm
    rw [e]
    exact hk v _ xs _ lt B1 K1
end
end Mine

namespace Mine
theorem upd_upd {σ : Sto} {a : Addr} {c c' : Cell} : upd (upd σ a c) a c' = upd σ a c' := by
  funext b
  by_cases h : b = a
  · subst h; rw [upd_eq, upd_eq]
  · rw [upd_ne h, upd_ne h, upd_ne h]
inductive BxC (ms : List Int) (σ : Sto) : Addr → Nat → List V → Sto → Prop
  | mk {acc : Addr} {i : Nat} (h : σ acc = none) : BxC ms σ acc i ((ms.take i).map .int) (upd σ acc (.list ((ms.take i).map .int)))
inductive BxJ (sc f bx q : Addr) (ms : List Int) (σ : Sto) : List Int → Lo → Sto → Prop
  | mk {m : List Int} {ov : Option V} {a : Int} {σ' : Sto} (B : BoxAt σ' bx q ms a 6) (X : Ext σ σ') (hf : σ' f = some (.list (ms.map .int))) : BxJ sc f bx q ms σ m [some (.ref sc), ov, some (.ref bx)] σ'
section
variable {g : GE} {d : Nat} {σ : Sto} {k : V → Sto → Prop}
theorem v_box (ok : TOk g TBL) {sc : Addr} {ns : List Int} {o₀ : Obj} (hsc : σ sc = some (.ro (ns.map .int) o₀)) (hn : ns.length ≤ 1000)
    (hk : ∀ bx q xs a σ', σ bx = none → σ q = none → BoxAt σ' bx q xs a 6 → Ext σ σ' → k (.ref bx) σ') : VC g TBL (d + 1) (.fn F_law_box) [.ref sc] σ k := by
  have hl : (ns.map V.int).length ≤ 1000000 := by rw [List.length_map]; exact Nat.le_trans hn (by decide)
  have hms : (ns.take 40).length ≤ 1000 := Nat.le_trans (List.length_take_le' 40 ns) hn
  refine v_fn (d_ir0 d_law_box ok rfl rfl rfl (l_take (.inr ⟨o₀, hsc⟩) hl fun f hf => ?_))
  rw [← List.map_take]
  generalize hme : ns.take 40 = ms at hms ⊢
  refine .mk (ms.map V.int) (BxC ms (upd σ f (.list (ms.map V.int)))) (.list upd_eq) (fun acc ha => .mk ha) (fun acc i out σ' j _ => ?_) (fun acc i out y σ' j hy => ?_) fun acc out σ' j => ?_
  · cases j with | mk ha => exact .list (upd_old upd_eq ha)
  · cases j with | mk ha =>
    rw [List.getElem?_map] at hy
    obtain ⟨x, hx, e⟩ := Option.map_eq_some_iff.mp hy
    subst e
    refine v_int ⟨upd_eq, ?_, ?_⟩
    · rw [List.length_map]
      exact big_k (Nat.le_trans (List.length_take_le' i ms) (Nat.le_trans hms (by decide)))
    · have e : (ms.take i).map V.int ++ [V.int x] = (ms.take (i + 1)).map V.int := by rw [List.take_add_one, hx, List.map_append]; rfl
      rw [upd_upd, e]
      exact .mk ha
  · cases j with | mk ha =>
    rw [List.length_map, List.take_length]
    generalize hs : upd σ f (.list (ms.map V.int)) = σ₁ at ha ⊢
    have x1 : Ext σ σ₁ := hs ▸ ext_new hf
    refine fun bx hbx => ?_
    have x2 := ext_new (c := .list (ms.map V.int)) ha
    have x3 := ext_new (c := .list [.ref acc, .int 7, .int 6]) hbx
    have X := x1.trans (x2.trans x3)
    have nb := (ne_of hbx upd_eq).symm
    have B1 : BoxAt (upd (upd σ₁ acc (.list (ms.map V.int))) bx (.list [.ref acc, .int 7, .int 6])) bx acc ms 7 6 := ⟨upd_eq, upd_ne' upd_eq nb.symm, nb, ⟨by decide, by decide⟩, hms⟩
    have hbσ := x1.none (x2.none hbx)
    have haσ := x1.none ha
    revert B1 X
    generalize upd (upd σ₁ acc (.list (ms.map V.int))) bx (.list [.ref acc, .int 7, .int 6]) = σ₂
    intro X B1
    refine l_take (.inr ⟨o₀, X _ _ hsc⟩) hl fun f2 hf2 => ?_
    rw [← List.map_take, hme]
    refine l_forP (f := V.int) ms (BxJ sc f2 bx acc ms σ) (.mk (B1.ext (ext_new hf2)) (X.trans (ext_new hf2)) upd_eq) (fun m ρ' σ' j => ?_) (fun m ρ' σ' j x r el N nx => ?_) fun ρ' σ' j => ?_
    · cases j with | mk B X hf => exact .list hf
    · cases j with | @mk ov a _ B Y hf =>
      refine u_listN (i := 1) B.hb (by decide) rfl (b_mul (Nat.lt_trans (na_of B.ha) (by decide)) (by decide) (b_mod (by decide) (i_list (j := 1) B.hb (Nat.le_of_ble_eq_true rfl) (Nat.le_of_ble_eq_true rfl) ?_)))
      exact nx _ _ (.mk (B.turn (fmod_box _)).1 (fun b y e => upd_ne' (Y b y e) (ne_of hbσ e)) (upd_ne' hf (ne_of hf2 B1.hb).symm))
    · cases j with | mk B X hf => exact hk bx acc ms _ _ hbσ haσ B X
end
end Mine

namespace Mine
/-- small for its inner nodes -/
structure Sm (n : Nd) : Prop where
  z : n.size + 1 ≤ 2 * n.w
  w : n.wt ≤ 2 * n.w
theorem Sm.one {a b : Nd} (h : Sm a) (e1 : b.size = a.size + 1) (e2 : b.w = a.w + 1) (e3 : b.wt = a.wt) : Sm b := ⟨by rw [e1, e2]; exact Nat.le_trans (Nat.succ_le_succ h.z) (Nat.le_succ _), by rw [e2, e3]; exact Nat.le_trans h.w (Nat.le_add_right _ 2)⟩
theorem Sm.two {a b c : Nd} (h : Sm a) (h' : Sm b) (e1 : c.size = a.size + b.size + 1) (e2 : c.w = a.w + b.w) (e3 : c.wt = a.wt + b.wt) : Sm c := ⟨by
  rw [e1, e2, Nat.mul_add]
  exact Nat.le_trans (Nat.le_of_eq (Nat.add_add_add_comm a.size 1 b.size 1).symm) (Nat.add_le_add h.z h'.z), by rw [e2, e3, Nat.mul_add]; exact Nat.add_le_add h.w h'.w⟩
noncomputable def pB (b : Int) : Nat := (b - 1).toNat
theorem pB_le (b : Int) : pB (b - 1) ≤ pB b := Int.toNat_le_toNat (Int.sub_le_self _ (by decide))
theorem pB_step {b : Int} (h : 0 < b - 1) : pB (b - 1) + 1 = pB b := by
  obtain ⟨c, e⟩ := Int.eq_succ_of_zero_lt h
  unfold pB
  rw [e]
  exact congrArg (fun z : Int => z.toNat + 1) (Int.add_sub_cancel (c : Int) 1)
inductive LeafV (R : Nat → Addr) : V → Prop
  | mk (nd : Nd) (w : nd.w = 1) (s : Sm nd) : LeafV R (ndV R nd)
theorem LeafV.ch {R : Nat → Addr} (s : Str) (h : s.length ≤ 2) : LeafV R (.tup [.str "chars", .str s]) := .mk (.chars s) rfl ⟨Nat.le_refl 2, h⟩
theorem LeafV.of {R : Nat → Addr} (nd : Nd) (h1 : nd.w = 1) (h2 : nd.size = 1) (h3 : nd.wt = 0) : LeafV R (ndV R nd) := .mk nd h1 ⟨by rw [h1, h2]; exact Nat.le_refl 2, by rw [h3]; exact Nat.zero_le _⟩
inductive OneV (R : Nat → Addr) (a : Nd) : V → Prop
  | mk (nd : Nd) (w : nd.w = a.w + 1) (s : Sm nd) : OneV R a (ndV R nd)
inductive TwoV (R : Nat → Addr) (a b : Nd) : V → Prop
  | mk (nd : Nd) (w : nd.w = a.w + b.w) (s : Sm nd) : TwoV R a b (ndV R nd)
theorem OneV.of {R : Nat → Addr} {a : Nd} (h : Sm a) (nd : Nd) (e1 : nd.size = a.size + 1) (e2 : nd.w = a.w + 1) (e3 : nd.wt = a.wt) : OneV R a (ndV R nd) := .mk nd e2 (h.one e1 e2 e3)
theorem TwoV.of {R : Nat → Addr} {a b : Nd} (h : Sm a) (h' : Sm b) (nd : Nd) (e1 : nd.size = a.size + b.size + 1) (e2 : nd.w = a.w + b.w) (e3 : nd.wt = a.wt + b.wt) : TwoV R a b (ndV R nd) := .mk nd e2 (h.two h' e1 e2 e3)
inductive RefV (R : Nat → Addr) : V → Prop
  | mk (i : Nat) : RefV R (.ref (R i))
inductive AllP (P : V → Prop) : List V → Prop
  | nil : AllP P []
  | cons {x : V} {r : List V} (h : P x) (t : AllP P r) : AllP P (x :: r)
theorem AllP.at {P : V → Prop} {l : List V} (h : AllP P l) : ∀ {n : Nat}, n < l.length → ∃ v, l[n]? = some v ∧ P v := by
  induction h with
  | nil => exact fun h => absurd h (Nat.not_lt_zero _)
  | @cons x r hx _ ih =>
    intro n h
    cases n with
    | zero => exact ⟨x, rfl, hx⟩
    | succ n => exact ih (Nat.lt_of_succ_lt_succ h)
noncomputable def tlI : I → I
  | .cons _ r => r
  | x => x
section
variable {g : GE} {d : Nat} {σ σ' : Sto} {k : V → Sto → Prop} {K : V → Prop} {P : V → Prop} {l : List V} {bx q rf f : Addr} {xs : List Int} {a b : Int} {R : Nat → Addr}
theorem u_pick (hf : σ f = some (.list l)) (hp : AllP P l) (n : Nat) {w : Nat} (h0 : ¬ (w : Int) < (n : Nat)) (h1 : w < n + l.length) (hl : l.length ≤ 1000) (hk : ∀ v, P v → K v) : VU g (.ref f) (.int (w - (n : Nat))) σ K := by
  have h0 : n ≤ w := Int.ofNat_le.mp (Int.not_lt.mp h0)
  have h1 : w - n < l.length := Nat.sub_lt_left_of_lt_add h0 h1
  obtain ⟨v, e, p⟩ := hp.at h1
  rw [← Int.ofNat_sub h0]
  exact u_listN hf (Nat.lt_trans (Nat.lt_of_lt_of_le h1 hl) (by decide)) e (hk v p)
theorem v_pick (ok : TOk g TBL) (B : BoxAt σ bx q xs a b) (hf : σ f = some (.list l)) (n1 : f ≠ bx) (n2 : f ≠ q) (hp : AllP P l) (m : Nat) (hm : 0 < m) (h1 : m = l.length) (hl : l.length ≤ 1000) (hk : ∀ v σ' xs' a', P v → BoxAt σ' bx q xs' a' b → KeepB bx q σ σ' → k v σ') :
    VC g TBL (d + 1) (.fn F_law_take) [.ref bx, .int m] σ fun y σ => suW g (.ref f) y σ fun z => k z σ := by
  refine v_take ok B m hm fun v σ' xs' a' lt B' K' => ?_
  obtain ⟨z, e, p⟩ := hp.at (h1 ▸ lt)
  exact u_listN (K' f _ n1 n2 hf) (Nat.lt_trans (Nat.lt_of_lt_of_le (h1 ▸ lt) hl) (by decide)) e (hk z σ' xs' a' p B' K')
theorem v_pickN (ok : TOk g TBL) (B : BoxAt σ bx q xs a b) (hf : σ f = none) (hp : AllP P l) (m : Nat) (hm : 0 < m) (h1 : m = l.length) (hl : l.length ≤ 1000) (hk : ∀ v σ' xs' a', P v → BoxAt σ' bx q xs' a' b → KeepB bx q σ σ' → k v σ') :
    VC g TBL (d + 1) (.fn F_law_take) [.ref bx, .int m] (upd σ f (.list l)) fun y σ => suW g (.ref f) y σ fun z => k z σ :=
  v_pick ok (B.ext (ext_new hf)) upd_eq (ne_of hf B.hb).symm (ne_of hf B.hq).symm hp m hm h1 hl fun v σ' xs' a' p B' K' => hk v σ' xs' a' p B' ((KeepB.ext (ext_new hf)).trans K')
/-- what a form's caller gets -/
noncomputable def Got (R : Nat → Addr) (bx q : Addr) (b : Int) (k : V → Sto → Prop) (σ : Sto) : Prop := ∀ nd xs' a' b' σ', Sm nd → nd.w + pB b' ≤ pB b + 1 → BoxAt σ' bx q xs' a' b' → KeepB bx q σ σ' → k (ndV R nd) σ'
theorem Got.leaf (h : Got R bx q b k σ) {v : V} (p : LeafV R v) (B : BoxAt σ' bx q xs a (b - 1)) (K : KeepB bx q σ σ') : k v σ' := by
  cases p with | mk nd w s => exact h nd xs a (b - 1) σ' s (by rw [w, Nat.add_comm]; exact Nat.succ_le_succ (pB_le b)) B K
theorem Got.one (h : Got R bx q b k σ) {v : V} {nd : Nd} {b' : Int} (h0 : 0 < b - 1) (e : nd.w + pB b' ≤ pB (b - 1) + 1) (p : OneV R nd v) (B : BoxAt σ' bx q xs a b') (K : KeepB bx q σ σ') : k v σ' := by
  cases p with | mk nd w s => exact h nd xs a b' σ' s (by rw [w, Nat.add_right_comm, ← pB_step h0]; exact Nat.succ_le_succ e) B K
theorem Got.two (h : Got R bx q b k σ) {v : V} {nd nd' : Nd} {b' b'' : Int} (h0 : 0 < b - 1) (e : nd.w + pB b' ≤ pB (b - 1) + 1) (e' : nd'.w + pB b'' ≤ pB b' + 1) (p : TwoV R nd nd' v) (B : BoxAt σ' bx q xs a b'') (K : KeepB bx q σ σ') : k v σ' := by
  cases p with | mk nd w s => exact h nd xs a b'' σ' s (by rw [w, ← pB_step h0, Nat.add_assoc]; exact Nat.le_trans (Nat.add_le_add_left e' _) (Nat.succ_le_succ e)) B K
noncomputable def NodeOk (g : GE) (d : Nat) (R : Nat → Addr) (bx q rf : Addr) (z : Int) : Prop := ∀ σ xs a b k, BoxAt σ bx q xs a b → σ rf = some (.list [.ref (R 0), .ref (R 1), .ref (R 2)]) → Got R bx q b k σ → CallC g d F_law_node [.ref bx, .int z, .ref rf] σ k
theorem refs_all : AllP (RefV R) [.ref (R 0), .ref (R 1), .ref (R 2)] := .cons ⟨0⟩ (.cons ⟨1⟩ (.cons ⟨2⟩ .nil))
/-- what follows the draw of the form -/
theorem node_rest (ok : TOk g TBL) {z : Int} (ih : 0 < z → NodeOk g (d + 2) R bx q rf (z - 1)) (r1 : rf ≠ bx) (r2 : rf ≠ q) {v : Nat} (hv : v < 16) (h9 : 9 ≤ v → 0 < z ∧ 0 < b - 1) {σ₁ : Sto} (B : BoxAt σ₁ bx q xs a (b - 1)) (K : KeepB bx q σ σ₁)
    (hrf : σ₁ rf = some (.list [.ref (R 0), .ref (R 1), .ref (R 2)])) (hk : Got R bx q b k σ) {x4 x5 : Option V} : wS g TBL (d + 2) (tlI (tlI I_law_node)) [] [some (.ref bx), some (.int z), some (.ref rf), some (.int v), x4, x5] σ₁ (endF k) := by
  refine brD (fun c1 => ?_) fun c1 => brD (fun c2 => ?_) fun c2 => brD (fun c3 => ?_) fun c3 => brD (fun c4 => ?_) fun c4 => brD (fun c5 => ?_) fun c5 => ?_
  · exact fun f hf => v_pickN ok B hf (P := fun z => LeafV R (.tup [.str "chars", z])) (.cons (.ch "a" (by decide)) (.cons (.ch "b" (by decide)) (.cons (.ch "ab" (by decide)) (.cons (.ch "" (by decide)) .nil)))) 4 (by decide) rfl (by decide) fun v σ' xs' a' p B' K' => hk.leaf p B' (K.trans K')
  · refine v_take ok B 3 (by decide) fun w σ2 xs2 a2 _ B2 K2 => v_take ok B2 6 (by decide) fun u σ3 xs3 a3 _ B3 K3 ca hca sa hsa => ?_
    refine v_pickN ok (B3.ext (ext_new hca)) hsa (P := fun z => LeafV R (.tup [.str "span", z])) (.cons (.of (.span "a") rfl rfl rfl) (.cons (.of (.span "ab") rfl rfl rfl) .nil)) 2 (by decide) rfl (by decide) fun y σ4 xs4 a4 p B4 K4 la hla => ?_
    have hca4 := K4 ca _ (ne_of hca B3.hb).symm (ne_of hca B3.hq).symm upd_eq
    refine b_app (upd_old hca4 hla) upd_eq (Nat.le_of_ble_eq_true rfl) fun na hna => ?_
    refine u_pick (P := LeafV R) (n := 3) upd_eq (.cons (.of (.len w) rfl rfl rfl) (.cons (.of (.tab u) rfl rfl rfl) (.cons p .nil))) c1 (Int.ofNat_lt.mp c2) (Nat.le_of_ble_eq_true rfl) fun v p => ?_
    exact hk.leaf p ((B4.ext (ext_new hla)).ext (ext_new hna)) (K.trans (K2.trans (K3.trans ((KeepB.ext (ext_new hca)).trans (K4.trans (KeepB.ext ((ext_new hla).trans (ext_new hna))))))))
  · exact fun f hf => v_pickN ok B hf (P := fun z => LeafV R (.tup [.str "any", z])) (.cons (.of (.any "a") rfl rfl rfl) (.cons (.of (.any "b") rfl rfl rfl) (.cons (.of (.any "ab") rfl rfl rfl) .nil))) 3 (by decide) rfl (by decide) fun v σ' xs' a' p B' K' => hk.leaf p B' (K.trans K')
  · exact fun f hf => v_pickN ok B hf (P := LeafV R) (.cons (.of .arb rfl rfl rfl) (.cons (.of .rem rfl rfl rfl) (.cons (.of .fail rfl rfl rfl) (.cons (.of .arb rfl rfl rfl) .nil)))) 4 (by decide) rfl (Nat.le_of_ble_eq_true rfl) fun v σ' xs' a' p B' K' => hk.leaf p B' (K.trans K')
  · exact v_pick ok B hrf r1 r2 refs_all 3 (by decide) rfl (Nat.le_of_ble_eq_true rfl) fun v σ' xs' a' p B' K' => by cases p with | mk i => exact hk.leaf (.of (.cur i) rfl rfl rfl) B' (K.trans K')
  have up : ∀ {n : Nat}, n ≤ v → ¬ (v : Int) = (n : Nat) → n + 1 ≤ v := fun h1 h2 => Nat.lt_of_le_of_ne h1 fun e => h2 (congrArg Int.ofNat e.symm)
  have h9v := up (up (up (Int.ofNat_le.mp (Int.not_lt.mp c2)) c3) c4) c5
  obtain ⟨hz, hb⟩ := h9 h9v
  clear c1 c2 c3 c4 c5 h9
  refine v_fn (ih hz σ₁ xs a (b - 1) _ B hrf fun n1 xs3 a3 b3 σ3 s1 e1 B3 K3 => ?_)
  refine brD (fun c6 => ?_) fun c6 => brD (fun c7 => ?_) fun c7 => ?_
  · exact hk.one hb e1 (.of s1 (.arbno n1) rfl rfl rfl) B3 (K.trans K3)
  · refine fun f hf => u_pick (P := fun z => ∀ i, OneV R n1 (.tup [z, ndV R n1, .ref (R i)])) (n := 10) upd_eq (.cons (fun i => .of s1 (.later n1 i) rfl rfl rfl) (.cons (fun i => .of s1 (.now n1 i) rfl rfl rfl) (.cons (fun i => .of s1 (.later n1 i) rfl rfl rfl) .nil))) (fun h => absurd (up h9v c6) (Nat.not_le_of_lt (Int.ofNat_lt.mp h))) (Int.ofNat_lt.mp c7) (Nat.le_of_ble_eq_true rfl) fun y py => ?_
    exact v_pick ok (B3.ext (ext_new hf)) (upd_old (K3 _ _ r1 r2 hrf) hf) r1 r2 refs_all 3 (by decide) rfl (Nat.le_of_ble_eq_true rfl) fun v σ' xs' a' p B' K' => by cases p with | mk i => exact hk.one hb e1 (py i) B' (K.trans (K3.trans ((KeepB.ext (ext_new hf)).trans K')))
  · have hrf3 := K3 _ _ r1 r2 hrf
    have fin : ∀ {z2 : V}, (∀ n2, Sm n2 → TwoV R n1 n2 (.tup [z2, ndV R n1, ndV R n2])) → CallC g (d + 2) F_law_node [.ref bx, .int (z - 1), .ref rf] σ3 fun y σ => k (.tup [z2, ndV R n1, y]) σ := fun {z2} p2 => ih hz σ3 xs3 a3 b3 _ B3 hrf3 fun n2 xs4 a4 b4 σ4 s2 e2 B4 K4 => hk.two hb e1 e2 (p2 n2 s2) B4 (K.trans (K3.trans K4))
    have alt := v_fn (tb := TBL) (fin (z2 := .str "alt") fun n2 s2 => .of s1 s2 (.alt n1 n2) rfl rfl rfl)
    exact brD (fun c8 => brN (fun c9 => alt) fun c9 => v_fn (fin (z2 := .str "cat") fun n2 s2 => .of s1 s2 (.cat n1 n2) rfl rfl rfl)) fun c8 => alt
theorem node_go (ok : TOk g TBL) {z : Int} (r1 : rf ≠ bx) (r2 : rf ≠ q) (ih : 0 < z → NodeOk g (d + 2) R bx q rf (z - 1)) : NodeOk g (d + 3) R bx q rf z := by
  intro σ xs a b k B hrf hk
  refine d_ir0 d_law_node ok rfl rfl rfl (u_listN (i := 2) B.hb (by decide) rfl (i_list (j := 2) B.hb (Nat.le_of_ble_eq_true rfl) (Nat.le_of_ble_eq_true rfl) ?_))
  have B1 : BoxAt (upd σ bx (.list [.ref q, .int a, .int (b - 1)])) bx q xs a (b - 1) := ⟨upd_eq, upd_ne' B.hq B.ne.symm, B.ne, B.ha, B.hx⟩
  have K1 : KeepB bx q σ (upd σ bx (.list [.ref q, .int a, .int (b - 1)])) := fun b x n1 _ e => upd_ne' e n1
  have rest : ∀ (m : Nat), 0 < m → m ≤ 16 → (9 < m → 0 < z ∧ 0 < b - 1) → VC g TBL (d + 2) (.fn F_law_take) [.ref bx, .int m] (upd σ bx (.list [.ref q, .int a, .int (b - 1)])) fun v σ => wS g TBL (d + 2) (tlI (tlI I_law_node)) [] [some (.ref bx), some (.int z), some (.ref rf), some v, none, none] σ (endF k) :=
    fun m h0 h1 h9 => v_take ok B1 m h0 fun v σ2 xs2 a2 lt B2 K2 => node_rest ok ih r1 r2 (Nat.lt_of_lt_of_le lt h1) (fun h => h9 (Nat.lt_of_le_of_lt h lt)) B2 (K1.trans K2) ((K1.trans K2) _ _ r1 r2 hrf) hk
  exact brD (fun hD => u_listN (i := 2) B1.hb (by decide) rfl (brD (fun hB => rest 16 (by decide) (by decide) fun _ => ⟨hD, hB⟩) fun hB => rest 9 (by decide) (by decide) fun h => absurd h (Nat.lt_irrefl 9))) fun hD => rest 9 (by decide) (by decide) fun h => absurd h (Nat.lt_irrefl 9)
theorem sp_node (ok : TOk g TBL) (R : Nat → Addr) {bx q rf : Addr} (r1 : rf ≠ bx) (r2 : rf ≠ q) (D : Nat) : ∀ z : Int, z = D → NodeOk g (D + 3) R bx q rf z := by
  induction D with
  | zero => exact fun z hz => node_go (d := 0) ok r1 r2 fun h => absurd h (by rw [hz]; exact Int.lt_irrefl 0)
  | succ D ih => exact fun z hz => node_go (d := D + 1) ok r1 r2 fun h => ih (z - 1) (by rw [hz]; exact Int.add_sub_cancel (D : Int) 1)
end
end Mine

namespace Mine
/-! ## the law's own road: a single part -/
section
variable {σ σ' : Sto}
theorem cells3 {v1 v2 v3 : Option V} {k : List Addr → Sto → Prop}
    (h : ∀ a1 a2 a3 σ', Ext σ σ' → σ' a1 = some (.cell v1) → σ' a2 = some (.cell v2) → σ' a3 = some (.cell v3) → a1 ≠ a3 → a2 ≠ a3 → σ a3 = none → k [a3, a2, a1] σ') : cellW [v1, v2, v3] σ [] k := fun a1 h1 a2 h2 a3 h3 =>
  have e1 := upd_eq (σ := σ) (a := a1) (c := .cell v1)
  have e2 := upd_old (c' := .cell v2) e1 h2
  have e3 := upd_eq (σ := upd σ a1 (.cell v1)) (a := a2) (c := .cell v2)
  h a1 a2 a3 _ ((ext_new h1).trans ((ext_new h2).trans (ext_new h3))) (upd_old e2 h3) (upd_old e3 h3) upd_eq (ne_of h3 e2) (ne_of h3 e3) ((ext_new h1).none ((ext_new h2).none h3))
end
theorem lay_ones (m : Nat) : PyData.canLayAll0 (List.replicate m (.int 1)) = true ∧ PyData.depthAll (List.replicate m (.int 1)) = 0 := by
  induction m with
  | zero => exact ⟨rfl, rfl⟩
  | succ m ih =>
    rw [List.replicate_succ]
    exact ⟨(Bool.true_and _).trans ih.1, (congrArg (max 0) ih.2).trans rfl⟩
theorem datas_ones {σ : Sto} (m : Nat) : DatasOf σ (List.replicate m (.int 1)) (List.replicate m (.int 1)) := by
  induction m with
  | zero => exact rfl
  | succ m ih =>
    rw [List.replicate_succ, List.replicate_succ]
    exact ⟨_, _, rfl, rfl, ih⟩
theorem q_ones {g : GE} {σ : Sto} {a b : Addr} {m : Nat} {K : Bool → Prop} (ha : σ a = some (.list (List.replicate m (.int 1)))) (hb : σ b = some (.list [])) (q : K (decide (m = 0))) : VQ g .Eq (.ref a) (.ref b) σ K := by
  refine q_eqD (da := .list (List.replicate m (.int 1))) (db := .list []) ⟨a, _, rfl, ha, datas_ones m⟩ ⟨b, _, rfl, hb, rfl⟩ (lay_ones m).1 rfl (by show PyData.depthAll _ + 1 ≤ 20; rw [(lay_ones m).2]; decide) ?_
  cases m with
  | zero => exact q
  | succ m => exact q
theorem run_all (u : Str) (l : List Nat) : ∀ (a j : Nat), j < l.length → (l.take (j + 1)).all (isIn u) = decide (a + j < runE u l a) := by
  induction l with
  | nil => exact fun a j h => absurd h (Nat.not_lt_zero j)
  | cons c r ih =>
    intro a j h
    cases hc : isIn u c with
    | false =>
      rw [runE_cons, if_neg (by rw [hc]; decide), decide_eq_false (Nat.not_lt.mpr (Nat.le_add_right a j))]
      show (isIn u c && _) = false
      rw [hc]; rfl
    | true =>
      rw [runE_cons, if_pos hc]
      show (isIn u c && (r.take j).all (isIn u)) = _
      rw [hc, Bool.true_and]
      cases j with
      | zero => exact (decide_eq_true (runE_le u r (a + 1)).1).symm
      | succ j => rw [ih (a + 1) j (Nat.lt_of_succ_lt_succ h), Nat.add_right_comm]; rfl
theorem range_at {a b : Int} {j : Nat} {y : V} (h : (rangeV a b)[j]? = some y) : y = .int (a + j) := by
  unfold rangeV at h
  rw [List.getElem?_map] at h
  obtain ⟨x, hx, e⟩ := Option.map_eq_some_iff.mp h
  rw [← e, (List.getElem?_eq_some_iff.mp hx).2.symm, List.getElem_range]
theorem one_at {s : Str} {i : Nat} (hi : i ≤ s.length) : (∃ c, (sl s)[i]? = some c ∧ i < s.length ∧ Txt.slice s (some (i : Int)) (some ((i + 1 : Nat) : Int)) ≠ "") ∨ ((sl s)[i]? = none ∧ Txt.slice s (some (i : Int)) (some ((i + 1 : Nat) : Int)) = "") := by
  have h := slice_ij s i (i + 1) hi
  rw [Nat.add_sub_cancel_left] at h
  rcases Nat.lt_or_ge i s.length with q | q
  · obtain ⟨c, e1, e2⟩ := sign_at q
    rw [e2] at h
    exact .inl ⟨c, e1, q, fun e => by rw [e] at h; cases h⟩
  · have q' : (sl s).length ≤ i := by rw [sl_len]; exact q
    rw [List.drop_eq_nil_of_le q'] at h
    exact .inr ⟨List.getElem?_eq_none q', str_ext h⟩
theorem ascii_of {x y : Str} {i j : Nat} (h : x.cps.all (· < 128) = true) (e : sl y = ((sl x).drop i).take j) : y.cps.all (· < 128) = true := by
  rw [← Array.all_toList, List.all_eq_true] at h ⊢
  exact fun c hc => h c (List.mem_of_mem_drop (List.mem_of_mem_take (show c ∈ ((sl x).drop i).take j from e ▸ (show c ∈ sl y from hc))))
/-- what of a part is in the set, so far -/
inductive SpJ (i R : Nat) (σ : Sto) : Addr → Nat → List V → Sto → Prop
  | mk {acc : Addr} {j : Nat} {out : List V} {σ' : Sto} (X : Ext σ σ') (f : σ acc = none) (e : σ' acc = some (.list out)) (h : i + out.length = min (i + j) R) : SpJ i R σ acc j out σ'
inductive SnJ (u : Str) (x : List Nat) (σ : Sto) : Addr → Nat → List V → Sto → Prop
  | mk {acc : Addr} {m nb : Nat} {σ' : Sto} (X : Ext σ σ') (f : σ acc = none) (e : σ' acc = some (.list (List.replicate nb (.int 1)))) (h : decide (nb = 0) = (x.take m).all (isIn u)) (hb : nb ≤ m) : SnJ u x σ acc m (List.replicate nb (.int 1)) σ'
/-- the world of the trials -/
structure Tn where
  R : Nat → Addr
  Rd : Nat → Addr
  s : Str
  rs : List Str
  w : Addr
  rA : Addr
  lA : Addr
  vA : Addr
abbrev worldL (t : Tn) (nd : V) : List (Str × V) := [("subject", .str t.s), ("refused", .ref t.rA), ("log", .ref t.lA), ("values", .ref t.vA), ("node", nd)]
section
variable {g : GE} {d : Nat} {σ : Sto} {k : V → Sto → Prop}
theorem v_plain (ok : TOk g TBL) (t : Tn) {nd : V} (hw : σ t.w = some (.map (worldL t nd))) (n : Nd) (i : Nat) (hs : t.s.length ≤ 1000) (hasc : t.s.cps.all (· < 128) = true) (hi : i ≤ t.s.length) (hn : (singles.any (· == kindS n)) = true) (hr : n ≠ .rem) (hwt : n.wt ≤ 1000)
    (h : ∀ σ', Ext σ σ' → k (optV (pend t.s n i)) σ') : VC g TBL (d + 1) (.fn F_law_plain) [.ref t.w, .str (kindS n), toldV n, .int i] σ k := by
  refine v_fn (d_irC d_law_plain ok (noTab rfl) rfl (hvs := show cellV _ _ = [some (toldV n), some (.int i), none] by kernel_rfl!) (cells3 fun a1 a2 a3 σ1 X c1 c2 c3 n1 n2 f => ?_))
  have hw1 := X _ _ hw
  refine u_map hw1 rfl ?_
  refine u_map hw1 rfl ?_
  refine v_lenS (big_s hs) ?_
  refine .mk rfl c3 ?_
  have f1 := upd_ne' (c' := .cell (some (.str t.s))) c1 n1
  have f2 := upd_ne' (c' := .cell (some (.str t.s))) c2 n2
  have f3 := upd_eq (σ := σ1) (a := a3) (c := .cell (some (.str t.s)))
  have hk : ∀ σ', Ext (upd σ1 a3 (.cell (some (.str t.s)))) σ' → k (optV (pend t.s n i)) σ' := fun σ' x => h σ' (Ext.trans (fun b c e => upd_ne' (X b c e) (ne_of f e)) x)
  revert f1 f2 f3 hk
  clear X c1 c2 c3 n1 n2 f hw1 hw h
  generalize upd σ1 a3 (.cell (some (.str t.s))) = σ2
  intro f1 f2 f3 hk
  have hn := (sg_all _ n.num_lt).1.symm.trans hn
  cases n with
  | rem => exact absurd rfl hr
  | chars u =>
    replace hk := hk _ .refl
    refine .mk rfl f3 (.mk rfl f2 (l_str (lo := some (i : Int)) (hi := none) rfl rfl (Nat.le_trans hs (by decide)) (m_sw (.mk rfl f1 (v_sw ?_)))))
    rw [starts_eq, slice_i t.s i hi]
    refine brD (fun hp => ?_) fun hp => ?_
    · rw [show pend t.s (.chars u) i = some (i + u.length) from if_pos hp] at hk
      exact .mk rfl f2 (.mk rfl f1 (v_lenS (big_s hwt) hk))
    · rw [show pend t.s (.chars u) i = none from if_neg hp] at hk
      exact hk
  | len u =>
    replace hk := hk _ .refl
    refine .mk rfl f2 (.mk rfl f1 (brD (fun hp => ?_) fun hp => ?_))
    · rw [show pend t.s (.len u) i = some (i + u) from if_pos (Int.ofNat_le.mp hp)] at hk
      exact .mk rfl f2 (.mk rfl f1 hk)
    · rw [show pend t.s (.len u) i = none from if_neg fun q => hp (Int.ofNat_le.mpr q)] at hk
      exact hk
  | tab u =>
    replace hk := hk _ .refl
    have e : pend t.s (.tab u) i = if i ≤ u then (if u ≤ t.s.length then some u else none) else none := rfl
    refine .mk rfl f2 (.mk rfl f1 (brD (fun hp => brD (fun hq => ?_) fun hq => ?_) fun hp => ?_))
    · rw [e, if_pos (Int.ofNat_le.mp hp), if_pos (Int.ofNat_le.mp hq)] at hk
      exact .mk rfl f1 hk
    · rw [e, if_pos (Int.ofNat_le.mp hp), if_neg fun q => hq (Int.ofNat_le.mpr q)] at hk
      exact hk
    · rw [e, if_neg fun q => hp (Int.ofNat_le.mpr q)] at hk
      exact hk
  | any u =>
    replace hk := hk _ .refl
    have e : pend t.s (.any u) i = pAny u i (sl t.s)[i]? := rfl
    refine .mk rfl f3 (.mk rfl f2 (.mk rfl f2 (l_str (lo := some (i : Int)) (hi := some ((i + 1 : Nat) : Int)) rfl rfl (Nat.le_trans hs (by decide)) ?_)))
    rw [e] at hk
    rcases one_at hi with ⟨c, hc, hp, ne⟩ | ⟨hc, ne⟩
    · refine brN (fun q => absurd q ne) fun _ => .mk rfl f3 (.mk rfl f2 (u_strN (lt62s hs hp) hc (.mk rfl f1 (q_inS ?_))))
      rw [hc] at hk
      cases hb : Txt.contains u ⟨#[c]⟩ with
      | true => rw [show pAny u i (some c) = some (i + 1) from if_pos hb] at hk; exact .mk rfl f2 hk
      | false => rw [show pAny u i (some c) = none from if_neg (by unfold isIn; rw [hb]; decide)] at hk; exact hk
    · rw [hc] at hk
      exact brN (fun _ => hk) fun q => absurd ne q
  | span u =>
    have hr := runE_le u ((sl t.s).drop i) i
    have hra := run_all u ((sl t.s).drop i) i
    have hdl : ((sl t.s).drop i).length = t.s.length - i := by rw [List.length_drop, sl_len]
    replace hk : ∀ σ', Ext σ2 σ' → k (optV (pSpan i (runE u ((sl t.s).drop i) i))) σ' := hk
    rw [hdl] at hr hra
    generalize runE u ((sl t.s).drop i) i = R at hr hra hk
    have hrl : (rangeV (i : Int) (t.s.length : Int)).length = t.s.length - i := by unfold rangeV; rw [List.length_map, List.length_range]; exact Int.toNat_sub _ _
    have hb : t.s.length ≤ big := big_s hs
    have hrg : ∀ {σ : Sto}, Its σ (.rng i t.s.length) (rangeV i t.s.length) := .rng ⟨Int.natCast_nonneg _, Int.ofNat_le.mpr (Nat.le_trans hi hb), Int.natCast_nonneg _, Int.ofNat_le.mpr hb⟩
    refine .mk rfl f2 (.mk rfl f2 (v_rg2 (.mk (rangeV i t.s.length) (SpJ i R σ2) hrg (fun acc ha => .mk (ext_new ha) ha upd_eq ?_) (fun acc j out σ' _ _ => hrg) (fun acc j out y σ' J hy => ?_) fun acc out σ' J => ?_)))
    · exact (Nat.min_eq_left hr.1).symm
    · cases J with | mk X f e h =>
      have hjl := (List.getElem?_eq_some_iff.mp hy).1
      rw [hrl] at hjl
      cases range_at hy
      refine .mk rfl (X _ _ f3) (.mk rfl (X _ _ f2) (l_str (lo := some (i : Int)) (hi := some ((i + j + 1 : Nat) : Int)) rfl rfl (Nat.le_trans hs (by decide)) ?_))
      have hxl := slice_ij t.s i (i + j + 1) hi
      rw [Nat.add_assoc i j 1, Nat.add_sub_cancel_left] at hxl
      have hxa := ascii_of hasc hxl
      have hxn : (sl (Txt.slice t.s (some (i : Int)) (some ((i + (j + 1) : Nat) : Int)))).length ≤ 1000 := by
        rw [hxl, List.length_take, List.length_drop, sl_len]
        exact Nat.le_trans (Nat.min_le_right _ _) (Nat.le_trans (Nat.sub_le _ _) hs)
      have hall := hra j hjl
      rw [← hxl] at hall
      revert hxa hxn hall
      show _ → _ → _ → LC (.str (Txt.slice t.s (some (i : Int)) (some ((i + (j + 1) : Nat) : Int)))) _ _ _ _ _ _ _
      generalize Txt.slice t.s (some (i : Int)) (some ((i + (j + 1) : Nat) : Int)) = x
      intro hxa hxn hall
      refine .mk ((sl x).map fun c => .str ⟨#[c]⟩) (SnJ u (sl x) σ') (.str hxa) (fun acc' ha => .mk (nb := 0) (ext_new ha) ha upd_eq rfl (Nat.le_refl 0)) (fun _ _ _ _ _ _ => .str hxa) (fun acc' m out' y' σ'' J' hy' => ?_) fun acc' out' σ'' J' => ?_
      · cases J' with | @mk nb _ X' f' e' h' hb' =>
        rw [List.getElem?_map] at hy'
        obtain ⟨c, hc, ee⟩ := Option.map_eq_some_iff.mp hy'
        subst ee
        refine .mk rfl (X' _ _ (X _ _ f1)) (q_niS ?_)
        have ht : ((sl x).take (m + 1)).all (isIn u) = (((sl x).take m).all (isIn u) && isIn u c) := by rw [List.take_add_one, hc, List.all_append]; exact congrArg _ (Bool.and_true _)
        rw [← h'] at ht
        cases hcu : Txt.contains u ⟨#[c]⟩ with
        | true =>
          refine .mk X' f' e' ?_ (Nat.le_succ_of_le hb')
          rw [ht, show isIn u c = true from hcu, Bool.and_true]
        | false =>
          have e2 : List.replicate nb (V.int 1) ++ [.int 1] = List.replicate (nb + 1) (.int 1) := List.replicate_succ'.symm
          refine ⟨e', ?_, ?_⟩
          · rw [List.length_replicate]
            exact Nat.le_trans hb' (Nat.le_trans (Nat.le_of_lt (List.getElem?_eq_some_iff.mp hc).1) (Nat.le_trans hxn (by decide)))
          · rw [e2]
            refine .mk (fun b y e => upd_ne' (X' b y e) (ne_of f' e)) f' upd_eq ?_ (Nat.succ_le_succ hb')
            rw [ht, show isIn u c = false from hcu, Bool.and_false]
            exact decide_eq_false (Nat.succ_ne_zero nb)
      · cases J' with | @mk nb _ X' f' e' h' hb' =>
        rw [List.length_map, List.take_length, hall] at h'
        refine fun b hb => q_ones (upd_old e' hb) upd_eq ?_
        rw [h']
        have X3 := (X.trans X').trans (ext_new (c := .list []) hb)
        have e3 := upd_old (c' := .list []) (X' _ _ e) hb
        refine brD (fun hp => ⟨e3, ?_, .mk (fun b y e => upd_ne' (X3 b y e) (ne_of f e)) f upd_eq ?_⟩) fun hp => .mk X3 f e3 ?_
        · exact Nat.le_trans (Nat.le_trans (Nat.le_add_left _ i) (Nat.le_trans (Nat.le_of_eq h) (Nat.min_le_left _ _))) (Nat.le_trans (Nat.le_of_lt (Nat.add_lt_of_lt_sub' hjl)) (big_s hs))
        · rw [Nat.min_eq_left (Nat.le_of_lt hp)] at h
          rw [List.length_append, ← Nat.add_assoc, h]
          exact (Nat.min_eq_left hp).symm
        · rw [Nat.min_eq_right (Nat.not_lt.mp hp)] at h
          rw [h]
          exact (Nat.min_eq_right (Nat.le_succ_of_le (Nat.not_lt.mp hp))).symm
    · cases J with | mk X f e h =>
      rw [hrl, Nat.add_sub_cancel' hi, Nat.min_eq_right (by rw [Nat.add_sub_cancel' hi] at hr; exact hr.2)] at h
      have hk := hk σ' X
      subst h
      refine v_lenL e (Nat.le_trans (Nat.le_add_left _ i) (Nat.le_trans hr.2 (by rw [Nat.add_sub_cancel' hi]; exact hb))) (.mk rfl (X _ _ f2) (brD (fun hp => ?_) fun hp => ?_))
      · rw [show pSpan i _ = some _ from if_pos (Int.ofNat_lt.mp hp)] at hk
        exact hk
      · rw [show pSpan i _ = none from if_neg fun q => hp (Int.ofNat_lt.mpr q)] at hk
        exact hk
  | _ => cases hn
end
end Mine

namespace Mine
/-! ## the trials, in plain Lean: the log only grows, what is said is text -/
inductive OkV : V → Prop
  | int (i : Int) : OkV (.int i)
  | str {x : Str} (h : PyData.strOk x = true) : OkV (.str x)
noncomputable def NOk (nm : NL) : Prop := ∀ p ∈ nm, PyData.strOk p.2 = true
noncomputable def LOk (l : LG) : Prop := ∀ p ∈ l, OkV p.2
structure GoodR (nm : NL) (l : LG) (r : Res) : Prop where
  len : l.length ≤ r.2.length
  nok : NOk nm → LOk l → ∀ p, r.1 = some p → NOk p.2
  lok : NOk nm → LOk l → LOk r.2
noncomputable def KGood (L : Nat) (K : KT) : Prop := ∀ e t l, e ≤ L → GoodR t l (K e t l)
section
variable {nm : NL} {l : LG} {r : Res} {s : Str} {rs : List Str} {K : KT} {L : Nat}
theorem GoodR.none : GoodR nm l (none, l) := ⟨Nat.le_refl _, fun _ _ _ e => (by cases e), fun _ h => h⟩
theorem GoodR.or {f : LG → Res} (h : GoodR nm l r) (h' : ∀ l', GoodR nm l' (f l')) : GoodR nm l (orE r f) := by
  obtain ⟨x, l1⟩ := r
  cases x with
  | some p => exact h
  | none => exact ⟨Nat.le_trans h.len (h' l1).len, fun a b => (h' l1).nok a (h.lok a b), fun a b => (h' l1).lok a (h.lok a b)⟩
theorem mem_snoc {α : Type} {P : α → Prop} {l : List α} {x : α} (h : ∀ p ∈ l, P p) (hx : P x) : ∀ p ∈ l ++ [x], P p := fun p hp => (List.mem_append.mp hp).elim (h p) fun q => by cases List.mem_singleton.mp q; exact hx
theorem GoodR.put {j : Nat} {v : V} (hv : OkV v) (h : GoodR nm (l ++ [(j, v)]) r) : GoodR nm l r :=
  ⟨Nat.le_trans (by rw [List.length_append]; exact Nat.le_add_right _ _) h.len, fun a b => h.nok a (mem_snoc b hv), fun a b => h.lok a (mem_snoc b hv)⟩
theorem GoodR.name {j : Nat} {x : Str} (hv : PyData.strOk x = true) (h : GoodR (nm ++ [(j, x)]) l r) : GoodR nm l r :=
  ⟨h.len, fun a b => h.nok (mem_snoc a hv) b, fun a b => h.lok (mem_snoc a hv) b⟩
theorem txt_ok (h : s.cps.all (· < 128) = true) {i : Nat} (e : Nat) (hi : i ≤ s.length) : PyData.strOk (txt s i e) = true := by
  have h := ascii_of h (slice_ij s i e hi)
  unfold PyData.strOk txt
  rw [← Array.all_toList, List.all_eq_true] at h ⊢
  exact fun c hc => decide_eq_true (Nat.lt_trans (of_decide_eq_true (h c hc)) (by decide))
theorem nowK_good (h : s.cps.all (· < 128) = true) {i k : Nat} (hi : i ≤ s.length) (hK : KGood s.length K) : KGood s.length (nowK s rs k i K) := fun e t l he => by
  unfold nowK
  by_cases c : noS rs k = true
  · rw [if_pos c]; exact .none
  · rw [if_neg c]; exact .put (.str (txt_ok h e hi)) (hK e t _ he)
theorem moreK_good {i : Nat} (hK : KGood L K) : KGood L (moreK i K) := fun e t l he => by
  unfold moreK
  by_cases c : i < e
  · rw [if_pos c]; exact hK e t l he
  · rw [if_neg c]; exact .none
theorem moreF_good {T : KT → KT} (hT : ∀ K, KGood L K → KGood L (T K)) (hK : KGood L K) (n : Nat) : KGood L (moreF T K n) := by
  induction n with
  | zero => exact fun e t l he => .none
  | succ n ih => exact fun e t l he => (hK e t l he).or fun l' => hT _ (moreK_good ih) e t l' he
theorem arbF_good (hK : KGood L K) {es : List Nat} (h : ∀ e ∈ es, e ≤ L) : ∀ l, GoodR nm l (arbF K nm es l) := by
  induction es with
  | nil => exact fun l => .none
  | cons e r ih => exact fun l => (hK e nm l (h e (.head _))).or (ih fun x hx => h x (.tail _ hx))
theorem one_good {n : Nd} (hK : KGood s.length K) : KGood s.length fun i nm l => oneK K nm l (pend s n i) := fun i nm l hi => by
  show GoodR nm l (oneK K nm l (pend s n i))
  cases h : pend s n i with
  | none => exact .none
  | some e => exact hK e nm l (pend_le h hi).2
theorem tr_good (h : s.cps.all (· < 128) = true) (n : Nd) : ∀ K, KGood s.length K → KGood s.length (tr s rs n K) := by
  refine Nd.rec (motive := fun n => ∀ K, KGood s.length K → KGood s.length (tr s rs n K)) (fun _ _ => one_good) (fun _ _ => one_good) (fun _ _ => one_good) (fun _ _ => one_good) (fun _ _ => one_good) ?_ (fun _ => one_good (n := .rem)) (fun _ _ _ _ _ _ => .none) ?_ ?_ ?_ ?_ ?_ ?_ n
  · exact fun K hK i nm l hi => arbF_good hK (fun e he => ((mem_rg hi).mp he).2) l
  · exact fun k K hK i nm l hi => by
      show GoodR nm l (if noS rs k = true then _ else _)
      by_cases c : noS rs k = true
      · rw [if_pos c]; exact .none
      · rw [if_neg c]; exact .put (.int _) (hK i nm _ hi)
  · exact fun a ih K hK i nm l hi => moreF_good ih hK _ i nm l hi
  · exact fun a k ih K hK i nm l hi => ih _ (fun e t l he => .name (txt_ok h e hi) (hK e _ l he)) i nm l hi
  · exact fun a k ih K hK i nm l hi => ih _ (nowK_good h hi hK) i nm l hi
  · exact fun a b iha ihb K hK => iha _ (ihb K hK)
  · exact fun a b iha ihb K hK i nm l hi => (iha K hK i nm l hi).or fun l' => ihb K hK i nm l' hi
theorem endK_good : KGood L endK := fun e t l _ => ⟨Nat.le_refl _, fun a _ p q => by cases q; exact a, fun _ b => b⟩
theorem due_good (h : s.cps.all (· < 128) = true) (n : Nd) (r : List Nat) : ∀ l : LG, (∀ x ∈ r, x ≤ s.length) → LOk l → l.length ≤ (due s rs n r l).2.length ∧ LOk (due s rs n r l).2 ∧ ∀ p, (due s rs n r l).1 = some p → NOk p.2.2 := by
  induction r with
  | nil => exact fun l _ hl => ⟨Nat.le_refl _, hl, fun p e => by cases e⟩
  | cons x r ih =>
    intro l hx hl
    have g := tr_good (rs := rs) h n endK endK_good x [] l (hx x (.head _))
    have n0 : NOk [] := fun p hp => by cases hp
    have g1 := g.lok n0 hl
    have g2 := g.nok n0 hl
    have g3 := g.len
    show l.length ≤ (dueX x (tr s rs n endK x [] l).2 (due s rs n r) (tr s rs n endK x [] l).1).2.length ∧ LOk (dueX x (tr s rs n endK x [] l).2 (due s rs n r) (tr s rs n endK x [] l).1).2 ∧ ∀ p, (dueX x (tr s rs n endK x [] l).2 (due s rs n r) (tr s rs n endK x [] l).1).1 = some p → NOk p.2.2
    generalize tr s rs n endK x [] l = T at g1 g2 g3
    obtain ⟨T1, T2⟩ := T
    cases T1 with
    | none =>
      have i := ih T2 (fun y hy => hx y (.tail _ hy)) g1
      exact ⟨Nat.le_trans g3 i.1, i.2⟩
    | some p => exact ⟨g3, g1, fun q e => by cases e; exact g2 p rfl⟩
/-- how deep the trials go -/
noncomputable def pot (w i e : Nat) : Nat := 25 * w * (e - i)
theorem pot_self {w i : Nat} : pot w i i = 0 := by unfold pot; rw [Nat.sub_self, Nat.mul_zero]
theorem pot_mono {w w' i e : Nat} (h : w ≤ w') : pot w i e ≤ pot w' i e := Nat.mul_le_mul_right _ (Nat.mul_le_mul_left _ h)
theorem pot_split {w i e e' : Nat} (h : i ≤ e) (h' : e ≤ e') : pot w i e' = pot w i e + pot w e e' := by
  unfold pot
  rw [← Nat.mul_add, Nat.add_comm, Nat.sub_add_sub_cancel h' h]
theorem pot_succ {w i e : Nat} : pot (w + 1) i e = pot w i e + 25 * (e - i) := by
  unfold pot
  rw [Nat.mul_add, Nat.add_mul]
end
end Mine

namespace Mine
/-! ## the world of the trials -/
noncomputable def keyV (p : Nat × Str) : V := .tup [.str (keyS p.1), .str p.2]
noncomputable def keyO : List (List Nat) := [[], [0], [1], [2], [0, 1], [0, 2], [1, 0], [1, 2], [2, 0], [2, 1], [0, 1, 2], [0, 2, 1], [1, 0, 2], [1, 2, 0], [2, 0, 1], [2, 1, 0]]
inductive VK (vals : List (Str × V)) : Prop
  | mk (js : List Nat) (h : js ∈ keyO) (e : vals.map (·.1) = js.map keyS) : VK vals
theorem keyS_min (i : Nat) : ∃ j, j < 3 ∧ keyS i = keyS j := by
  cases i with
  | zero => exact ⟨0, by decide, rfl⟩
  | succ i => cases i with
    | zero => exact ⟨1, by decide, rfl⟩
    | succ i => exact ⟨2, by decide, rfl⟩
theorem keyO_step : ∀ js ∈ keyO, ∀ j, j < 3 → (if js.any (fun a => keyS a = keyS j) = true then js else js ++ [j]) ∈ keyO := by decide +kernel
theorem keyO_len : ∀ js ∈ keyO, js.length ≤ 100000 := by decide +kernel
theorem VK.put {vals : List (Str × V)} (h : VK vals) (i : Nat) (v : V) : VK (putM (keyS i) v vals) := by
  cases h with | mk js h1 e =>
  obtain ⟨j, hj, ej⟩ := keyS_min i
  rw [ej]
  have ha : vals.any (fun kv => kv.1 = keyS j) = js.any (fun a => keyS a = keyS j) := by
    rw [show vals.any (fun kv => kv.1 = keyS j) = (vals.map (·.1)).any (fun y => y = keyS j) from (List.any_map (l := vals) (f := fun kv : Str × V => kv.1) (p := fun y => decide (y = keyS j))).symm, e, List.any_map]; rfl
  refine ⟨_, keyO_step js h1 j hj, ?_⟩
  unfold putM
  rw [ha]
  cases js.any (fun a => keyS a = keyS j) with
  | true =>
    rw [if_pos rfl, if_pos rfl, List.map_map, ← e]
    refine List.map_congr_left fun p _ => ?_
    show (if p.1 = keyS j then (p.1, v) else p).1 = p.1
    by_cases q : p.1 = keyS j
    · rw [if_pos q]
    · rw [if_neg q]
  | false =>
    rw [if_neg (by decide), if_neg (by decide), List.map_append, e, List.map_append]; rfl
theorem VK.len {vals : List (Str × V)} (h : VK vals) : vals.length ≤ 100000 := by
  cases h with | mk js h1 e =>
  have e := congrArg List.length e
  rw [List.length_map, List.length_map] at e
  rw [e]; exact keyO_len js h1
noncomputable def lim : Nat := 10100000
inductive Sw (t : Tn) (nd : V) : Addr → Cell → Prop
  | w : Sw t nd t.w (.map (worldL t nd))
  | rA : Sw t nd t.rA (.list (t.rs.map .str))
  | ref (i : Nat) : Sw t nd (t.R i) (.inst "NameRef" (t.Rd i))
  | rd (i : Nat) : Sw t nd (t.Rd i) (.dict (refD (keyS i)))
  | t1 : Sw t nd 606 (.tab ⟨503, 4, 504, 78⟩ "_law_more.<locals>.again")
  | t2 : Sw t nd 627 (.tab ⟨520, 51, 520, 112⟩ "_law_try.<locals>.<lambda>")
  | t3 : Sw t nd 634 (.tab ⟨542, 4, 545, 71⟩ "_law_named.<locals>.ended")
  | t4 : Sw t nd 648 (.tab ⟨561, 58, 561, 96⟩ "_law_due.<locals>.<lambda>")
structure TS (t : Tn) (nd : V) (σ : Sto) : Prop where
  st : ∀ b x, Sw t nd b x → σ b = some x
  n1 : t.w ≠ t.vA
  n2 : t.rA ≠ t.lA
structure TD (t : Tn) (σ : Sto) (lg : LG) : Prop where
  l : σ t.lA = some (.list (lg.map logV))
  v : ∃ vals, σ t.vA = some (.map vals) ∧ VK vals
noncomputable def KeepT (t : Tn) (σ σ' : Sto) : Prop := ∀ b x, b ≠ t.lA → b ≠ t.vA → σ b = some x → σ' b = some x
structure NmAt (t : Tn) (σ : Sto) (a : Addr) (nm : NL) : Prop where
  h : σ a = some (.list (nm.map keyV))
  n : a ≠ t.lA
inductive TrV (b0 : Nat) : Option (Nat × NL) → V → Sto → Prop
  | none {σ : Sto} : TrV b0 none .none σ
  | some {e : Nat} {nm : NL} {a : Addr} {σ : Sto} (h : σ a = some (.list (nm.map keyV))) : TrV b0 (some (e, nm)) (.tup [.int b0, .int e, .ref a]) σ
structure Tabs (g : GE) : Prop where
  more : CodeHd g.h₀ 610 606
  try_ : CodeHd g.h₀ 631 627
  named : CodeHd g.h₀ 638 634
  due : CodeHd g.h₀ 652 648
section
variable {t : Tn} {nd : V} {σ σ' σ'' : Sto} {lg : LG} {b a : Addr} {x : Cell} {nm : NL}
theorem KeepT.refl : KeepT t σ σ := fun _ _ _ _ e => e
theorem KeepT.trans (a : KeepT t σ σ') (b : KeepT t σ' σ'') : KeepT t σ σ'' := fun x y n h e => b x y n h (a x y n h e)
theorem KeepT.ext (x : Ext σ σ') : KeepT t σ σ' := fun b y _ _ e => x b y e
theorem TD.ext (D : TD t σ lg) (x : Ext σ σ') : TD t σ' lg := by
  obtain ⟨vals, h1, h2⟩ := D.v
  exact ⟨x _ _ D.l, vals, x _ _ h1, h2⟩
theorem KeepT.get (K : KeepT t σ σ') (D : TD t σ lg) (h : σ b = some x) (h0 : x.tag ≠ 0) (h6 : x.tag ≠ 6) : σ' b = some x := by
  obtain ⟨vals, g1, _⟩ := D.v
  exact K b x (ne_tag h D.l h0) (ne_tag h g1 h6) h
theorem KeepT.cell (K : KeepT t σ σ') (D : TD t σ lg) {v : Option V} (h : σ b = some (.cell v)) : σ' b = some (.cell v) := K.get D h (nt rfl) (nt rfl)
theorem KeepT.lst (K : KeepT t σ σ') (D : TD t σ lg) {l : List V} (h : σ b = some (.list l)) (n : b ≠ t.lA) : σ' b = some (.list l) := by
  obtain ⟨vals, g1, _⟩ := D.v
  exact K b _ n (ne_tag h g1 (nt rfl)) h
theorem NmAt.move (N : NmAt t σ a nm) (D : TD t σ lg) (K : KeepT t σ σ') : NmAt t σ' a nm := ⟨K.lst D N.h N.n, N.n⟩
theorem TS.move (S : TS t nd σ) (D : TD t σ lg) (K : KeepT t σ σ') : TS t nd σ' := ⟨fun b x s => by
  have h := S.st b x s
  cases s with
  | w => exact K _ _ (ne_tag h D.l (nt rfl)) S.n1 h
  | rA => exact K.lst D h S.n2
  | rd i => exact K.get D h (by rw [tag_ref]; decide) (by rw [tag_ref]; decide)
  | _ => exact K.get D h (nt rfl) (nt rfl), S.n1, S.n2⟩
end
/-- what is done with an answer -/
noncomputable def Ans (t : Tn) (b0 : Nat) (σ : Sto) (r : Res) (k : KE) : Prop := ∀ v σ', TD t σ' r.2 → KeepT t σ σ' → TrV b0 r.1 v σ' → k v σ'
theorem Ans.back {t : Tn} {b0 : Nat} {σ σ' : Sto} {r : Res} {k : KE} (h : Ans t b0 σ r k) (K : KeepT t σ σ') : Ans t b0 σ' r k := fun v σ'' D K' q => h v σ'' D (K.trans K') q
theorem Ans.no {t : Tn} {b0 : Nat} {σ : Sto} {lg : LG} {k : KE} (h : Ans t b0 σ (none, lg) k) (D : TD t σ lg) : k .none σ := h .none σ D .refl .none
noncomputable def Beh (g : GE) (t : Tn) (b0 : Nat) (σ : Sto) (fi : FnI) (K : KT) (P : Nat → Nat → Prop) : Prop :=
  ∀ (σ' : Sto) (lg : LG) (e : Nat) (nm : NL) (a : Addr) (d : Nat) (k : KE), KeepT t σ σ' → TD t σ' lg → e ≤ t.s.length → NmAt t σ' a nm → nm.length + d ≤ 2000 → P e d → (K e nm lg).2.length ≤ lim →
    Ans t b0 σ' (K e nm lg) k → CallC g d fi [.int e, .ref a] σ' k
theorem Beh.move {g : GE} {t : Tn} {b0 : Nat} {σ σ₁ : Sto} {fi : FnI} {K : KT} {P : Nat → Nat → Prop} (h : Beh g t b0 σ fi K P) (x : KeepT t σ σ₁) : Beh g t b0 σ₁ fi K P := fun σ' lg e nm a d k q => h σ' lg e nm a d k (x.trans q)
section
variable {g : GE} {t : Tn} {nd : V} {b0 d i : Nat} {σ : Sto} {k : KE} {fi : FnI} {K : KT} {P : Nat → Nat → Prop} {lg : LG} {a : Addr} {nm : NL}
theorem Beh.deep {D0 e : Nat} {σ' : Sto} (B : Beh g t b0 σ fi K P) (hP : P e D0) (le : D0 ≤ d) (K1 : KeepT t σ σ') (D : TD t σ' lg) (he : e ≤ t.s.length) (N : NmAt t σ' a nm) (hd : nm.length + d ≤ 2000) (hl : (K e nm lg).2.length ≤ lim) (hk : Ans t b0 σ' (K e nm lg) k) : CallC g d fi [.int e, .ref a] σ' k :=
  (B σ' lg e nm a D0 k K1 D he N (Nat.le_trans (Nat.add_le_add_left le _) hd) hP hl hk).room le
theorem lim_big {n : Nat} (h : n ≤ lim) : n ≤ big := Nat.le_trans h (by decide)
theorem v_now (ok : TOk g TBL) {e j : Nat} {v : V} (S : TS t nd σ) (D : TD t σ lg) (hB : Beh g t b0 σ fi K P) (gK : KGood t.s.length K) (he : e ≤ t.s.length) (N : NmAt t σ a nm) (hd : nm.length + d ≤ 2000) {D0 : Nat} (hP : P e D0) (le : D0 ≤ d)
    (hl : (if noS t.rs j = true then ((none, lg) : Res) else K e nm (lg ++ [(j, v)])).2.length ≤ lim) (hk : Ans t b0 σ (if noS t.rs j = true then ((none, lg) : Res) else K e nm (lg ++ [(j, v)])) k) :
    VC g TBL (d + 1) (.fn F_law_now) [.ref t.w, .str (keyS j), v, .int e, .ref a, .fn fi] σ k := by
  have hw := S.st _ _ .w
  obtain ⟨vals, hv, vk⟩ := D.v
  refine v_fn (d_ir0 d_law_now ok rfl rfl rfl (u_map hw rfl (q_inL (S.st _ _ .rA) ?_)))
  have hno : noS t.rs j = t.rs.any (· == keyS j) := rfl
  rw [hno] at hl hk
  cases hb : t.rs.any (· == keyS j) with
  | true =>
    rw [if_pos hb] at hk
    exact hk.no D
  | false =>
    rw [if_neg (by rw [hb]; decide)] at hl hk
    have h1 := (gK e nm (lg ++ [(j, v)]) he).len
    rw [List.length_append] at h1
    have h2 := Nat.le_trans (Nat.le_trans (Nat.le_add_right _ _) h1) hl
    have nlv := ne_tag D.l hv (nt rfl)
    have nwl := ne_tag hw D.l (nt rfl)
    have hK : ∀ c1 c2, KeepT t σ (upd (upd σ t.lA c1) t.vA c2) := fun c1 c2 b x n1 n2 e => upd_ne' (upd_ne' e n1) n2
    refine u_map hw rfl (m_app D.l (v_app D.l (by rw [List.length_map]; exact lim_big h2) (u_map (upd_ne' hw nwl) rfl (i_map (upd_ne' hv nlv.symm) vk.len ?_))))
    refine v_fn (hB.deep hP le (hK _ _) ⟨upd_ne' (by rw [upd_eq, List.map_append]; rfl) nlv, _, upd_eq, vk.put j v⟩ he (N.move D (hK _ _)) hd hl (hk.back (hK _ _)))
theorem nd_sg {R : Nat → Addr} {n : Nd} (h : sgK n = true) (hr : n ≠ .rem) : ndV R n = .tup [.str (kindS n), toldV n] := by
  have h := (sg_all _ n.num_lt).1.symm.trans h
  cases n with
  | rem => exact absurd rfl hr
  | chars _ => rfl
  | len _ => rfl
  | tab _ => rfl
  | span _ => rfl
  | any _ => rfl
  | _ => cases h
theorem sg_nofail : ∀ i, i < 14 → singles.any (· == kindAt i) = true → (kindAt i == "fail") = false := by decide +kernel
theorem v_lone (ok : TOk g TBL) (n : Nd) (S : TS t nd σ) (D : TD t σ lg) (hB : Beh g t b0 σ fi K P) (hs : t.s.length ≤ 1000) (hasc : t.s.cps.all (· < 128) = true) (hwt : n.wt ≤ 1000) (hi : i ≤ t.s.length) (N : NmAt t σ a nm) (hd : nm.length + (d + 1) ≤ 2000)
    (hm : ∀ e, i ≤ e → e ≤ t.s.length → ∃ D, D ≤ d + 1 ∧ P e D) (hsg : sgK n = true) (hr : n ≠ .rem) (hl : (oneK K nm lg (pend t.s n i)).2.length ≤ lim) (hk : Ans t b0 σ (oneK K nm lg (pend t.s n i)) k) :
    VC g TBL (d + 2) (.fn F_law_lone) [.ref t.w, ndV t.R n, .int i, .ref a, .fn fi] σ k := by
  rw [nd_sg hsg hr]
  refine v_fn (d_ir0 d_law_lone ok rfl rfl rfl (v_lenT (Nat.le_of_ble_eq_true rfl) (told_not (brX (beq_eq_false_iff_ne.mp (sg_nofail _ n.num_lt hsg)) (v_plain ok t (S.st _ _ .w) n i hs hasc hi hsg hr hwt fun σ₁ x1 => ?_)))))
  cases hp : pend t.s n i with
  | none =>
    rw [hp] at hk
    exact q_is rfl ((hk.back (.ext x1)).no (D.ext x1))
  | some e =>
    rw [hp] at hk hl
    have he := pend_le hp hi
    obtain ⟨D0, le, hP⟩ := hm e he.1 he.2
    exact q_is rfl (v_fn (hB.deep hP le (.ext x1) (D.ext x1) he.2 (N.move D (.ext x1)) hd hl (hk.back (.ext x1))))
theorem v_loneF (ok : TOk g TBL) (D : TD t σ lg) (hk : Ans t b0 σ (none, lg) k) : VC g TBL (d + 1) (.fn F_law_lone) [.ref t.w, ndV t.R .fail, .int i, .ref a, .fn fi] σ k :=
  v_fn (d_ir0 d_law_lone ok rfl rfl rfl (v_lenT (Nat.le_of_ble_eq_true rfl) (v_iNT (hk.no D))))
end
end Mine

namespace Mine
/-! ## how deep a call may go -/
/-- enough depth d at i, where P says what is enough behind -/
noncomputable def Need (L : Nat) (P : Nat → Nat → Prop) (w i d : Nat) : Prop := ∀ e, i ≤ e → e ≤ L → ∃ D, D + (pot w i e + 5 * w) ≤ d + 2 ∧ P e D
/-- what is asked of the call behind, for each form -/
inductive PCat (L : Nat) (P : Nat → Nat → Prop) (w e : Nat) : Nat → Prop
  | mk {D : Nat} (h : Need L P w e D) : PCat L P w e (D + 1)
inductive PMore (L : Nat) (P : Nat → Nat → Prop) (w i e : Nat) : Nat → Prop
  | mk {D : Nat} (h : i < e → Need L P w e (D + 1)) : PMore L P w i e (D + 1)
inductive PName (P : Nat → Nat → Prop) (e : Nat) : Nat → Prop
  | mk {D : Nat} (h : P e D) : PName P e (D + 2)
section
variable {L w u i d : Nat} {P : Nat → Nat → Prop}
theorem Need.at (h : Need L P w i d) (hi : i ≤ L) (hw : 0 < w) : ∃ d', d = d' + 3 ∧ ∀ e, i ≤ e → e ≤ L → ∃ D, D ≤ d' ∧ P e D := by
  obtain ⟨D, h1, _⟩ := h i (Nat.le_refl _) hi
  have h3 : 3 ≤ d := by omega
  obtain ⟨d', rfl⟩ := Nat.exists_eq_add_of_le' h3
  refine ⟨d', rfl, fun e h1 h2 => ?_⟩
  obtain ⟨D, a, b⟩ := h e h1 h2
  exact ⟨D, by omega, b⟩
theorem Need.cat (h : Need L P (w + u) i (d + 1)) (hu : 0 < u) : Need L (PCat L P u) w i d := fun e h1 h2 => by
  have key : ∀ e', e ≤ e' → e' ≤ L → ∃ D, D + (pot w i e + pot u e e' + 5 * (w + u)) ≤ d + 3 ∧ P e' D := fun e' g1 g2 => by
    obtain ⟨D, a, b⟩ := h e' (Nat.le_trans h1 g1) g2
    refine ⟨D, Nat.le_trans (Nat.add_le_add_left (Nat.add_le_add_right ?_ _) _) a, b⟩
    rw [pot_split h1 g1]
    exact Nat.add_le_add (pot_mono (Nat.le_add_right _ _)) (pot_mono (Nat.le_add_left _ _))
  obtain ⟨D, a, _⟩ := key e (Nat.le_refl _) h2
  have hx : pot w i e + 5 * w ≤ d + 1 := by omega
  obtain ⟨D0, hD⟩ := Nat.exists_eq_add_of_le' hx
  refine ⟨D0 + 1, by omega, .mk fun e' g1 g2 => ?_⟩
  obtain ⟨D, a, b⟩ := key e' g1 g2
  exact ⟨D, by omega, b⟩
theorem Need.alt1 (h : Need L P (w + u) i (d + 1)) (hu : 0 < u) : Need L P w i d := fun e h1 h2 => by
  obtain ⟨D, a, b⟩ := h e h1 h2
  have := pot_mono (i := i) (e := e) (Nat.le_add_right w u)
  exact ⟨D, by omega, b⟩
theorem Need.alt2 (h : Need L P (w + u) i (d + 1)) (hw : 0 < w) : Need L P u i d := Need.alt1 (by rw [Nat.add_comm u w]; exact h) hw
theorem Need.name (h : Need L P (w + 1) i (d + 2)) : Need L (PName P) w i d := fun e h1 h2 => by
  obtain ⟨D, a, b⟩ := h e h1 h2
  have := pot_mono (i := i) (e := e) (Nat.le_add_right w 1)
  exact ⟨D + 2, by omega, .mk b⟩
/-- .. of a repeat's turn -/
theorem Need.here (h : Need L P (w + 1) i (d + 2)) (hi : i ≤ L) : ∃ D, D ≤ d ∧ P i D := by
  obtain ⟨D, a, b⟩ := h i (Nat.le_refl _) hi
  exact ⟨D, by omega, b⟩
theorem Need.more (h : Need L P (w + 1) i (d + 2)) (hw : w ≤ 5) (hi : i ≤ L) : Need L (PMore L P (w + 1) i) w i d := fun e h1 h2 => by
  rcases Nat.lt_or_ge i e with lt | ge
  · have key : ∀ e', e ≤ e' → e' ≤ L → ∃ D, D + (pot w i e + 25 + pot (w + 1) e e' + 5 * (w + 1)) ≤ d + 4 ∧ P e' D := fun e' g1 g2 => by
      obtain ⟨D, a, b⟩ := h e' (Nat.le_trans h1 g1) g2
      refine ⟨D, Nat.le_trans (Nat.add_le_add_left (Nat.add_le_add_right ?_ _) _) a, b⟩
      rw [pot_split h1 g1, pot_succ (w := w) (i := i) (e := e)]
      have := Nat.mul_le_mul_left 25 (Nat.sub_pos_of_lt lt)
      exact Nat.add_le_add_right (Nat.add_le_add_left this _) _
    obtain ⟨D, a, _⟩ := key e (Nat.le_refl _) h2
    have hx : pot w i e + 5 * w ≤ d + 1 := by omega
    obtain ⟨D0, hD⟩ := Nat.exists_eq_add_of_le' hx
    refine ⟨D0 + 1, by omega, .mk fun _ e' g1 g2 => ?_⟩
    obtain ⟨D, a, b⟩ := key e' g1 g2
    exact ⟨D, by omega, b⟩
  · cases Nat.le_antisymm ge h1
    obtain ⟨D, a, _⟩ := h i (Nat.le_refl _) hi
    rw [pot_self] at a ⊢
    exact ⟨0 + 1, by omega, .mk fun q => absurd q (Nat.lt_irrefl _)⟩
/-- .. of the whole -/
theorem Need.all (hL : L ≤ 4) (hw : w ≤ 6) : Need L (fun _ D => 0 < D) w i 629 := fun e h1 h2 => by
  refine ⟨1, ?_, Nat.one_pos⟩
  have h3 : pot w i e ≤ 25 * 6 * 4 := Nat.mul_le_mul (Nat.mul_le_mul_left 25 hw) (Nat.le_trans (Nat.sub_le _ _) (Nat.le_trans h2 hL))
  omega
end
end Mine

namespace Mine
/-! ## the trials, kind by kind -/
theorem DI.clos {tb : TB} {i : FnI} {n m : Nat} {cn : List Str} {ir : I} (D : DI tb i n m cn ir) (cl : List (Str × Addr)) : DI tb { i with closure := cl } n m cn ir := ⟨⟨D.fo.ok, ⟨D.fo.bd.run⟩⟩, D.hb, D.cells, D.tree⟩
theorem DL.clos {tb : TB} {i : FnI} {n m : Nat} {cn : List Str} {ir : I} (D : DL tb i n m cn ir) (cl : List (Str × Addr)) : DL tb { i with closure := cl } n m cn ir := ⟨⟨D.fo.ok, ⟨D.fo.bd.run⟩⟩, D.hb, D.cells, D.tree⟩
section
variable {g : GE} {tb : TB} {d : Nat} {L : FnI} {n m : Nat} {cn : List Str} {cv : List Addr} {ir : I} {args : List V} {σ : Sto} {k : KE}
theorem d_inn (D : DI tb L n m cn ir) (ok : TOk g tb) (ht : L.tab = none) (hl : cn.length = cv.length) (hlen : args.length = n) (h : wS g tb d ir cv (args.map some ++ List.replicate m none) σ (endF k)) : CallC g (d + 1) { L with closure := cn.zip cv } args σ k :=
  d_ir (D.clos (cn.zip cv)) ok (noTab ht) rfl hl hlen h
theorem d_innL (D : DL tb L n m cn ir) (ok : TOk g tb) (ht : L.tab = none) (hl : cn.length = cv.length) (hlen : args.length = n) (h : wE g tb d ir cv (args.map some ++ List.replicate m none) σ k) : CallC g (d + 1) { L with closure := cn.zip cv } args σ k :=
  d_irL (D.clos (cn.zip cv)) ok (noTab ht) rfl hl hlen h
end
structure TryOk (g : GE) (t : Tn) (nd : V) (b0 : Nat) (n : Nd) : Prop where
  run : ∀ (σ : Sto) (fi : FnI) (K : KT) (P : Nat → Nat → Prop) (i : Nat) (a : Addr) (nm : NL) (lg : LG) (d : Nat) (k : KE), TS t nd σ → TD t σ lg → Beh g t b0 σ fi K P → KGood t.s.length K → i ≤ t.s.length → NmAt t σ a nm → nm.length + d ≤ 2000 → Need t.s.length P n.w i d →
    (tr t.s t.rs n K i nm lg).2.length ≤ lim → Ans t b0 σ (tr t.s t.rs n K i nm lg) k → CallC g d F_law_try [.ref t.w, ndV t.R n, .int i, .ref a, .fn fi] σ k
/-- what a trial stands on -/
structure TrJ (g : GE) (t : Tn) (nd : V) (b0 : Nat) (σ : Sto) (fi : FnI) (K : KT) (P : Nat → Nat → Prop) (i : Nat) (a : Addr) (nm : NL) (lg : LG) : Prop where
  S : TS t nd σ
  D : TD t σ lg
  B : Beh g t b0 σ fi K P
  N : NmAt t σ a nm
section
variable {g : GE} {t : Tn} {nd : V} {b0 d i j : Nat} {σ : Sto} {k : KE} {fi : FnI} {K : KT} {P : Nat → Nat → Prop} {lg : LG} {a : Addr} {nm : NL} {n x y : Nd}
theorem TrJ.ext {σ' : Sto} (J : TrJ g t nd b0 σ fi K P i a nm lg) (X : Ext σ σ') : TrJ g t nd b0 σ' fi K P i a nm lg := ⟨J.S.move J.D (.ext X), J.D.ext X, J.B.move (.ext X), J.N.move J.D (.ext X)⟩
theorem try_go (ok : TOk g TBL) (tk : Tabs g) (J : TrJ g t nd b0 σ fi K P i a nm lg)
    (h : ∀ a1 a2 a3 σ₁, TrJ g t nd b0 σ₁ fi K P i a nm lg → KeepT t σ σ₁ → σ₁ a1 = some (.cell (some (.ref t.w))) → σ₁ a2 = some (.cell (some (ndV t.R n))) → σ₁ a3 = some (.cell (some (.fn fi))) →
      wS g TBL d (tlI I_law_try) [a3, a2, a1] [some (.ref t.w), some (ndV t.R n), some (.int i), some (.ref a), some (.fn fi), some (.str (kindS n)), some (.str t.s), none, none] σ₁ (endF k)) :
    CallC g (d + 1) F_law_try [.ref t.w, ndV t.R n, .int i, .ref a, .fn fi] σ k := by
  refine d_irC d_law_try ok (fun c e => by cases (show some 631 = some c from e); exact tk.try_) rfl (hvs := show cellV _ _ = [some (.ref t.w), some (ndV t.R n), some (.fn fi)] by kernel_rfl!) (cells3 fun a1 a2 a3 σ1 X c1 c2 c3 _ _ _ => ?_)
  have J1 := J.ext X
  exact .mk rfl c2 (su_nd0 (.mk rfl c1 (u_map (J1.S.st _ _ .w) rfl (h a1 a2 a3 σ1 J1 (.ext X) c1 c2 c3))))
theorem try_cat (ok : TOk g TBL) (tk : Tabs g) (hasc : t.s.cps.all (· < 128) = true) (hx : TryOk g t nd b0 x) (hy : TryOk g t nd b0 y) : TryOk g t nd b0 (.cat x y) := ⟨fun σ fi K P i a nm lg d k S D B gK hi N hd hN hl hk => by
  obtain ⟨d', rfl, _⟩ := hN.at hi (Nd.w_pos _)
  refine try_go (n := .cat x y) ok tk ⟨S, D, B, N⟩ fun a1 a2 a3 σ1 J KX c1 c2 c3 => ?_
  refine .mk rfl c1 (.mk rfl c2 (.mk (J.S.st _ _ .t2) (v_fn (hx.run σ1 _ (tr t.s t.rs y K) (PCat t.s.length P y.w) i a nm lg _ _ J.S J.D ?_ (tr_good hasc y K gK) hi J.N (Nat.le_of_succ_le hd) (hN.cat y.w_pos) hl (hk.back KX)))))
  intro σ' lg' e nm' a' d'' k' K1 D1 he N' hd' hP hl' hk'
  cases hP with | mk hN' =>
  refine d_innL (cv := [a1, a2, a3]) dj_law_try ok rfl rfl rfl ?_
  exact .mk rfl (K1.cell J.D c1) (.mk rfl (K1.cell J.D c2) (.mk rfl (K1.cell J.D c3) (v_fn (hy.run σ' fi K P e a' nm' lg' _ _ (J.S.move J.D K1) D1 (J.B.move K1) gK he N' (Nat.le_of_succ_le hd') hN' hl' hk'))))⟩
theorem try_alt (ok : TOk g TBL) (tk : Tabs g) (hasc : t.s.cps.all (· < 128) = true) (hx : TryOk g t nd b0 x) (hy : TryOk g t nd b0 y) : TryOk g t nd b0 (.alt x y) := ⟨fun σ fi K P i a nm lg d k S D B gK hi N hd hN hl hk => by
  obtain ⟨d', rfl, _⟩ := hN.at hi (Nd.w_pos _)
  refine try_go (n := .alt x y) ok tk ⟨S, D, B, N⟩ fun a1 a2 a3 σ1 J KX c1 c2 c3 => ?_
  have hk := hk.back KX
  have gx := tr_good (rs := t.rs) hasc x K gK i nm lg hi
  have gy := fun l' => (tr_good (rs := t.rs) hasc y K gK i nm l' hi).len
  have hl : (orE (tr t.s t.rs x K i nm lg) (tr t.s t.rs y K i nm)).2.length ≤ lim := hl
  have hk : Ans t b0 σ1 (orE (tr t.s t.rs x K i nm lg) (tr t.s t.rs y K i nm)) k := hk
  have run := hx.run σ1 fi K P i a nm lg (d' + 2)
  generalize tr t.s t.rs x K i nm lg = r at hl hk run
  refine .mk rfl c1 (.mk rfl c2 (.mk rfl c3 (v_fn (run _ J.S J.D J.B gK hi J.N (Nat.le_of_succ_le hd) (hN.alt1 y.w_pos) ?_ fun v σ' D' K' q => ?_))))
  · obtain ⟨r1, l1⟩ := r
    cases r1 with
    | none => exact Nat.le_trans (gy l1) hl
    | some p => exact hl
  · have hk := hk.back K'
    obtain ⟨r1, l1⟩ := r
    cases q with
    | none => exact q_is rfl (.mk rfl (K'.cell J.D c1) (.mk rfl (K'.cell J.D c2) (.mk rfl (K'.cell J.D c3) (v_fn (hy.run σ' fi K P i a nm l1 _ _ (J.S.move J.D K') D' (J.B.move K') gK hi (J.N.move J.D K') (Nat.le_of_succ_le hd) (hN.alt2 x.w_pos) hl hk)))))
    | some h => exact q_is rfl (hk _ _ D' .refl (.some h))⟩
theorem try_rem (ok : TOk g TBL) (tk : Tabs g) (hs : t.s.length ≤ 1000) : TryOk g t nd b0 .rem := ⟨fun σ fi K P i a nm lg d k S D B gK hi N hd hN hl hk => by
  obtain ⟨d', rfl, hA⟩ := hN.at hi Nat.one_pos
  refine try_go (n := .rem) ok tk ⟨S, D, B, N⟩ fun a1 a2 a3 σ1 J KX c1 c2 c3 => ?_
  obtain ⟨D0, le, hP⟩ := hA t.s.length hi (Nat.le_refl _)
  exact .mk rfl c3 (v_lenS (big_s hs) (v_fn (J.B.deep hP (Nat.le_trans le (Nat.le_add_right _ 2)) .refl J.D (Nat.le_refl _) J.N (Nat.le_of_succ_le hd) hl (hk.back KX))))⟩
end
end Mine

namespace Mine
theorem orE_len {r : Res} {f : LG → Res} {nm : NL} (h : ∀ l, GoodR nm l (f l)) : r.2.length ≤ (orE r f).2.length := by
  obtain ⟨x, l⟩ := r
  cases x with
  | none => exact (h l).len
  | some p => exact Nat.le_refl _
theorem not_try : ∀ i, i < 14 → (Nat.blt i 5 || Nat.beq i 7) = true → (kindAt i == "cat") = false ∧ (kindAt i == "alt") = false ∧ (kindAt i == "arb") = false ∧ (kindAt i == "rem") = false ∧ (kindAt i == "arbno") = false ∧ (kindAt i == "cursor") = false ∧ (kindAt i == "later") = false ∧ (kindAt i == "now") = false := by decide +kernel
inductive ArbJ (g : GE) (t : Tn) (b0 : Nat) (σ : Sto) (fi : FnI) (K : KT) (i : Nat) (a : Addr) (nm : NL) (R : Res) : Nat → Lo → Sto → Prop
  | mk {e : Nat} {r : Option (Nat × NL)} {l : LG} {v : V} {σ' : Sto} (h1 : i ≤ e) (h2 : e ≤ t.s.length) (D : TD t σ' l) (K' : KeepT t σ σ') (q : TrV b0 r v σ') (er : R = orX r l (arbF K nm (List.range' (e + 1) (t.s.length - e)))) :
    ArbJ g t b0 σ fi K i a nm R (t.s.length - e) [some (.ref t.w), some (ndV t.R .arb), some (.int i), some (.ref a), some (.fn fi), some (.str "arb"), some (.str t.s), some v, some (.int e)] σ'
section
variable {g : GE} {t : Tn} {nd : V} {b0 d i j : Nat} {σ : Sto} {k : KE} {fi : FnI} {K : KT} {P : Nat → Nat → Prop} {lg : LG} {a : Addr} {nm : NL} {n x y : Nd}
theorem try_end (ok : TOk g TBL) (tk : Tabs g) (J : TrJ g t nd b0 σ fi K P i a nm lg) (hn : (Nat.blt n.num 5 || Nat.beq n.num 7) = true)
    (h : ∀ σ₁, TrJ g t nd b0 σ₁ fi K P i a nm lg → KeepT t σ σ₁ → VC g TBL d (.fn F_law_lone) [.ref t.w, ndV t.R n, .int i, .ref a, .fn fi] σ₁ k) : CallC g (d + 1) F_law_try [.ref t.w, ndV t.R n, .int i, .ref a, .fn fi] σ k := by
  refine try_go ok tk J fun a1 a2 a3 σ1 J1 KX c1 c2 c3 => ?_
  obtain ⟨h1, h2, h3, h4, h5, h6, h7, h8⟩ := not_try _ n.num_lt hn
  have no : ∀ {s : Str}, (kindAt n.num == s) = false → ¬ kindS n = s := fun h => beq_eq_false_iff_ne.mp h
  exact brX (no h1) (brX (no h2) (brX (no h3) (brX (no h4) (brX (no h5) (brX (no h6) (brX (no h7) (brX (no h8) (.mk rfl c1 (.mk rfl c2 (.mk rfl c3 (h σ1 J1 KX)))))))))))
theorem try_lone (ok : TOk g TBL) (tk : Tabs g) (hs : t.s.length ≤ 1000) (hasc : t.s.cps.all (· < 128) = true) (h5 : Nat.blt n.num 5 = true) (hw : n.w = 1) (hwt : n.wt ≤ 1000) (htr : ∀ K, tr t.s t.rs n K = fun i nm l => oneK K nm l (pend t.s n i)) : TryOk g t nd b0 n := ⟨fun σ fi K P i a nm lg d k S D B gK hi N hd hN hl hk => by
  rw [hw] at hN
  obtain ⟨d', rfl, hA⟩ := hN.at hi Nat.one_pos
  rw [htr] at hl hk
  have hsg : sgK n = true := (sg_all _ n.num_lt).1.trans (by unfold sgB; rw [h5]; rfl)
  refine try_end ok tk ⟨S, D, B, N⟩ (by rw [h5]; rfl) fun σ₁ J KX => ?_
  exact v_lone ok n J.S J.D J.B hs hasc hwt hi J.N (Nat.le_trans (Nat.add_le_add_left (Nat.add_le_add_left (by decide) d') _) hd) (fun e h1 h2 => by
    obtain ⟨D0, le, hP⟩ := hA e h1 h2
    exact ⟨D0, Nat.le_succ_of_le le, hP⟩) hsg (fun e => by rw [e] at h5; cases h5) hl (hk.back KX)⟩
theorem try_fail (ok : TOk g TBL) (tk : Tabs g) : TryOk g t nd b0 .fail := ⟨fun σ fi K P i a nm lg d k S D B gK hi N hd hN hl hk => by
  obtain ⟨d', rfl, hA⟩ := hN.at hi Nat.one_pos
  exact try_end (n := .fail) ok tk ⟨S, D, B, N⟩ rfl fun σ₁ J KX => v_loneF ok J.D (hk.back KX)⟩
theorem TS.key (S : TS t nd σ) {K' : V → Prop} (q : K' (.str (keyS j))) : VG g TBL (.ref (t.R j)) ("key" : Str) σ K' := g_inst (S.st _ _ (.ref j)) fl_NameRef_key (S.st _ _ (.rd j)) (by kernel_rfl!) rfl q
theorem try_cur (ok : TOk g TBL) (tk : Tabs g) : TryOk g t nd b0 (.cur j) := ⟨fun σ fi K P i a nm lg d k S D B gK hi N hd hN hl hk => by
  obtain ⟨d', rfl, hA⟩ := hN.at hi Nat.one_pos
  obtain ⟨D0, le, hP⟩ := hA i (Nat.le_refl _) hi
  refine try_go (n := .cur j) ok tk ⟨S, D, B, N⟩ fun a1 a2 a3 σ1 J KX c1 c2 c3 => ?_
  exact .mk rfl c1 (.mk rfl c2 (J.S.key (.mk rfl c3 (v_now ok J.S J.D J.B gK hi J.N (Nat.le_trans (Nat.add_le_add_left (Nat.add_le_add_left (by decide) d') _) hd) hP (Nat.le_succ_of_le le) hl (hk.back KX)))))⟩
theorem rg_cons {i L : Nat} (h : i ≤ L) : List.range' i (L + 1 - i) = i :: List.range' (i + 1) (L - i) := by rw [Nat.succ_sub h, List.range'_succ]
theorem try_arb (ok : TOk g TBL) (tk : Tabs g) (hs : t.s.length ≤ 1000) : TryOk g t nd b0 .arb := ⟨fun σ fi K P i a nm lg d k S D B gK hi N hd hN hl hk => by
  obtain ⟨d', rfl, hA⟩ := hN.at hi Nat.one_pos
  refine try_go (n := .arb) ok tk ⟨S, D, B, N⟩ fun a1 a2 a3 σ1 J KX c1 c2 c3 => ?_
  have hd2 := Nat.le_of_succ_le hd
  have hk := hk.back KX
  have htr : tr t.s t.rs .arb K i nm lg = orE (K i nm lg) (arbF K nm (List.range' (i + 1) (t.s.length - i))) := by
    show arbF K nm (List.range' i (t.s.length + 1 - i)) lg = _
    rw [rg_cons hi]; rfl
  have gA : ∀ {e}, e ≤ t.s.length → ∀ l, GoodR nm l (arbF K nm (List.range' (e + 1) (t.s.length - e)) l) := fun {e} he => arbF_good gK fun z hz => by
    rw [List.mem_range'_1] at hz
    have h2 := hz.2
    rw [Nat.add_right_comm, Nat.add_sub_cancel' he] at h2
    exact Nat.le_of_lt_succ h2
  have deep : ∀ {e : Nat} {l : LG} {σ' : Sto} {k' : KE}, i ≤ e → e ≤ t.s.length → KeepT t σ1 σ' → TD t σ' l → (K e nm l).2.length ≤ lim → Ans t b0 σ' (K e nm l) k' → CallC g (d' + 2) fi [.int e, .ref a] σ' k' := fun {e l σ' k'} h1 h2 K1 D1 hl' hk' => by
    obtain ⟨D0, le, hP⟩ := hA e h1 h2
    exact J.B.deep hP (Nat.le_trans le (Nat.le_add_right _ 2)) K1 D1 h2 (J.N.move J.D K1) hd2 hl' hk'
  generalize tr t.s t.rs .arb K i nm lg = R at htr hl hk
  refine .mk rfl c3 (v_fn (deep (Nat.le_refl _) hi .refl J.D (Nat.le_trans (orE_len (gA hi)) (htr ▸ hl)) fun v σ' D' K' q => ?_))
  refine l_while (ArbJ g t b0 σ1 fi K i a nm R) (.mk (Nat.le_refl _) hi D' K' q htr) fun m ρ' σ' j N' nx => ?_
  clear q K' D'
  cases j with | @mk e r l v _ h1 h2 D' K' q er =>
  cases q with
  | some h => exact q_is rfl (hk _ _ (by rw [er]; exact D') K' (by rw [er]; exact .some h))
  | none =>
    refine q_is rfl (v_lenS (big_s hs) (brD (fun hp => ?_) fun hp => ?_))
    · have lt := Int.ofNat_lt.mp hp
      have he : R = orE (K (e + 1) nm l) (arbF K nm (List.range' (e + 1 + 1) (t.s.length - (e + 1)))) := by
        rw [er]
        obtain ⟨c, hc⟩ := Nat.exists_eq_add_of_lt lt
        rw [show t.s.length - e = t.s.length - (e + 1) + 1 from (Nat.sub_add_cancel (Nat.sub_pos_of_lt lt)).symm]
        rw [List.range'_succ]; rfl
      refine .mk rfl (K'.cell J.D c3) (v_fn (deep (e := e + 1) (Nat.le_succ_of_le h1) lt K' D' (Nat.le_trans (orE_len (gA lt)) (he ▸ hl)) fun v σ'' D2 K2 q => ?_))
      exact nx _ _ _ (.mk (Nat.le_succ_of_le h1) lt D2 (K'.trans K2) q he) (Nat.sub_lt_sub_left lt (Nat.lt_succ_self e))
    · have e0 : t.s.length - e = 0 := Nat.sub_eq_zero_of_le (Nat.not_lt.mp fun z => hp (Int.ofNat_lt.mpr z))
      rw [e0] at er
      exact hk _ _ (by rw [er]; exact D') K' (by rw [er]; exact .none)⟩
end
end Mine

namespace Mine
section
variable {σ σ' : Sto}
theorem cells4 {v1 v2 v3 v4 : Option V} {k : List Addr → Sto → Prop}
    (h : ∀ a1 a2 a3 a4 σ', Ext σ σ' → σ' a1 = some (.cell v1) → σ' a2 = some (.cell v2) → σ' a3 = some (.cell v3) → σ' a4 = some (.cell v4) → k [a4, a3, a2, a1] σ') : cellW [v1, v2, v3, v4] σ [] k := fun a1 h1 a2 h2 a3 h3 a4 h4 =>
  have x4 := ext_new (c := .cell v4) h4
  have x3 := (ext_new (c := .cell v3) h3).trans x4
  have x2 := (ext_new (c := .cell v2) h2).trans x3
  h a1 a2 a3 a4 _ ((ext_new h1).trans x2) (x2 _ _ upd_eq) (x3 _ _ upd_eq) (x4 _ _ upd_eq) upd_eq
/-- six cells, the last two put later -/
structure Six (σ : Sto) (a1 a2 a3 a4 a5 a6 : Addr) (v1 v2 v3 v4 v5 v6 : V) (σ' : Sto) : Prop where
  X : Ext σ σ'
  c1 : σ' a1 = some (.cell (some v1))
  c2 : σ' a2 = some (.cell (some v2))
  c3 : σ' a3 = some (.cell (some v3))
  c4 : σ' a4 = some (.cell (some v4))
  c5 : σ' a5 = some (.cell (some v5))
  c6 : σ' a6 = some (.cell (some v6))
theorem cells6 {v1 v2 v3 v4 : V} {k : List Addr → Sto → Prop}
    (h : ∀ a1 a2 a3 a4 a5 a6 σ', Ext σ σ' → σ' a1 = some (.cell (some v1)) → σ' a2 = some (.cell (some v2)) → σ' a5 = some (.cell none) → a5 ≠ a6 → σ' a6 = some (.cell none) → (∀ v5 v6, Six σ a1 a2 a3 a4 a5 a6 v1 v2 v3 v4 v5 v6 (upd (upd σ' a5 (.cell (some v5))) a6 (.cell (some v6)))) → k [a6, a5, a4, a3, a2, a1] σ') :
    cellW [some v1, some v2, some v3, some v4, none, none] σ [] k := fun a1 h1 a2 h2 a3 h3 a4 h4 a5 h5 a6 h6 => by
  have y4 := ext_new (c := .cell (some v4)) h4
  have y3 := (ext_new (c := .cell (some v3)) h3).trans y4
  have y2 := (ext_new (c := .cell (some v2)) h2).trans y3
  have Y := (ext_new (c := .cell (some v1)) h1).trans y2
  have c1 := y2 _ _ (upd_eq (σ := σ) (a := a1) (c := .cell (some v1)))
  have c2 := y3 a2 _ upd_eq
  have c3 := y4 a3 _ upd_eq
  have c4 := upd_eq (σ := upd (upd (upd σ a1 (.cell (some v1))) a2 (.cell (some v2))) a3 (.cell (some v3))) (a := a4) (c := .cell (some v4))
  revert Y c1 c2 c3 c4 h5 h6
  clear y4 y3 y2
  generalize upd (upd (upd (upd σ a1 (.cell (some v1))) a2 (.cell (some v2))) a3 (.cell (some v3))) a4 (.cell (some v4)) = τ
  intro h5 h6 Y c1 c2 c3 c4
  have x5 := ext_new (c := .cell none) h5
  have x6 := ext_new (c := .cell none) h6
  have c5 := upd_eq (σ := τ) (a := a5) (c := .cell none)
  have n56 := ne_of h6 c5
  have X := x5.trans x6
  refine h a1 a2 a3 a4 a5 a6 _ (Y.trans X) (X _ _ c1) (X _ _ c2) (x6 _ _ c5) n56 upd_eq fun v5 v6 => ?_
  have Z : Ext τ (upd (upd (upd (upd τ a5 (.cell none)) a6 (.cell none)) a5 (.cell (some v5))) a6 (.cell (some v6))) := fun b c e => upd_ne' (upd_ne' (X b c e) (ne_of h5 e)) (ne_of h6 (x5 b c e))
  exact ⟨Y.trans Z, Z _ _ c1, Z _ _ c2, Z _ _ c3, Z _ _ c4, upd_ne' upd_eq n56, upd_eq⟩
end
section
variable {g : GE} {t : Tn} {nd : V} {b0 d i j : Nat} {σ : Sto} {k : KE} {fi : FnI} {K : KT} {P : Nat → Nat → Prop} {lg : LG} {a : Addr} {nm : NL} {n x y : Nd}
theorem sp_more (ok : TOk g TBL) (tk : Tabs g) (hasc : t.s.cps.all (· < 128) = true) (hx : TryOk g t nd b0 x) (hw : x.w ≤ 5) (gK : KGood t.s.length K) (f : Nat) : ∀ (σ : Sto) (i : Nat) (a : Addr) (nm : NL) (lg : LG) (d : Nat) (k : KE), TrJ g t nd b0 σ fi K P i a nm lg → i ≤ t.s.length → t.s.length + 1 ≤ i + f → nm.length + d ≤ 2000 →
    Need t.s.length P (x.w + 1) i (d + 1) → (moreF (tr t.s t.rs x) K f i nm lg).2.length ≤ lim → Ans t b0 σ (moreF (tr t.s t.rs x) K f i nm lg) k → CallC g d F_law_more [.ref t.w, ndV t.R x, .int i, .ref a, .fn fi] σ k := by
  induction f with
  | zero => exact fun σ i a nm lg d k J hi hf => absurd (Nat.le_trans hf hi) (Nat.not_succ_le_self _)
  | succ f ih =>
    intro σ i a nm lg d k J hi hf hd hN hl hk
    obtain ⟨d', e', _⟩ := hN.at hi (Nat.succ_pos _)
    cases Nat.succ.inj e'
    refine d_irC d_law_more ok (fun c e => by cases (show some 610 = some c from e); exact tk.more) rfl (hvs := show cellV _ _ = [some (.ref t.w), some (ndV t.R x), some (.int i), some (.fn fi)] by kernel_rfl!) (cells4 fun a1 a2 a3 a4 σ1 X c1 c2 c3 c4 => ?_)
    have J := J.ext X
    have hk := hk.back (.ext X)
    obtain ⟨D0, le, hP⟩ := hN.here hi
    have gM : ∀ e, KGood t.s.length (moreK e (moreF (tr t.s t.rs x) K f)) := fun e => moreK_good (moreF_good (tr_good hasc x) gK f)
    have gx := tr_good (rs := t.rs) hasc x _ (gM i) i nm
    have hl : (orE (K i nm lg) (tr t.s t.rs x (moreK i (moreF (tr t.s t.rs x) K f)) i nm)).2.length ≤ lim := hl
    have hk : Ans t b0 σ1 (orE (K i nm lg) (tr t.s t.rs x (moreK i (moreF (tr t.s t.rs x) K f)) i nm)) k := hk
    have run := fun k => J.B.deep (d := d' + 1) (k := k) hP le .refl J.D hi J.N (Nat.le_of_succ_le hd)
    generalize K i nm lg = r at hl hk run
    refine .mk rfl c4 (.mk rfl c3 (v_fn (run _ (Nat.le_trans (orE_len fun l => gx l hi) hl) fun v σ' D' K' q => ?_)))
    have hk := hk.back K'
    obtain ⟨r1, l1⟩ := r
    cases q with
    | some h => exact q_isN rfl (hk _ _ D' .refl (.some h))
    | none =>
      have S' := J.S.move J.D K'
      have c1 := K'.cell J.D c1
      have c2 := K'.cell J.D c2
      have c3 := K'.cell J.D c3
      have c4 := K'.cell J.D c4
      have B' := J.B.move K'
      refine q_isN rfl (.mk (S'.st _ _ .t1) (.mk rfl c1 (.mk rfl c2 (.mk rfl c3 (v_fn (hx.run σ' _ (moreK i (moreF (tr t.s t.rs x) K f)) (PMore t.s.length P (x.w + 1) i) i a nm l1 _ _ S' D' ?_ (gM i) hi (J.N.move J.D K') (Nat.le_of_succ_le hd) (hN.more hw hi) hl hk))))))
      intro σ'' lg' e nm' a' d'' k' K1 D1 he N' hd' hP' hl' hk'
      cases hP' with | mk hN' =>
      refine d_inn (cv := [a1, a2, a4, a3]) dj_law_more ok rfl rfl rfl (.mk rfl (K1.cell D' c3) (brD (fun hp => ?_) fun hp => ?_))
      · have lt := Int.ofNat_lt.mp hp
        have e1 : moreK i (moreF (tr t.s t.rs x) K f) e nm' lg' = moreF (tr t.s t.rs x) K f e nm' lg' := if_pos lt
        rw [e1] at hl' hk'
        exact .mk rfl (K1.cell D' c1) (.mk rfl (K1.cell D' c2) (.mk rfl (K1.cell D' c4) (v_fn (ih σ'' e a' nm' lg' _ _ ⟨S'.move D' K1, D1, B'.move K1, N'⟩ he (Nat.le_trans hf (by rw [← Nat.add_assoc, Nat.add_right_comm]; exact Nat.add_le_add_right lt f)) (Nat.le_of_succ_le hd') (hN' lt) hl' hk'))))
      · have e1 : moreK i (moreF (tr t.s t.rs x) K f) e nm' lg' = (none, lg') := if_neg fun q => hp (Int.ofNat_lt.mpr q)
        rw [e1] at hk'
        exact hk'.no D1
theorem try_arbno (ok : TOk g TBL) (tk : Tabs g) (hasc : t.s.cps.all (· < 128) = true) (hx : TryOk g t nd b0 x) (hw : x.w ≤ 5) : TryOk g t nd b0 (.arbno x) := ⟨fun σ fi K P i a nm lg d k S D B gK hi N hd hN hl hk => by
  obtain ⟨d', rfl, _⟩ := hN.at hi (Nat.succ_pos _)
  refine try_go (n := .arbno x) ok tk ⟨S, D, B, N⟩ fun a1 a2 a3 σ1 J KX c1 c2 c3 => ?_
  exact .mk rfl c1 (.mk rfl c2 (.mk rfl c3 (v_fn (sp_more ok tk hasc hx hw gK (t.s.length + 1 - i) σ1 i a nm lg _ _ J hi (Nat.le_of_eq (Nat.add_sub_cancel' (Nat.le_succ_of_le hi)).symm) (Nat.le_of_succ_le hd) hN hl (hk.back KX)))))⟩
theorem v_named (ok : TOk g TBL) (tk : Tabs g) {s0 : Str} (hn : ndV t.R n = .tup [.str s0, ndV t.R x, .ref (t.R j)]) (J : TrJ g t nd b0 σ fi K P i a nm lg)
    (h : ∀ a1 a2 a3 a4 a5 a6 σ₁, TrJ g t nd b0 σ₁ fi K P i a nm lg → Six σ a1 a2 a3 a4 a5 a6 (.ref t.w) (ndV t.R n) (.int i) (.fn fi) (.str (keyS j)) (.str t.s) σ₁ →
      CallC g d F_law_try [.ref t.w, ndV t.R x, .int i, .ref a, .fn { L_law_named with closure := (["world", "subject", "node", "key", "behind", "at"] : List Str).zip [a1, a6, a2, a5, a4, a3] }] σ₁ k) :
    VC g TBL (d + 1) (.fn F_law_named) [.ref t.w, ndV t.R n, .int i, .ref a, .fn fi] σ k := by
  refine v_fn (d_irC d_law_named ok (fun c e => by cases (show some 638 = some c from e); exact tk.named) rfl (hvs := show cellV _ _ = [some (.ref t.w), some (ndV t.R n), some (.int i), some (.fn fi), none, none] by kernel_rfl!) (cells6 fun a1 a2 a3 a4 a5 a6 σ1 X c1 c2 c5 n56 c6 H6 => ?_))
  have J1 := J.ext X
  have hS := H6 (.str (keyS j)) (.str t.s)
  refine .mk rfl c2 (su_tup hn rfl rfl (J1.S.key (.mk rfl c1 (u_map (J1.S.st _ _ .w) rfl (.mk rfl c5 (.mk rfl (upd_ne' c6 n56.symm) ?_))))))
  have J2 := J.ext hS.X
  exact .mk (J2.S.st _ _ .t3) (.mk rfl hS.c1 (.mk rfl hS.c2 (su_tup hn rfl rfl (.mk rfl hS.c3 (v_fn (h a1 a2 a3 a4 a5 a6 _ J2 hS))))))
end
end Mine

namespace Mine
section
variable {g : GE} {t : Tn} {nd : V} {b0 d i j : Nat} {σ : Sto} {k : KE} {fi : FnI} {K : KT} {P : Nat → Nat → Prop} {lg : LG} {a : Addr} {nm : NL} {n x y : Nd}
theorem try_later (ok : TOk g TBL) (tk : Tabs g) (hs : t.s.length ≤ 1000) (hasc : t.s.cps.all (· < 128) = true) (hx : TryOk g t nd b0 x) : TryOk g t nd b0 (.later x j) := ⟨fun σ fi K P i a nm lg d k S D B gK hi N hd hN hl hk => by
  obtain ⟨d', rfl, _⟩ := hN.at hi (Nat.succ_pos _)
  refine try_go (n := .later x j) ok tk ⟨S, D, B, N⟩ fun a1 a2 a3 σ1 J KX c1 c2 c3 => ?_
  refine .mk rfl c1 (.mk rfl c2 (.mk rfl c3 (v_named (n := .later x j) ok tk rfl J fun b1 b2 b3 b4 b5 b6 σ2 J2 hS => hx.run σ2 _ (laterK t.s j i K) (PName P) i a nm lg _ _ J2.S J2.D ?_ (fun e t l he => .name (txt_ok hasc e hi) (gK e _ l he)) hi J2.N (Nat.le_trans (Nat.add_le_add_left (Nat.le_add_right _ 2) _) hd) hN.name hl ((hk.back KX).back (.ext hS.X)))))
  intro σ' lg' e nm' a' d'' k' K1 D1 he N' hd' hP hl' hk'
  cases hP with | @mk D0 hP =>
  refine d_inn (cv := [b1, b6, b2, b5, b4, b3]) dj_law_named ok rfl rfl rfl ?_
  have cc : ∀ {b v}, σ2 b = some (.cell v) → σ' b = some (.cell v) := fun e => K1.cell J2.D e
  have hn1 : nm'.length + 1 ≤ 1000000 := Nat.le_trans (Nat.le_trans (Nat.add_le_add_left (Nat.le_add_left 1 _) _) hd') (by decide)
  refine .mk rfl (cc hS.c2) (.mk rfl (cc hS.c4) (.mk rfl (cc hS.c5) (.mk rfl (cc hS.c6) (.mk rfl (cc hS.c3) (l_str (lo := some (i : Int)) (hi := some (e : Int)) rfl rfl (Nat.le_trans hs (by decide)) fun l1 h1 => b_app (upd_old N'.h h1) upd_eq (by rw [List.length_map]; exact hn1) fun l2 h2 => v_fn ?_)))))
  have X := (ext_new (c := .list [.tup [.str (keyS j), .str (txt t.s i e)]]) h1).trans (ext_new (c := .list (nm'.map keyV ++ [.tup [.str (keyS j), .str (txt t.s i e)]])) h2)
  exact J2.B.deep hP (Nat.le_succ _) (K1.trans (.ext X)) (D1.ext X) he ⟨by rw [List.map_append]; exact upd_eq, (ne_of h2 (upd_old D1.l h1)).symm⟩ (by rw [List.length_append, Nat.add_assoc, List.length_singleton, Nat.add_comm 1]; exact hd') hl' (hk'.back (.ext X))⟩
theorem try_now (ok : TOk g TBL) (tk : Tabs g) (hs : t.s.length ≤ 1000) (hasc : t.s.cps.all (· < 128) = true) (hx : TryOk g t nd b0 x) : TryOk g t nd b0 (.now x j) := ⟨fun σ fi K P i a nm lg d k S D B gK hi N hd hN hl hk => by
  obtain ⟨d', rfl, _⟩ := hN.at hi (Nat.succ_pos _)
  refine try_go (n := .now x j) ok tk ⟨S, D, B, N⟩ fun a1 a2 a3 σ1 J KX c1 c2 c3 => ?_
  refine .mk rfl c1 (.mk rfl c2 (.mk rfl c3 (v_named (n := .now x j) ok tk rfl J fun b1 b2 b3 b4 b5 b6 σ2 J2 hS => hx.run σ2 _ (nowK t.s t.rs j i K) (PName P) i a nm lg _ _ J2.S J2.D ?_ (nowK_good hasc hi gK) hi J2.N (Nat.le_trans (Nat.add_le_add_left (Nat.le_add_right _ 2) _) hd) hN.name hl ((hk.back KX).back (.ext hS.X)))))
  intro σ' lg' e nm' a' d'' k' K1 D1 he N' hd' hP hl' hk'
  cases hP with | @mk D0 hP =>
  refine d_inn (cv := [b1, b6, b2, b5, b4, b3]) dj_law_named ok rfl rfl rfl ?_
  have cc : ∀ {b v}, σ2 b = some (.cell v) → σ' b = some (.cell v) := fun e => K1.cell J2.D e
  exact .mk rfl (cc hS.c2) (.mk rfl (cc hS.c1) (.mk rfl (cc hS.c5) (.mk rfl (cc hS.c6) (.mk rfl (cc hS.c3) (l_str (lo := some (i : Int)) (hi := some (e : Int)) rfl rfl (Nat.le_trans hs (by decide)) (.mk rfl (cc hS.c4) (v_now (v := .str (txt t.s i e)) ok (J2.S.move J2.D K1) D1 (J2.B.move K1) gK he N' (Nat.le_trans (Nat.add_le_add_left (Nat.le_add_right _ 2) _) hd') hP (Nat.le_refl _) hl' hk')))))))⟩
theorem try_all (ok : TOk g TBL) (tk : Tabs g) (hs : t.s.length ≤ 1000) (hasc : t.s.cps.all (· < 128) = true) (n : Nd) : n.w ≤ 6 → n.wt ≤ 1000 → TryOk g t nd b0 n := by
  have z0 : ∀ {n : Nd}, n.wt = 0 → n.wt ≤ 1000 := fun h => by rw [h]; exact Nat.zero_le _
  refine Nd.rec (motive := fun n => n.w ≤ 6 → n.wt ≤ 1000 → TryOk g t nd b0 n) (fun u _ h => try_lone ok tk hs hasc rfl rfl h fun _ => rfl) (fun u _ _ => try_lone ok tk hs hasc rfl rfl (Nat.zero_le _) fun _ => rfl) (fun u _ _ => try_lone ok tk hs hasc rfl rfl (Nat.zero_le _) fun _ => rfl) (fun u _ h => try_lone ok tk hs hasc rfl rfl h fun _ => rfl) (fun u _ h => try_lone ok tk hs hasc rfl rfl h fun _ => rfl)
    (fun _ _ => try_arb ok tk hs) (fun _ _ => try_rem ok tk hs) (fun _ _ => try_fail ok tk) (fun j _ _ => try_cur ok tk) ?_ ?_ ?_ ?_ ?_ n
  · exact fun x hx hw h => try_arbno ok tk hasc (hx (Nat.le_of_succ_le hw) h) (Nat.le_of_succ_le_succ hw)
  · exact fun x j hx hw h => try_later ok tk hs hasc (hx (Nat.le_of_succ_le hw) h)
  · exact fun x j hx hw h => try_now ok tk hs hasc (hx (Nat.le_of_succ_le hw) h)
  · exact fun x y hx hy hw h => try_cat ok tk hasc (hx (Nat.le_trans (Nat.le_add_right _ _) hw) (Nat.le_trans (Nat.le_add_right _ _) h)) (hy (Nat.le_trans (Nat.le_add_left _ _) hw) (Nat.le_trans (Nat.le_add_left _ _) h))
  · exact fun x y hx hy hw h => try_alt ok tk hasc (hx (Nat.le_trans (Nat.le_add_right _ _) hw) (Nat.le_trans (Nat.le_add_right _ _) h)) (hy (Nat.le_trans (Nat.le_add_left _ _) hw) (Nat.le_trans (Nat.le_add_left _ _) h))
end
end Mine

namespace Mine
inductive DueT : Option (Nat × Nat × NL) → V → Sto → Prop
  | none {σ : Sto} : DueT none .none σ
  | some {b e : Nat} {nm : NL} {a : Addr} {σ : Sto} (h : σ a = some (.list (nm.map keyV))) : DueT (some (b, e, nm)) (.tup [.int b, .int e, .ref a]) σ
inductive DueJ (t : Tn) (n : Nd) (c : Addr) (σ : Sto) (lg : LG) (N : Nat) (anch : Bool) (m : List Nat) : Lo → Sto → Prop
  | mk {rest : List Nat} {lg' : LG} {fv : Option V} {u : Option V} {σ' : Sto} (er : List.range' 0 N = m ++ rest) (K : KeepT t σ σ') (D : TD t σ' lg') (cu : σ' c = some (.cell u)) (lo : LOk lg') (ed : due t.s t.rs n (List.range' 0 N) lg = due t.s t.rs n rest lg') :
    DueJ t n c σ lg N anch m [some (.ref t.w), some (.bool anch), fv] σ'
/-- the turns of the law's own trials -/
noncomputable def dueB : I := match I_law_due with
  | .cons a _ => (match a with
    | .forC _ _ b => b
    | _ => .nil)
  | _ => .nil
section
variable {g : GE} {t : Tn} {d N : Nat} {σ : Sto} {k : KE} {lg : LG} {n : Nd} {c : Addr}
theorem due_loop (ok : TOk g TBL) (tk : Tabs g) (S : TS t (ndV t.R n) σ) (D : TD t σ lg) (hc : σ c = none) {σ0 : Sto} (X0 : Ext σ σ0) (c0 : σ0 c = some (.cell none)) (hs : t.s.length ≤ 4) (hasc : t.s.cps.all (· < 128) = true) (hw : n.w ≤ 6) (hwt : n.wt ≤ 1000) (anch : Bool) (hN : N ≤ t.s.length) (lo : LOk lg)
    (hl : (due t.s t.rs n (List.range' 0 (N + 1)) lg).2.length ≤ lim)
    (hk : ∀ v σ', TD t σ' (due t.s t.rs n (List.range' 0 (N + 1)) lg).2 → KeepT t σ σ' → DueT (due t.s t.rs n (List.range' 0 (N + 1)) lg).1 v σ' → k v σ') {fv : Option V} :
    LF (setC (some c)) (wS g TBL (d + 629) dueB [c]) (thenF (fun ρ σ => wS g TBL (d + 629) (.cons (.ret (.k .none)) .nil) [c] ρ σ (endF k)) (endF k)) [some (.ref t.w), some (.bool anch), fv] (.rng 0 ((N : Int) + 1)) σ0 := by
  have hi : rangeV ((0 : Nat) : Int) ((N : Int) + 1) = (List.range' 0 (N + 1)).map intV := rangeV_eq (Nat.zero_le N)
  have hN4 : N ≤ 4 := Nat.le_trans hN hs
  have hL : ∀ x ∈ List.range' 0 (N + 1), x ≤ t.s.length := fun x hm => by
    rw [List.mem_range'_1, Nat.zero_add] at hm
    exact Nat.le_trans (Nat.le_of_lt_succ hm.2) hN
  have hcl : c ≠ t.lA := (ne_of hc D.l).symm
  have hcv : c ≠ t.vA := by
    obtain ⟨vals, q, _⟩ := D.v
    exact (ne_of hc q).symm
  refine l_forP (f := intV) (List.range' 0 (N + 1)) (DueJ t n c σ lg (N + 1) anch) (.mk rfl (.ext X0) (D.ext X0) c0 lo rfl) (fun m ρ' σ' j => ?_) (fun m ρ' σ' j x r el Nx nx => ?_) fun ρ' σ' j => ?_
  · rw [← hi]
    exact .rng ⟨Int.le_refl _, by decide, Int.natCast_nonneg (N + 1), Int.ofNat_le.mpr (Nat.le_trans (Nat.succ_le_succ hN4) (by decide))⟩
  · cases j with | @mk rest lg' fv u σ' er K1 D1 cu lo1 ed =>
    have e := List.append_cancel_left (er.symm.trans el)
    subst e
    have hx := hL x (by rw [er]; exact List.mem_append_right _ (.head _))
    refine .mk rfl cu ?_
    have K2 : KeepT t σ (upd σ' c (.cell (some (intV x)))) := fun b y n1 n2 e => upd_ne' (K1 b y n1 n2 e) (ne_of hc e)
    have D2 : TD t (upd σ' c (.cell (some (intV x)))) lg' := by
      obtain ⟨vals, q1, q2⟩ := D1.v
      exact ⟨upd_ne' D1.l hcl.symm, vals, upd_ne' q1 hcv.symm, q2⟩
    have cc := upd_eq (σ := σ') (a := c) (c := .cell (some (intV x)))
    revert K2 D2 cc
    generalize upd σ' c (.cell (some (intV x))) = σ2
    intro K2 D2 cc
    have S2 := S.move D K2
    refine u_map (S2.st _ _ .w) rfl (.mk rfl cc fun a ha => ?_)
    have X3 := ext_new (c := .list []) ha
    have S3 := S2.move D2 (.ext X3)
    have D3 := D2.ext X3
    have cc3 := X3 _ _ cc
    have N3 : NmAt t (upd σ2 a (.list [])) a [] := ⟨upd_eq, (ne_of ha D2.l).symm⟩
    have K3 := K2.trans (.ext X3)
    clear cc S2 D2 K2 X3
    revert S3 D3 cc3 N3 K3
    generalize upd σ2 a (.list []) = σ3
    intro S3 D3 cc3 N3 K3
    have g1 := tr_good (rs := t.rs) hasc n endK endK_good x [] lg' hx
    have lo2 := g1.lok (fun p hp => by cases hp) lo1
    have ed : due t.s t.rs n (List.range' 0 (N + 1)) lg = dueX x (tr t.s t.rs n endK x [] lg').2 (due t.s t.rs n r) (tr t.s t.rs n endK x [] lg').1 := ed
    have run := (try_all (t := t) (nd := ndV t.R n) (b0 := x) ok tk (Nat.le_trans hs (by decide)) hasc n hw hwt).run σ3 { L_law_due with closure := (["begin"] : List Str).zip [c] } endK (fun _ D => 0 < D) x a [] lg' 629
    rw [ed] at hl hk
    have hlt : (tr t.s t.rs n endK x [] lg').2.length ≤ lim := by
      generalize tr t.s t.rs n endK x [] lg' = T at hl lo2
      obtain ⟨T1, T2⟩ := T
      cases T1 with
      | some p => exact hl
      | none => exact Nat.le_trans (due_good hasc n r T2 (fun y hy => hL y (by rw [er]; exact List.mem_append_right _ (.tail _ hy))) lo2).1 hl
    generalize tr t.s t.rs n endK x [] lg' = T at ed hl hk lo2 run hlt
    refine .mk (S3.st _ _ .t4) (v_fn (CallC.room (run _ S3 D3 ?_ endK_good hx N3 (by decide) (.all hs hw) hlt fun v σ4 D4 K4 q => ?_) (Nat.le_add_left _ _)))
    · intro σ5 lg5 e nm a5 d5 k5 K5 D5 he N5 hd hP hl5 hk5
      obtain ⟨d6, rfl⟩ := Nat.exists_eq_add_of_le' (show 1 ≤ d5 from hP)
      exact d_innL (cv := [c]) dj_law_due ok rfl rfl rfl (.mk rfl (K5.cell D3 cc3) (hk5 _ σ5 D5 .refl (.some N5.h)))
    · have cc4 := K4.cell D3 cc3
      obtain ⟨T1, T2⟩ := T
      cases q with
      | none => exact q_isN rfl (nx _ _ (.mk (rest := r) (er.trans (List.append_assoc m [x] r).symm) (K3.trans K4) D4 cc4 lo2 ed))
      | some h => exact q_isN rfl (hk _ _ D4 (K3.trans K4) (.some h))
  · cases j with | @mk rest lg' fv u σ' er K1 D1 cu lo1 ed =>
    have e : rest = [] := List.append_right_eq_self.mp er.symm
    subst e
    rw [ed] at hk
    exact hk _ _ D1 K1 .none
theorem v_due (ok : TOk g TBL) (tk : Tabs g) (S : TS t (ndV t.R n) σ) (D : TD t σ lg) (hs : t.s.length ≤ 4) (hasc : t.s.cps.all (· < 128) = true) (hw : n.w ≤ 6) (hwt : n.wt ≤ 1000) (anch : Bool) (lo : LOk lg)
    (hl : (due t.s t.rs n (List.range' 0 (cond anch 0 t.s.length + 1)) lg).2.length ≤ lim)
    (hk : ∀ v σ', TD t σ' (due t.s t.rs n (List.range' 0 (cond anch 0 t.s.length + 1)) lg).2 → KeepT t σ σ' → DueT (due t.s t.rs n (List.range' 0 (cond anch 0 t.s.length + 1)) lg).1 v σ' → k v σ') :
    VC g TBL (d + 630) (.fn F_law_due) [.ref t.w, .bool anch] σ k := by
  refine v_fn (d_irC d_law_due ok (fun c e => by cases (show some 652 = some c from e); exact tk.due) rfl (hvs := show cellV _ _ = [none] by kernel_rfl!) fun c hc => ?_)
  have X := ext_new (c := .cell none) hc
  have c0 := upd_eq (σ := σ) (a := c) (c := .cell none)
  cases anch with
  | true => exact v_rg1 (due_loop (N := 0) ok tk S D hc X c0 hs hasc hw hwt true (Nat.zero_le _) lo hl hk)
  | false => exact u_map (X _ _ (S.st _ _ .w)) rfl (v_lenS (big_s (Nat.le_trans hs (by decide))) (v_rg1 (due_loop (N := t.s.length) ok tk S D hc X c0 hs hasc hw hwt false (Nat.le_refl _) lo hl hk)))
end
end Mine

namespace Mine
/-! ## the law -/
noncomputable section
noncomputable def tlN : Nat → I → I
  | 0, x => x
  | n + 1, x => tlN n (tlI x)
noncomputable def keyD (p : Nat × Str) : PyData := .tuple [.str (keyS p.1), .str p.2]
noncomputable def valD : V → PyData
  | .int i => .int i
  | .str x => .str x
  | _ => .none
noncomputable def logD (p : Nat × V) : PyData := .tuple [.str (keyS p.1), valD p.2]
end
theorem keyS_ok (i : Nat) : PyData.strOk (keyS i) = true := by
  obtain ⟨j, hj, e⟩ := keyS_min i
  rw [e]
  exact (show ∀ j, j < 3 → PyData.strOk (keyS j) = true by decide +kernel) j hj
/-- a list of rows that can be compared -/
structure RowsOk (σ : Sto) (ds : List PyData) (l : List V) : Prop where
  d : DatasOf σ ds l
  c : PyData.canLayAll0 ds = true
  n : PyData.depthAll ds ≤ 1
theorem RowsOk.cons {σ : Sto} {ds : List PyData} {l : List V} (h : RowsOk σ ds l) {i : Nat} {v : V} {x : PyData} (hx : DataOf σ x v) (c : x.canLay0 = true) (n : x.depth = 0) : RowsOk σ (.tuple [.str (keyS i), x] :: ds) (.tup [.str (keyS i), v] :: l) := by
  refine ⟨⟨_, _, rfl, ⟨_, rfl, _, _, rfl, rfl, _, _, rfl, hx, rfl⟩, h.d⟩, ?_, Nat.max_le.mpr ⟨?_, h.n⟩⟩
  · show ((PyData.strOk (keyS i) && (x.canLay0 && true)) && PyData.canLayAll0 ds) = true
    rw [keyS_ok, c, h.c]; rfl
  · show max 0 (max x.depth 0) + 1 ≤ 1
    rw [n]; exact Nat.le_refl _
theorem data_names {σ : Sto} (l : NL) (h : NOk l) : RowsOk σ (l.map keyD) (l.map keyV) := by
  induction l with
  | nil => exact ⟨rfl, rfl, Nat.zero_le _⟩
  | cons p r ih => exact (ih fun x hx => h x (.tail _ hx)).cons (show DataOf σ (.str p.2) (.str p.2) from rfl) (h p (.head _)) rfl
theorem data_log {σ : Sto} (l : LG) (h : LOk l) : RowsOk σ (l.map logD) (l.map logV) := by
  induction l with
  | nil => exact ⟨rfl, rfl, Nat.zero_le _⟩
  | cons p r ih =>
    have ih := ih fun x hx => h x (.tail _ hx)
    have hv := h p (.head _)
    obtain ⟨i, v⟩ := p
    cases hv with
    | int n => exact ih.cons (show DataOf σ (.int n) (.int n) from rfl) rfl rfl
    | @str x hx => exact ih.cons (show DataOf σ (.str x) (.str x) from rfl) hx rfl
theorem RowsOk.list {σ : Sto} {ds : List PyData} {l : List V} (h : RowsOk σ ds l) {a : Addr} (e : σ a = some (.list l)) : DataOf σ (.list ds) (.ref a) := ⟨_, _, rfl, e, h.d⟩
inductive DueM (R : Nat → Addr) (σ : Sto) : Option (Nat × Nat × NL) → V → Prop
  | none : DueM R σ none .none
  | some {b e : Nat} {t : NL} {a : Addr} (h : σ a = some (.list (t.map (namV R)))) (hl : t.length ≤ big) : DueM R σ (some (b, e, t)) (.tup [.int b, .int e, .ref a])
inductive KyJ (tn : NL) (σ : Sto) : Addr → Nat → List V → Sto → Prop
  | mk {acc : Addr} {i : Nat} (ha : σ acc = none) : KyJ tn σ acc i ((tn.take i).map keyV) (upd σ acc (.list ((tn.take i).map keyV)))
section
variable {g : GE} {d : Nat} {σ : Sto} {k : KE} {t : Tn} {nd : V} {lg : LG}
theorem eq_same {x y : V} {da : PyData} {K : Bool → Prop} (hx : DataOf σ da x) (hy : DataOf σ da y) (h : da.canLay0 = true) (hd : da.depth ≤ 20) (q : K true) : VQ g .Eq x y σ K := q_eqD hx hy h h hd (by rw [SeqAt.eqv_refl da h]; exact q)
theorem g_hlog {h dh vA rA lA : Addr} {lm n : Int} {K : V → Prop} (hh : σ h = some (.inst "PlainHost" dh)) (hd : σ dh = some (.dict (hostD vA lm rA n lA))) (q : K (.ref lA)) : VG g TBL (.ref h) ("log" : Str) σ K := g_inst hh fl_PlainHost_log hd (by kernel_rfl!) rfl q
theorem law_end (ok : TOk g TBL) (S : TS t nd σ) (D : TD t σ lg) {c h dh vA rA lA : Addr} {lm n : Int} (hh : σ h = some (.inst "PlainHost" dh)) (hd : σ dh = some (.dict (hostD vA lm rA n lA))) (hl : σ lA = some (.list (lg.map logV))) (okl : LOk lg) {r : Option (Nat × Nat × NL)} (nk : ∀ p, r = some p → NOk p.2.2) {v v2 : V} (q : DueM t.R σ r v) (q2 : DueT r v2 σ)
    (hk : ∀ σ', Ext σ σ' → k (.bool true) σ') {x0 x1 x2 x3 x4 x5 x6 x7 : Option V} : wS g TBL d (tlN 9 I_law) [c] [x0, x1, x2, x3, x4, x5, x6, x7, some (.ref t.w), some (.ref h), some v, some v2] σ (endF k) := by
  have logs : ∀ {σ' : Sto}, Ext σ σ' → RowsOk σ' (lg.map logD) (lg.map logV) := fun _ => data_log lg okl
  have dl : (PyData.list (lg.map logD)).depth ≤ 20 := Nat.le_trans (Nat.succ_le_succ (logs .refl).n) (by decide)
  cases q with
  | none =>
    cases q2 with | none =>
    exact q_isN rfl (eq_same (da := .none) rfl rfl rfl (by decide) (g_hlog hh hd (u_map (S.st _ _ .w) rfl (eq_same ((logs .refl).list hl) ((logs .refl).list D.l) (logs .refl).c dl (hk _ .refl)))))
  | @some b e tn a1 l1 hn =>
    cases q2 with | @some _ _ _ a2 _ l2 =>
    refine q_isN rfl (.mk (tn.map (namV t.R)) (KyJ tn σ) (.list l1) (fun acc ha => .mk ha) (fun acc i out σ' j _ => ?_) (fun acc i out y σ' j hy => ?_) fun acc out σ' j => ?_)
    · cases j with | mk ha => exact .list (upd_old l1 ha)
    · cases j with | mk ha =>
      rw [List.getElem?_map] at hy
      obtain ⟨p, hp, e⟩ := Option.map_eq_some_iff.mp hy
      subst e
      have S' := S.move D (.ext (ext_new (c := .list ((tn.take i).map keyV)) ha))
      refine S'.key ⟨upd_eq, ?_, ?_⟩
      · rw [List.length_map]
        exact Nat.le_trans (List.length_take_le' i tn) hn
      · have e : (tn.take i).map keyV ++ [.tup [.str (keyS p.1), .str p.2]] = (tn.take (i + 1)).map keyV := by rw [List.take_add_one, hp, List.map_append]; rfl
        rw [upd_upd, e]
        exact .mk ha
    · cases j with | mk ha =>
      rw [List.length_map, List.take_length]
      have X := ext_new (c := .list (tn.map keyV)) ha
      have e3 := upd_eq (σ := σ) (a := acc) (c := .list (tn.map keyV))
      revert X e3
      generalize upd σ acc (.list (tn.map keyV)) = σ2
      intro X e3
      have S2 := S.move D (.ext X)
      have rn := data_names (σ := σ2) tn (nk _ rfl)
      refine eq_same (da := .tuple [.int b, .int e, .list (tn.map keyD)]) ⟨_, rfl, _, _, rfl, rfl, _, _, rfl, rfl, _, _, rfl, rn.list e3, rfl⟩ ⟨_, rfl, _, _, rfl, rfl, _, _, rfl, rfl, _, _, rfl, rn.list (X _ _ l2), rfl⟩ ?_ ?_ (g_hlog (X _ _ hh) (X _ _ hd) (u_map (S2.st _ _ .w) rfl (eq_same ((logs X).list (X _ _ hl)) ((logs X).list (X _ _ D.l)) (logs X).c dl (hk _ X))))
      · show (true && (true && (PyData.canLayAll0 (tn.map keyD) && true))) = true
        rw [rn.c]; rfl
      · show max 0 (max 0 (max (PyData.depthAll (tn.map keyD) + 1) 0)) + 1 ≤ 20
        rw [Nat.zero_max, Nat.zero_max, Nat.max_zero]
        exact Nat.le_trans (Nat.add_le_add_right (Nat.add_le_add_right rn.n 1) 1) (by decide)
end
end Mine

namespace Mine
/-- the cells that stay from the start -/
inductive Km (sc : Addr) (l : List V) (o₀ : Obj) (R Rd : Nat → Addr) : Addr → Cell → Prop
  | s : Km sc l o₀ R Rd sc (.ro l o₀)
  | t1 : Km sc l o₀ R Rd 606 (.tab ⟨503, 4, 504, 78⟩ "_law_more.<locals>.again")
  | t2 : Km sc l o₀ R Rd 627 (.tab ⟨520, 51, 520, 112⟩ "_law_try.<locals>.<lambda>")
  | t3 : Km sc l o₀ R Rd 634 (.tab ⟨542, 4, 545, 71⟩ "_law_named.<locals>.ended")
  | t4 : Km sc l o₀ R Rd 648 (.tab ⟨561, 58, 561, 96⟩ "_law_due.<locals>.<lambda>")
  | ref (i : Nat) : Km sc l o₀ R Rd (R i) (.inst "NameRef" (Rd i))
  | rd (i : Nat) : Km sc l o₀ R Rd (Rd i) (.dict (refD (keyS i)))
noncomputable def tagOk (n : Nat) : Bool := !(Nat.beq n 0 || Nat.beq n 4 || Nat.beq n 5 || Nat.beq n 6)
theorem Km.tag {sc : Addr} {l : List V} {o₀ : Obj} {R Rd : Nat → Addr} {b : Addr} {x : Cell} (h : Km sc l o₀ R Rd b x) : tagOk x.tag = true := by
  cases h with
  | rd i => rw [tag_ref]; rfl
  | _ => rfl
theorem tagOk_ne {n m : Nat} (h : tagOk n = true) (e : tagOk m = false) : n ≠ m := fun q => by rw [q, e] at h; cases h
noncomputable def Kps (σ σ' : Sto) : Prop := ∀ b x, tagOk x.tag = true → σ b = some x → σ' b = some x
noncomputable def AtM (sc : Addr) (l : List V) (o₀ : Obj) (R Rd : Nat → Addr) (σ : Sto) : Prop := ∀ b x, Km sc l o₀ R Rd b x → σ b = some x
inductive Kw (sc : Addr) (l : List V) (o₀ : Obj) : Addr → Cell → Prop
  | s : Kw sc l o₀ sc (.ro l o₀)
  | t1 : Kw sc l o₀ 606 (.tab ⟨503, 4, 504, 78⟩ "_law_more.<locals>.again")
  | t2 : Kw sc l o₀ 627 (.tab ⟨520, 51, 520, 112⟩ "_law_try.<locals>.<lambda>")
  | t3 : Kw sc l o₀ 634 (.tab ⟨542, 4, 545, 71⟩ "_law_named.<locals>.ended")
  | t4 : Kw sc l o₀ 648 (.tab ⟨561, 58, 561, 96⟩ "_law_due.<locals>.<lambda>")
noncomputable def Start (sc : Addr) (l : List V) (o₀ : Obj) (σ : Sto) : Prop := ∀ b x, Kw sc l o₀ b x → σ b = some x
section
variable {g : GE} {d : Nat} {σ σ' σ'' : Sto} {k : KE} {sc : Addr} {l : List V} {o₀ : Obj} {R Rd : Nat → Addr}
theorem Kps.ext (x : Ext σ σ') : Kps σ σ' := fun b y _ e => x b y e
theorem Kps.trans (a : Kps σ σ') (b : Kps σ' σ'') : Kps σ σ'' := fun x y n e => b x y n (a x y n e)
theorem AtM.move (h : AtM sc l o₀ R Rd σ) (K : Kps σ σ') : AtM sc l o₀ R Rd σ' := fun b x s => K b x s.tag (h b x s)
theorem AtM.start (h : AtM sc l o₀ R Rd σ) : Start sc l o₀ σ := fun b x s => by
  cases s with
  | s => exact h _ _ .s
  | t1 => exact h _ _ .t1
  | t2 => exact h _ _ .t2
  | t3 => exact h _ _ .t3
  | t4 => exact h _ _ .t4
theorem KeepT.kps {t : Tn} {lg : LG} (K : KeepT t σ σ') (D : TD t σ lg) : Kps σ σ' := fun b x h e => K.get D e (tagOk_ne h rfl) (tagOk_ne h rfl)
theorem KeepH.kps {c : Cn} {n : Int} {lg : LG} (K : KeepH c σ σ') (H : H0 c σ n lg) : Kps σ σ' := fun b x h e => by
  obtain ⟨vals, v1, _⟩ := H.v
  exact K b x ⟨tagOk_ne h rfl, tagOk_ne h rfl, ne_tag e v1 (tagOk_ne h rfl), ne_tag e H.l (tagOk_ne h rfl)⟩ e
theorem KeepB.kps {bx q : Addr} {xs : List Int} {a b : Int} (K : KeepB bx q σ σ') (B : BoxAt σ bx q xs a b) : Kps σ σ' := fun y x h e => K y x (ne_tag e B.hb (tagOk_ne h rfl)) (ne_tag e B.hq (tagOk_ne h rfl)) e
theorem KeepH.lst {c : Cn} {n : Int} {lg : LG} {b : Addr} {m : List V} (K : KeepH c σ σ') (H : H0 c σ n lg) (e : σ b = some (.list m)) (nb : b ≠ c.lA) : σ' b = some (.list m) := by
  obtain ⟨vals, v1, _⟩ := H.v
  exact K b _ ⟨nt rfl, nt rfl, ne_tag e v1 (nt rfl), nb⟩ e
theorem KeepH.map {c : Cn} {n : Int} {lg : LG} {b : Addr} {m : List (Str × V)} (K : KeepH c σ σ') (H : H0 c σ n lg) (e : σ b = some (.map m)) (nb : b ≠ c.vA) : σ' b = some (.map m) := K b _ ⟨nt rfl, nt rfl, nb, ne_tag e H.l (nt rfl)⟩ e
theorem due_m {c : Cn} {t : Tn} {n : Int} {lg lg' : LG} {m : List V} {v : V} {r : Option (Nat × Nat × NL)} (q : DueV c σ r v σ') (H : H0 c σ n lg) (e : σ t.lA = some (.list m)) (nb : t.lA ≠ c.lA) (D : TD t σ' lg') (K : KeepT t σ' σ'') : DueM c.R σ'' r v := by
  cases q with
  | none => exact .none
  | some h k hn hl => exact .some (K.lst D h (ne_of hn (k.lst H e nb)).symm) hl
theorem sp_ref_init (ok : TOk g TBL) {x dx : Addr} {key : Str} (hx : σ x = some (.inst "NameRef" dx)) (hd : σ dx = some (.dict [])) (ne : x ≠ dx)
    (hk : ∀ σ', σ' x = some (.inst "NameRef" dx) → σ' dx = some (.dict (refD key)) → (∀ b c, b ≠ dx → σ b = some c → σ' b = some c) → k .none σ') : CallC g (d + 1) F_NameRef_init [.ref x, .str "var", .none, .str key] σ k :=
  d_ir0 d_NameRef_init ok rfl rfl rfl (init_set hx hd fl_NameRef_kind ne rfl (l' := [("kind", .str "var")]) (by kernel_rfl!) fun σ₁ h1 d1 k1 => init_set h1 d1 fl_NameRef_owner ne rfl (l' := [("kind", .str "var"), ("owner", .none)]) (by kernel_rfl!) fun σ₂ h2 d2 k2 => init_set h2 d2 fl_NameRef_key ne rfl (l' := refD key) (by kernel_rfl!) fun σ₃ h3 d3 k3 =>
    hk σ₃ h3 d3 fun b c nb e => by rw [k3 b nb, k2 b nb, k1 b nb]; exact e)
theorem sp_host_init (ok : TOk g TBL) {x dx vA rA : Addr} {lm : Int} (hx : σ x = some (.inst "PlainHost" dx)) (hd : σ dx = some (.dict [])) (ne : x ≠ dx)
    (hk : ∀ lA σ', σ lA = none → σ' x = some (.inst "PlainHost" dx) → σ' dx = some (.dict (hostD vA lm rA 0 lA)) → σ' lA = some (.list []) → (∀ b c, b ≠ dx → σ b = some c → σ' b = some c) → k .none σ') : CallC g (d + 1) F_PlainHost_init [.ref x, .ref vA, .int lm, .ref rA] σ k := by
  refine d_ir0 d_PlainHost_init ok rfl rfl rfl (init_set hx hd fl_PlainHost_values ne rfl (l' := [("values", .ref vA)]) (by kernel_rfl!) fun σ₁ h1 d1 k1 => init_set h1 d1 fl_PlainHost_limit ne rfl (l' := [("values", .ref vA), ("limit", .int lm)]) (by kernel_rfl!) fun σ₂ h2 d2 k2 =>
    init_set h2 d2 fl_PlainHost_refused ne rfl (l' := [("values", .ref vA), ("limit", .int lm), ("refused", .ref rA)]) (by kernel_rfl!) fun σ₃ h3 d3 k3 => init_set h3 d3 fl_PlainHost_steps ne rfl (l' := [("values", .ref vA), ("limit", .int lm), ("refused", .ref rA), ("steps", .int 0)]) (by kernel_rfl!) fun σ₄ h4 d4 k4 lA hlA => ?_)
  have hl := ne_of hlA d4
  have kk : ∀ b, b ≠ dx → σ₄ b = σ b := fun b nb => by rw [k4 b nb, k3 b nb, k2 b nb, k1 b nb]
  refine init_set (upd_old h4 hlA) (upd_old d4 hlA) fl_PlainHost_log ne rfl (l' := hostD vA lm rA 0 lA) (by kernel_rfl!) fun σ₅ h5 d5 k5 => hk lA σ₅ ?_ h5 d5 ?_ fun b c nb e => ?_
  · rw [← kk lA hl.symm]; exact hlA
  · rw [k5 lA hl.symm, upd_eq]
  · have e4 : σ₄ b = some c := by rw [kk b nb]; exact e
    rw [k5 b nb]; exact upd_old e4 hlA
/-- what is behind the draws -/
theorem law_mid (ok : TOk g TBL) (tk : Tabs g) (M : AtM sc l o₀ R Rd σ) {rA : Addr} {rs : List Str} (hrA : σ rA = some (.list (rs.map .str))) {s : Str} (hs : s.length ≤ 4) (hasc : s.cps.all (· < 128) = true) {nd : Nd} (sm : Sm nd) (hw : nd.w ≤ 6) (anch : Bool) (hk : ∀ σ', Start sc l o₀ σ' → k (.bool true) σ')
    {c : Addr} {x0 x1 x2 x4 x8 x9 x10 x11 : Option V} : wS g TBL (d + 630) (tlN 6 I_law) [c] [x0, x1, x2, some (.bool anch), x4, some (.str s), some (.ref rA), some (ndV R nd), x8, x9, x10, x11] σ (endF k) := by
  have hz : nd.size ≤ 20 := Nat.le_trans (Nat.le_of_succ_le sm.z) (Nat.le_trans (Nat.mul_le_mul_left 2 hw) (by decide))
  have hwt : nd.wt ≤ 1000 := Nat.le_trans sm.w (Nat.le_trans (Nat.mul_le_mul_left 2 hw) (by decide))
  intro lA hlA vA hvA w hw'
  have y1 := ext_new (c := .list []) hlA
  have y2 := ext_new (c := .map (mergedV [] [])) hvA
  have y3 := ext_new (c := .map (worldL ⟨R, Rd, s, rs, w, rA, lA, vA⟩ (ndV R nd))) hw'
  have W1 := y3 _ _ (y2 _ _ (upd_eq (σ := σ) (a := lA) (c := .list [])))
  have W2 := y3 _ _ (upd_eq (σ := upd σ lA (.list [])) (a := vA) (c := .map (mergedV [] [])))
  have W3 := upd_eq (σ := upd (upd σ lA (.list [])) vA (.map (mergedV [] []))) (a := w) (c := .map (worldL ⟨R, Rd, s, rs, w, rA, lA, vA⟩ (ndV R nd)))
  have X := y1.trans (y2.trans y3)
  have nrl := ne_of hlA hrA
  have nwv := (ne_of hw' (upd_eq (σ := upd σ lA (.list [])) (a := vA) (c := .map (mergedV [] [])))).symm
  have hrA := X _ _ hrA
  have M := M.move (.ext X)
  rw [show mergedV [] [(("subject" : Str), V.str s), ("refused", .ref rA), ("log", .ref lA), ("values", .ref vA), ("node", ndV R nd)] = worldL ⟨R, Rd, s, rs, w, rA, lA, vA⟩ (ndV R nd) by kernel_rfl!]
  clear y1 y2 y3 X hlA hvA hw'
  revert W1 W2 W3 hrA M
  generalize upd (upd (upd σ lA (.list [])) vA (.map (mergedV [] []))) w (.map (worldL ⟨R, Rd, s, rs, w, rA, lA, vA⟩ (ndV R nd))) = σ1
  intro W1 W2 W3 hrA M hv hhv
  have nvh := ne_of hhv W2
  have nwh := ne_of hhv W3
  have X := ext_new (c := .map (mergedV [] [(("A" : Str), V.str ""), ("B", .str ""), ("C", .str "")])) hhv
  have V1 := upd_eq (σ := σ1) (a := hv) (c := .map (mergedV [] [(("A" : Str), V.str ""), ("B", .str ""), ("C", .str "")]))
  have W1 := X _ _ W1
  have W2 := X _ _ W2
  have W3 := X _ _ W3
  have hrA := X _ _ hrA
  have M := M.move (.ext X)
  clear X hhv
  revert V1 W1 W2 W3 hrA M
  generalize upd σ1 hv (.map (mergedV [] [(("A" : Str), V.str ""), ("B", .str ""), ("C", .str "")])) = σ2
  intro V1 W1 W2 W3 hrA M
  refine b_pow (by decide) (by decide) (by decide) (v_cls ct_PlainHost fun h dh hh hdh hne => sp_host_init ok upd_eq (upd_ne' upd_eq hne.symm) hne fun lH σ3 hlH e1 e2 e3 kp => ⟨rfl, ?_⟩)
  have up : ∀ {b y}, σ2 b = some y → upd (upd σ2 dh (.dict [])) h (.inst "PlainHost" dh) b = some y := fun e => upd_old (upd_old e hdh) ((upd_ne hne).trans hh)
  have X : Ext σ2 σ3 := fun b y e => kp b y (ne_of hdh e) (up e)
  have nH : ∀ {b y}, σ2 b = some y → b ≠ lH := fun e => ne_of hlH (up e)
  have M := M.move (.ext X)
  have n1 := nH hrA
  have n2 := nH W1
  have H3 : H0 ⟨R, Rd, s, rs, h, dh, hv, rA, lH, 10 ^ (9 : Int).toNat, 0, 0, 0, 0, []⟩ σ3 0 [] := ⟨fun b x z => by
    cases z with
    | h => exact e1
    | rA => exact X _ _ hrA
    | ref i => exact M _ _ (.ref i)
    | rd i => exact M _ _ (.rd i), e2, ⟨_, X _ _ V1, show VOk (mergedV [] [(("A" : Str), V.str ""), ("B", .str ""), ("C", .str "")]) by rw [show mergedV [] [(("A" : Str), V.str ""), ("B", .str ""), ("C", .str "")] = abc (.str "") (.str "") (.str "") by kernel_rfl!]; exact ⟨_, _, _⟩⟩, e3, n1.symm⟩
  have W1 := X _ _ W1
  have W2 := X _ _ W2
  have W3 := X _ _ W3
  have hrA := X _ _ hrA
  clear up nH kp hlH hh hdh e1 e2 e3 V1 X
  refine v_match_compiled (d := d + 560) ok H3 hz hs hw hwt anch (Int.le_refl _) (show (0 : Int) + 10029867 < 10 ^ (9 : Int).toNat by decide) (by decide) fun σ4 n' v H4 K4 q hb => ?_
  have M4 := M.move (K4.kps H3)
  have S4 : TS ⟨R, Rd, s, rs, w, rA, lA, vA⟩ (ndV R nd) σ4 := ⟨fun b x z => by
    cases z with
    | w => exact K4.map H3 W3 nwh
    | rA => exact K4.lst H3 hrA n1
    | ref i => exact M4 _ _ (.ref i)
    | rd i => exact M4 _ _ (.rd i)
    | t1 => exact M4 _ _ .t1
    | t2 => exact M4 _ _ .t2
    | t3 => exact M4 _ _ .t3
    | t4 => exact M4 _ _ .t4, nwv, nrl⟩
  have D4 : TD ⟨R, Rd, s, rs, w, rA, lA, vA⟩ σ4 [] := ⟨K4.lst H3 W1 n2, _, K4.map H3 W2 nvh, [], .head _, rfl⟩
  have lo : LOk [] := fun p hp => by cases hp
  refine v_due ok tk S4 D4 hs hasc hw hwt anch lo (Nat.le_trans hb (by decide)) fun v2 σ5 D5 K5 q2 => ?_
  have dg := due_good (rs := rs) hasc nd (List.range' 0 (cond anch 0 s.length + 1)) [] (fun x hx => by
    rw [List.mem_range'_1, Nat.zero_add] at hx
    refine Nat.le_trans (Nat.le_of_lt_succ hx.2) ?_
    cases anch with
    | true => exact Nat.zero_le _
    | false => exact Nat.le_refl _) lo
  exact law_end ok (S4.move D4 K5) D5 (K5.get D4 (H4.st _ _ .h) (nt rfl) (nt rfl)) (K5.get D4 H4.hd (by rw [tag_host]; decide) (by rw [tag_host]; decide)) (K5.lst D4 H4.l n2.symm) dg.2.1 dg.2.2 (due_m q H3 W1 n2 D4 K5) q2 fun σ6 X6 => hk σ6 ((M4.move (K5.kps D4)).move (.ext X6)).start
end
end Mine

namespace Mine
theorem join_ones (cs : List Nat) : sl (Str.join ("" : Str) (cs.map fun c => ⟨#[c]⟩)) = cs := by
  induction cs with
  | nil => rfl
  | cons c r ih =>
    cases r with
    | nil => rfl
    | cons e r =>
      show sl ((⟨#[c]⟩ : Str) ++ "" ++ Str.join ("" : Str) ((e :: r).map fun c => ⟨#[c]⟩)) = _
      rw [sl_append, sl_append, ih]
      rfl
theorem joined_ones (cs : List Nat) : sl (Txt.join ("" : Str) (cs.map fun c => ⟨#[c]⟩)) = cs := by
  show sl (Builtin.Str.glued _ _) = _
  rw [StrLaws.glued_eq_join]
  exact join_ones cs
theorem sum_ones (cs : List Nat) : ((cs.map fun c => (⟨#[c]⟩ : Str)).map (·.length)).sum = cs.length := by
  induction cs with
  | nil => rfl
  | cons c r ih =>
    show 1 + ((r.map fun c => (⟨#[c]⟩ : Str)).map (·.length)).sum = r.length + 1
    rw [ih, Nat.add_comm]
theorem join_ok4 (cs : List Nat) (h : cs.length ≤ 1000) : JoinOk ("" : Str) (cs.map fun c => ⟨#[c]⟩) = true := by
  unfold JoinOk Builtin.Str.tooLong
  rw [StrLaws.joinTotal, sum_ones, show (("" : Str)).length = 0 from rfl, Nat.mul_zero, Nat.add_zero]
  rw [decide_eq_false (Nat.not_lt.mpr (Nat.le_trans h (by decide)))]; rfl
theorem ab_at {w : Nat} (h : w < 2) : ∃ c, (("ab" : Str)).cps.toList[w]? = some c ∧ c < 128 := by
  cases w with
  | zero => exact ⟨97, rfl, by decide⟩
  | succ w => cases w with
    | zero => exact ⟨98, rfl, by decide⟩
    | succ w => exact absurd (Nat.lt_of_succ_lt_succ (Nat.lt_of_succ_lt_succ h)) (Nat.not_lt_zero w)
theorem asg_go {i : Nat} {ρ : Lo} {v : V} {σ : Sto} {A : Lo → Sto → Prop} {k : KF} (h : A (ρ.set i (some v)) σ) : asgK i ρ (thenF A k) v σ := h
inductive SbJ (bx q : Addr) (σ : Sto) : Addr → Nat → List V → Sto → Prop
  | mk {acc : Addr} {i : Nat} {out : List V} {σ' : Sto} {cs : List Nat} {xs : List Int} {a : Int} (ho : out = cs.map fun c => .str ⟨#[c]⟩) (hi : cs.length = i) (hc : ∀ c ∈ cs, c < 128) (B : BoxAt σ' bx q xs a 6) (K : KeepB bx q σ σ') (f : σ acc = none) (e : σ' acc = some (.list out)) : SbJ bx q σ acc i out σ'
inductive RfP (σ : Sto) (bx q : Addr) : V → Prop
  | mk {rA : Addr} {rs : List Str} (h : σ rA = some (.list (rs.map .str))) (n1 : rA ≠ bx) (n2 : rA ≠ q) : RfP σ bx q (.ref rA)
section
variable {g : GE} {d : Nat} {σ σ' σ'' : Sto} {k : KE} {sc : Addr} {l : List V} {o₀ : Obj} {R Rd : Nat → Addr} {bx q rf c : Addr} {xs : List Int} {a : Int}
theorem BoxAt.put (B : BoxAt σ bx q xs a 6) {b : Addr} {x : Cell} (n1 : b ≠ bx) (n2 : b ≠ q) : BoxAt (upd σ b x) bx q xs a 6 := ⟨upd_ne' B.hb n1.symm, upd_ne' B.hq n2.symm, B.ne, B.ha, B.hx⟩
/-- the last draws: the names refused, the pattern -/
theorem law_node (ok : TOk g TBL) (tk : Tabs g) (M : AtM sc l o₀ R Rd σ) (B : BoxAt σ bx q xs a 6) (hc : σ c = some (.cell (some (.ref bx)))) (hrf : σ rf = some (.list [.ref (R 0), .ref (R 1), .ref (R 2)])) (r1 : rf ≠ bx) (r2 : rf ≠ q) {s : Str} (hs : s.length ≤ 4) (hasc : s.cps.all (· < 128) = true) (anch : Bool)
    (hk : ∀ σ', Start sc l o₀ σ' → k (.bool true) σ') {x0 x1 x4 x6 x7 x8 x9 x10 x11 : Option V} : wS g TBL (d + 630) (tlN 4 I_law) [c] [x0, x1, some (.ref rf), some (.bool anch), x4, some (.str s), x6, x7, x8, x9, x10, x11] σ (endF k) := by
  intro f0 h0 f1 h1 f2 h2
  have y0 := ext_new (c := .list []) h0
  have y1 := ext_new (c := .list []) h1
  have y2 := ext_new (c := .list [.str "C"]) h2
  have X := y0.trans (y1.trans y2)
  have B2 := B.ext X
  have p0 : RfP (upd (upd (upd σ f0 (.list [])) f1 (.list [])) f2 (.list [.str "C"])) bx q (.ref f0) := .mk (rs := []) (y2 _ _ (y1 _ _ upd_eq)) (ne_of h0 B.hb).symm (ne_of h0 B.hq).symm
  have p1 : RfP (upd (upd (upd σ f0 (.list [])) f1 (.list [])) f2 (.list [.str "C"])) bx q (.ref f1) := .mk (rs := []) (y2 _ _ upd_eq) (ne_of h1 (y0 _ _ B.hb)).symm (ne_of h1 (y0 _ _ B.hq)).symm
  have p2 : RfP (upd (upd (upd σ f0 (.list [])) f1 (.list [])) f2 (.list [.str "C"])) bx q (.ref f2) := .mk (rs := ["C"]) upd_eq (ne_of h2 (y1 _ _ (y0 _ _ B.hb))).symm (ne_of h2 (y1 _ _ (y0 _ _ B.hq))).symm
  have M := M.move (.ext X)
  have hc := X _ _ hc
  have hrf := X _ _ hrf
  clear y0 y1 y2 X
  revert B2 p0 p1 p2 M hc hrf
  generalize upd (upd (upd σ f0 (.list [])) f1 (.list [])) f2 (.list [.str "C"]) = σ2
  intro B2 p0 p1 p2 M hc hrf f3 h3
  refine .mk rfl (upd_old hc h3) (v_pickN ok B2 h3 (P := RfP σ2 bx q) (.cons p0 (.cons p1 (.cons p2 .nil))) 3 (by decide) rfl (Nat.le_of_ble_eq_true rfl) fun v σ3 xs3 a3 p B3 K3 => ?_)
  cases p with | @mk rA rs hA n1 n2 =>
  have Kp := K3.kps B2
  refine .mk rfl (Kp _ _ rfl hc) (v_fn (CallC.room (sp_node ok R r1 r2 4 4 rfl σ3 xs3 a3 6 _ B3 (K3 _ _ r1 r2 hrf) fun nd xs9 a9 b9 σ9 sm e9 B9 K9 => ?_) (Nat.le_trans (by decide) (Nat.le_add_left 630 d))))
  exact asg_go (law_mid ok tk ((M.move Kp).move (K9.kps B3)) (K9 _ _ n1 n2 (K3 _ _ n1 n2 hA)) hs hasc sm (Nat.le_trans (Nat.le_add_right _ _) e9) anch hk)
theorem law_subj (ok : TOk g TBL) (tk : Tabs g) (M : AtM sc l o₀ R Rd σ) (B : BoxAt σ bx q xs a 6) (hc : σ c = some (.cell (some (.ref bx)))) (hrf : σ rf = some (.list [.ref (R 0), .ref (R 1), .ref (R 2)])) (r1 : rf ≠ bx) (r2 : rf ≠ q)
    (hk : ∀ σ', Start sc l o₀ σ' → k (.bool true) σ') {x0 x1 x3 x4 x5 x6 x7 x8 x9 x10 x11 : Option V} : wS g TBL (d + 630) (tlN 2 I_law) [c] [x0, x1, some (.ref rf), x3, x4, x5, x6, x7, x8, x9, x10, x11] σ (endF k) := by
  refine .mk rfl hc (v_take ok B 2 (by decide) fun v1 σ4 xs4 a4 _ B4 K4 => .mk rfl (K4.kps B _ _ rfl hc) (v_take ok B4 5 (by decide) fun mn σ5 xs5 a5 hm B5 K5 => ?_))
  have Kp := (K4.kps B).trans (K5.kps B4)
  have hc := Kp _ _ rfl hc
  have M := M.move Kp
  have hrf := K5 _ _ r1 r2 (K4 _ _ r1 r2 hrf)
  generalize decide ((v1 : Int) = 1) = anch
  clear B4 K4 K5 B Kp
  have hR : Its σ5 (.rng 0 mn) (rangeV ((0 : Nat) : Int) mn) := .rng ⟨Int.le_refl _, by decide, Int.natCast_nonneg mn, Int.ofNat_le.mpr (Nat.le_trans (Nat.le_of_lt hm) (by decide))⟩
  have hR' : ∀ {σ : Sto}, Its σ (.rng 0 mn) (rangeV ((0 : Nat) : Int) mn) := .rng ⟨Int.le_refl _, by decide, Int.natCast_nonneg mn, Int.ofNat_le.mpr (Nat.le_trans (Nat.le_of_lt hm) (by decide))⟩
  have hlen : (rangeV ((0 : Nat) : Int) mn).length = mn := by unfold rangeV; rw [List.length_map, List.length_range]; exact Int.toNat_sub _ _
  refine m_join (v_rg1 (.mk (rangeV ((0 : Nat) : Int) mn) (SbJ bx q σ5) hR' (fun acc ha => .mk (cs := []) rfl rfl (fun x hx => by cases hx) (B5.ext (ext_new ha)) (.ext (ext_new ha)) ha upd_eq) (fun acc i out σ' _ _ => hR') (fun acc i out y σ' j hy => ?_) fun acc out σ' j => ?_))
  · cases j with | @mk cs xs' a' ho hi hcs B' K' f e =>
    have hil := (List.getElem?_eq_some_iff.mp hy).1
    rw [hlen] at hil
    have ce := K'.kps B5 _ _ rfl hc
    have ab := (ne_of f B5.hb).symm
    have aq := (ne_of f B5.hq).symm
    refine .mk rfl ce (v_take ok B' 2 (by decide) fun w σ6 xs6 a6 lt B6 K6 => ?_)
    obtain ⟨ch, h1, h2⟩ := ab_at lt
    refine u_strN (Nat.lt_trans lt (by decide)) h1 ⟨K6 _ _ ab aq e, ?_, .mk (cs := cs ++ [ch]) (by rw [ho, List.map_append]; rfl) (by rw [List.length_append, hi]; rfl) (mem_snoc hcs h2) (B6.put ab aq) (fun b y n1 n2 e => upd_ne' (K6 b y n1 n2 (K' b y n1 n2 e)) (ne_of f e)) f upd_eq⟩
    rw [ho, List.length_map, hi]
    exact Nat.le_trans (Nat.le_of_lt (Nat.lt_trans hil hm)) (by decide)
  · cases j with | @mk cs xs' a' ho hi hcs B' K' f e =>
    rw [hlen] at hi
    have Kp := K'.kps B5
    have hj : σ' acc = some (.list ((cs.map fun c => (⟨#[c]⟩ : Str)).map .str)) := by rw [e, ho, List.map_map]; rfl
    refine v_join hj (join_ok4 cs (by rw [hi]; exact Nat.le_trans (Nat.le_of_lt hm) (by decide))) ?_
    have hsl := joined_ones cs
    generalize Txt.join ("" : Str) (cs.map fun c => ⟨#[c]⟩) = s at hsl ⊢
    refine law_node ok tk (M.move Kp) B' (Kp _ _ rfl hc) (K' _ _ r1 r2 hrf) r1 r2 ?_ ?_ anch hk
    · rw [← sl_len, hsl, hi]; exact Nat.le_of_lt_succ hm
    · rw [← Array.all_toList, show s.cps.toList = cs from hsl, List.all_eq_true]
      exact fun c hx => decide_eq_true (hcs c hx)
end
end Mine

namespace Mine
inductive RefJ (σ : Sto) : Addr → Nat → List V → Sto → Prop
  | mk {acc : Addr} {i : Nat} {out : List V} {σ' : Sto} {l : List (Addr × Addr)} (ho : out = l.map fun p => .ref p.1) (hi : l.length = i) (X : Ext σ σ') (f : σ acc = none) (e : σ' acc = some (.list out)) (h : ∀ j p, l[j]? = some p → σ' p.1 = some (.inst "NameRef" p.2) ∧ σ' p.2 = some (.dict (refD (keyS j)))) : RefJ σ acc i out σ'
noncomputable def pk (p0 p1 p2 : Addr) : Nat → Addr
  | 0 => p0
  | 1 => p1
  | _ => p2
theorem abc_at {m : Nat} {y : V} (h : [V.str "A", V.str "B", V.str "C"][m]? = some y) : y = .str (keyS m) ∧ m < 3 := by
  cases m with
  | zero => cases h; exact ⟨rfl, by decide⟩
  | succ m => cases m with
    | zero => cases h; exact ⟨rfl, by decide⟩
    | succ m => cases m with
      | zero => cases h; exact ⟨rfl, by decide⟩
      | succ m => cases h
theorem three_of {α : Type} {l : List α} (h : l.length = 3) : ∃ a b c, l = [a, b, c] := by
  cases l with
  | nil => cases h
  | cons a l => cases l with
    | nil => cases h
    | cons b l => cases l with
      | nil => cases h
      | cons c l => cases l with
        | nil => exact ⟨a, b, c, rfl⟩
        | cons _ _ => cases h
section
variable {g : GE} {d : Nat} {σ σ' : Sto} {k : KE} {sc : Addr} {l : List V} {o₀ : Obj} {bx q c : Addr} {xs : List Int} {a : Int}
theorem RefJ.step {acc x dx : Addr} {i : Nat} {out : List V} {σ' σ₃ : Sto} (j : RefJ σ acc i out σ') (e1 : σ₃ x = some (.inst "NameRef" dx)) (e2 : σ₃ dx = some (.dict (refD (keyS i)))) (K : Ext σ' σ₃) : σ₃ acc = some (.list out) ∧ RefJ σ acc (i + 1) (out ++ [.ref x]) (upd σ₃ acc (.list (out ++ [.ref x]))) := by
  cases j with | @mk l ho hi X f e h =>
  have ea := K _ _ e
  have up : ∀ {b y}, y.tag ≠ 0 → σ₃ b = some y → upd σ₃ acc (.list (out ++ [.ref x])) b = some y := fun t e => upd_ne' e (ne_tag e ea t)
  refine ⟨ea, .mk (l := l ++ [(x, dx)]) (by rw [ho, List.map_append]; rfl) (by rw [List.length_append, hi]; rfl) (fun b y e => upd_ne' (K _ _ (X _ _ e)) (ne_of f e)) f upd_eq fun j p hp => ?_⟩
  rcases Nat.lt_or_ge j l.length with q | q
  · rw [List.getElem?_append_left q] at hp
    obtain ⟨z1, z2⟩ := h j p hp
    exact ⟨up (nt rfl) (K _ _ z1), up (by rw [tag_ref]; decide) (K _ _ z2)⟩
  · rw [List.getElem?_append_right q] at hp
    cases hq : j - l.length with
    | zero =>
      rw [hq] at hp
      cases hp
      have ej : j = i := (Nat.le_antisymm (Nat.le_of_sub_eq_zero hq) q).trans hi
      rw [ej]
      exact ⟨up (nt rfl) e1, up (by rw [tag_ref]; decide) e2⟩
    | succ n => rw [hq] at hp; cases hp
theorem v_law (ok : TOk g TBL) (tk : Tabs g) {ns : List Int} (St : Start sc (ns.map .int) o₀ σ) (hn : ns.length ≤ 1000) (hk : ∀ σ', Start sc (ns.map .int) o₀ σ' → k (.bool true) σ') : CallC g (d + 631) F_law [.ref sc] σ k := by
  refine d_irC d_law ok (noTab rfl) rfl (hvs := show cellV _ _ = [none] by kernel_rfl!) fun c hc => ?_
  have x0 := ext_new (c := .cell none) hc
  refine v_box ok (x0 _ _ (St _ _ .s)) hn fun bx q xs a σ1 hbx hq B1 X1 => .mk rfl (X1 _ _ upd_eq) ?_
  have nb := ne_of hbx (upd_eq (σ := σ) (a := c) (c := .cell none))
  have nq := ne_of hq (upd_eq (σ := σ) (a := c) (c := .cell none))
  have B2 := B1.put (b := c) (x := .cell (some (.ref bx))) nb nq
  have X2 : Ext σ (upd σ1 c (.cell (some (.ref bx)))) := fun b y e => upd_ne' (X1 _ _ (x0 _ _ e)) (ne_of hc e)
  have c2 := upd_eq (σ := σ1) (a := c) (c := .cell (some (.ref bx)))
  clear hbx hq B1 X1 x0 nb nq
  revert B2 X2 c2
  generalize upd σ1 c (.cell (some (.ref bx))) = σ2
  intro B2 X2 c2
  refine .mk [.str "A", .str "B", .str "C"] (RefJ σ2) .tup (fun acc ha => .mk (l := []) rfl rfl (ext_new ha) ha upd_eq fun j p e => by cases e) (fun _ _ _ _ _ _ => .tup) (fun acc i out y σ' j hy => ?_) fun acc out σ' j => ?_
  · obtain ⟨ey, hm⟩ := abc_at hy
    subst ey
    refine v_cls ct_NameRef fun x dx hx hdx hne => sp_ref_init ok upd_eq (upd_ne' upd_eq hne.symm) hne fun σ3 e1 e2 kp => ⟨rfl, ?_⟩
    have st := j.step e1 e2 fun b y e => kp b y (ne_of hdx e) (upd_old (upd_old e hdx) ((upd_ne hne).trans hx))
    refine ⟨st.1, ?_, st.2⟩
    cases j with | @mk l ho hi X f e h =>
    rw [ho, List.length_map, hi]
    exact Nat.le_trans (Nat.le_of_lt hm) (by decide)
  · cases j with | @mk l ho hi X f e h =>
    obtain ⟨p0, p1, p2, el⟩ := three_of (show l.length = 3 from hi)
    subst el
    obtain ⟨a0, b0⟩ := h 0 _ rfl
    obtain ⟨a1, b1⟩ := h 1 _ rfl
    obtain ⟨a2, b2⟩ := h 2 _ rfl
    have XX := X2.trans X
    have M : AtM sc (ns.map .int) o₀ (pk p0.1 p1.1 p2.1) (pk p0.2 p1.2 p2.2) σ' := fun b y s => by
      cases s with
      | s => exact XX _ _ (St _ _ .s)
      | t1 => exact XX _ _ (St _ _ .t1)
      | t2 => exact XX _ _ (St _ _ .t2)
      | t3 => exact XX _ _ (St _ _ .t3)
      | t4 => exact XX _ _ (St _ _ .t4)
      | ref i => cases i with
        | zero => exact a0
        | succ i => cases i with
          | zero => exact a1
          | succ i => exact a2
      | rd i => cases i with
        | zero => exact b0
        | succ i => cases i with
          | zero => exact b1
          | succ i => exact b2
    exact asg_go (law_subj ok tk M (B2.ext X) (X _ _ c2) (e.trans (congrArg (fun z => some (Cell.list z)) ho)) (ne_of f B2.hb).symm (ne_of f B2.hq).symm hk)
end
end Mine

namespace Mine
/-! ## the tables, from the heap that the top leaves -/
theorem get_pop (os : Array Obj) (l : Life) (n x : Nat) (e : os.size = n + 1) (q : (⟨os, l⟩ : Heap).get? n = none) : (⟨os.pop, l⟩ : Heap).get? x = (⟨os, l⟩ : Heap).get? x := by
  rcases Nat.lt_trichotomy x n with hx | hx | hx
  · unfold Heap.get?
    rw [show (os.pop)[x]? = os[x]? by rw [Array.getElem?_pop, if_pos (Nat.lt_sub_of_add_lt (by rw [e]; exact Nat.succ_lt_succ hx))]]
  · subst hx
    rw [q]
    unfold Heap.get?
    rw [Array.getElem?_eq_none (by rw [Array.size_pop, e]; exact Nat.le_refl _)]
  · unfold Heap.get?
    rw [Array.getElem?_eq_none (by rw [Array.size_pop, e]; exact Nat.le_of_lt hx), Array.getElem?_eq_none (by rw [e]; exact hx)]
theorem trimmed (n : Nat) : ∀ h : Heap, h.objs.size = n → ∃ h' : Heap, (∀ b, h'.get? b = h.get? b) ∧ ∀ m, h'.objs.size = m + 1 → ∃ o, h'.get? m = some o := by
  induction n with
  | zero => exact fun h e => ⟨h, fun _ => rfl, fun m q => by rw [e] at q; cases q⟩
  | succ n ih =>
    intro h e
    cases q : h.get? n with
    | some o => exact ⟨h, fun _ => rfl, fun m e' => by
        cases Nat.succ.inj (e.symm.trans e')
        exact ⟨o, q⟩⟩
    | none =>
      obtain ⟨os, l⟩ := h
      obtain ⟨h', a, b⟩ := ih ⟨os.pop, l⟩ (by show os.pop.size = n; rw [Array.size_pop, show os.size = n + 1 from e]; rfl)
      exact ⟨h', fun x => (a x).trans (get_pop os l n x e q), b⟩
noncomputable section
noncomputable def vRef : Value → Option Addr
  | .ref a => some a
  | _ => none
noncomputable def vStr : Value → Option Str
  | .str x _ => some x
  | _ => none
noncomputable def vInt : Value → Option Int
  | .int x _ => some x
  | _ => none
noncomputable def funcOf (o : Obj) : Option FuncData := match o.data with
  | .func fd => some fd
  | _ => none
noncomputable def fldsOf (o : Obj) : Option (Array Value) := match o.data with
  | .fields vs => some vs
  | _ => none
noncomputable def seqOf (o : Obj) : Option (List Value) := match o.data with
  | .seq vs _ => some vs.toList
  | _ => none
noncomputable def dictE (o : Obj) : Option (List DictEntry) := match o.data with
  | .dict es _ => some es.toList
  | _ => none
noncomputable def glE (K : Frag) : Option (List DictEntry) := (K.lookup mainGlobals).bind dictE
noncomputable def dfind (x : Str) (es : List DictEntry) : Option Value := (es.find? fun e => Fast.tw995047462949696687 e.key x).map (·.val)
noncomputable def glV (K : Frag) (x : Str) : Option Value := (glE K).bind (dfind x)
noncomputable def glN (K : Frag) (x : Str) : Bool := (glE K).any fun es => (dfind x es).isNone && !es.any (·.refKey)
noncomputable def glA (K : Frag) (x : Str) : Option Addr := (glV K x).bind vRef
noncomputable def gA (K : Frag) (x : Str) : Addr := (glA K x).getD 0
noncomputable def noneB {α : Type} (o : Option (Option α)) : Bool := o.any Option.isNone
noncomputable def mtA (K : Frag) (C : Addr) (n : Str) : Option Addr := ((findIn K (.ref C) n).bind id).bind vRef
noncomputable def fdAt (K : Frag) (f : Addr) : FuncData := ((K.lookup f).bind funcOf).getD default
noncomputable def codeB (K : Frag) (v : Value) (q : Str) (tab : Option Addr) : Bool := (vRef v).any fun c => ((K.lookup c).bind fldsOf).any (fun vs => ((vs[1]?).bind vStr).any fun x => Fast.sEq x q) && tab.all fun c' => decide (c = c')
noncomputable def fnB (K : Frag) (i : FnI) (f : Addr) : Bool := ((K.lookup f).bind funcOf).any fun fd => codeB K fd.code i.qual i.tab
/-- what a def's object holds -/
structure Sg where
  qual : Str
  params : Arguments
  body : FuncBody
  scope : Scope
  globals : Addr
  closure : List (Str × Addr)
  defaults : Value
  kwdefaults : Value
  builtins : Addr
noncomputable def sgF (fd : FuncData) : Sg := ⟨fd.qualname, fd.params, fd.body, fd.scope, fd.globals, fd.closure, fd.defaults, fd.kwdefaults, fd.builtins⟩
noncomputable def sgI (i : FnI) : Sg := ⟨i.qual, i.params, i.body, i.scope, mainGlobals, i.closure, .none, .none, builtinsNs⟩
inductive Rf where
  | glo (x : Str)
  | met (cn n : Str)
noncomputable def rfA (K : Frag) : Rf → Addr
  | .glo x => gA K x
  | .met cn n => (mtA K (gA K cn) n).getD 0
noncomputable def fnV (p : Str × V) : Option (Rf × FnI) := match p.2 with
  | .fn i => some (.glo p.1, i)
  | _ => none
noncomputable def allF : List (Rf × FnI) := (Rf.glo "law", F_law) :: (gvL.filterMap fnV ++ ((mtL.flatMap fun q => q.2.map fun p => (Rf.met q.1 p.1, p.2)) ++ ctL.map fun q => (Rf.met q.1 "__init__", q.2)))
noncomputable def tupB (K : Frag) (l : List V) (a : Addr) : Bool := (K.lookup a).any fun o => decide (o.cls = .type "tuple") && (o.dict.isNone && (o.slots.isEmpty && (seqOf o).any fun vs => strsB l vs))
where strsB : List V → List Value → Bool
  | [], vs => vs.isEmpty
  | x :: l, vs => match x with
    | .str x => (match vs with
      | [] => false
      | v :: r => decide (vStr v = some x) && strsB l r)
    | _ => false
noncomputable def gvB (K : Frag) (x : Str) : V → Bool
  | .fn i => (glA K x).isSome && fnB K i (gA K x)
  | .cls n => (glA K n).isSome && decide (glA K x = some (gA K n))
  | .str s => ((glV K x).bind vStr).any fun y => Fast.sEq y s
  | .int i => decide ((glV K x).bind vInt = some i)
  | .tup l => (glA K x).any (tupB K l)
  | .bi n => glN K x && (decide (bootBuiltins x = some (.builtin n)) && decide (x ≠ ("__name__" : Str)))
  | .ty n => glN K x && (decide (bootBuiltins x = some (.type n)) && decide (x ≠ ("__name__" : Str)))
  | _ => false
noncomputable def methB (K : Frag) (C : Addr) (n : Str) (i : FnI) : Bool := (mtA K C n).any fun f => decide (typeIn K (.ref f) = some (.type "function")) && fnB K i f
noncomputable def comB (K : Frag) (C : Addr) : Bool := plainGet K C Str.empty && (hasDictIn K C && (plainOver K C && decide (findIn K (.ref C) "__setattr__" = some (some (.builtin "object.__setattr__")))))
noncomputable def fldB (K : Frag) (C : Addr) (n : Str) : Bool := noneB (findIn K (.ref C) n) && noneB (takerIn K C n)
noncomputable def noLists (K : Frag) : Bool := K.all fun p => decide (p.2.cls ≠ .type "list")
noncomputable def tabL : List (Addr × Addr) := [(638, 634), (610, 606), (631, 627), (652, 648)]
noncomputable def chkB (K : Frag) : Bool := gvL.all (fun p => gvB K p.1 p.2) && ((flL.all fun q => (glA K q.1).isSome && (comB K (gA K q.1) && q.2.all (fldB K (gA K q.1)))) && ((mtL.all fun q => (glA K q.1).isSome && (plainGet K (gA K q.1) Str.empty && q.2.all fun p => methB K (gA K q.1) p.1 p.2)) && ctL.all fun q => (glA K q.1).isSome && (makesIn K (gA K q.1) && (keepIn K (.ref (gA K q.1)) && methB K (gA K q.1) "__init__" q.2))))
noncomputable def okB (K : Frag) : Bool := chkB K && (noLists K && (noTabs K && (tabL.all (fun q => codeHdIn K q.1 q.2) && ((glA K "law").isSome && fnB K F_law (gA K "law")))))
end
theorem frag_in {h : Heap} (f : Addr → Option Obj) (as : List Addr) (hf : ∀ a o, f a = some o → h.get? a = some o) : Frag.In (as.filterMap fun a => (f a).map fun o => (a, o)) h := fun a o e => by
  induction as with
  | nil => cases e
  | cons b r ih =>
    rw [List.filterMap_cons] at e
    cases q : f b with
    | none => rw [q] at e; exact ih e
    | some x =>
      rw [q] at e
      have e : List.lookup a ((b, x) :: r.filterMap fun a => (f a).map fun o => (a, o)) = some o := e
      rw [List.lookup_cons] at e
      cases hb : a == b with
      | true =>
        rw [hb] at e
        cases (show some x = some o from e)
        rw [eq_of_beq hb]; exact hf _ _ q
      | false => rw [hb] at e; exact ih e
theorem vRef_of {v : Value} {a : Addr} (h : vRef v = some a) : v = .ref a := by
  cases v with
  | ref b => cases h; rfl
  | _ => cases h
theorem vStr_of {v : Value} {a : Str} (h : vStr v = some a) : ∃ t, v = .str a t := by
  cases v with
  | str b t => cases h; exact ⟨t, rfl⟩
  | _ => cases h
theorem vInt_of {v : Value} {a : Int} (h : vInt v = some a) : ∃ t, v = .int a t := by
  cases v with
  | int b t => cases h; exact ⟨t, rfl⟩
  | _ => cases h
theorem funcOf_of {o : Obj} {fd : FuncData} (h : funcOf o = some fd) : o.data = .func fd := by
  unfold funcOf at h
  generalize o.data = x at h ⊢
  cases x with
  | func f => cases h; rfl
  | _ => cases h
theorem fldsOf_of {o : Obj} {fd : Array Value} (h : fldsOf o = some fd) : o.data = .fields fd := by
  unfold fldsOf at h
  generalize o.data = x at h ⊢
  cases x with
  | fields f => cases h; rfl
  | _ => cases h
theorem seqOf_of {o : Obj} {l : List Value} (h : seqOf o = some l) : ∃ vs n, o.data = .seq vs n ∧ vs.toList = l := by
  unfold seqOf at h
  generalize o.data = x at h ⊢
  cases x with
  | seq vs n => cases h; exact ⟨vs, n, rfl, rfl⟩
  | _ => cases h
theorem dictE_of {o : Obj} {l : List DictEntry} (h : dictE o = some l) : ∃ es n, o.data = .dict es n ∧ es.toList = l := by
  unfold dictE at h
  generalize o.data = x at h ⊢
  cases x with
  | dict es n => cases h; exact ⟨es, n, rfl, rfl⟩
  | _ => cases h
theorem noneB_of {α : Type} {o : Option (Option α)} (h : noneB o = true) : o = some none := by
  cases o with
  | none => cases h
  | some x => cases x with
    | none => rfl
    | some _ => cases h
theorem two_b {a b : Bool} (h : (a && b) = true) : a = true ∧ b = true := Bool.and_eq_true_iff.mp h
theorem any_of {α : Type} {o : Option α} {p : α → Bool} (h : o.any p = true) : ∃ x, o = some x ∧ p x = true := by
  cases o with
  | none => cases h
  | some x => exact ⟨x, rfl, h⟩
theorem nsIn_of {K : Frag} {x : Str} {es : List DictEntry} (h : glE K = some es) : nsIn K mainGlobals x = (match es.find? fun e => Fast.tw995047462949696687 e.key x with
    | some e => some (some e.val)
    | none => if es.any (·.refKey) then none else some none) := by
  obtain ⟨o, h1, h2⟩ := Option.bind_eq_some_iff.mp h
  obtain ⟨a, n, e1, e2⟩ := dictE_of h2
  obtain ⟨c, dd, da, sl⟩ := o
  cases (show da = _ from e1)
  subst e2
  rw [← Fast.te995047462949696687]
  unfold nsIn
  rw [h1]; rfl
theorem glV_of {K : Frag} {x : Str} {v : Value} (h : glV K x = some v) : nsIn K mainGlobals x = some (some v) := by
  obtain ⟨es, h1, h2⟩ := Option.bind_eq_some_iff.mp h
  obtain ⟨e, f1, f2⟩ := Option.map_eq_some_iff.mp h2
  rw [nsIn_of h1, f1, ← f2]
theorem glN_of {K : Frag} {x : Str} (h : glN K x = true) : nsIn K mainGlobals x = some none := by
  obtain ⟨es, h1, h2⟩ := any_of h
  obtain ⟨a, b⟩ := two_b h2
  have a := Option.map_eq_none_iff.mp (Option.isNone_iff_eq_none.mp a)
  rw [nsIn_of h1, a]
  exact if_neg (by rw [Bool.not_eq_true']  at b; rw [b]; decide)
theorem glA_of {K : Frag} {x : Str} {f : Addr} (h : glA K x = some f) : nsIn K mainGlobals x = some (some (.ref f)) ∧ kAddr K x = f ∧ gA K x = f := by
  obtain ⟨v, h1, h2⟩ := Option.bind_eq_some_iff.mp h
  have e := glV_of h1
  rw [vRef_of h2] at e
  exact ⟨e, by unfold kAddr; rw [e], by unfold gA; rw [h]; rfl⟩
theorem gA_of {K : Frag} {x : Str} (h : (glA K x).isSome = true) : gA K x = kAddr K x ∧ nsIn K mainGlobals x = some (some (.ref (kAddr K x))) := by
  obtain ⟨f, e⟩ := Option.isSome_iff_exists.mp h
  obtain ⟨e1, e2, e3⟩ := glA_of e
  exact ⟨e3.trans e2.symm, by rw [e2]; exact e1⟩
theorem mtA_of {K : Frag} {C f : Addr} {n : Str} (h : mtA K C n = some f) : findIn K (.ref C) n = some (some (.ref f)) := by
  obtain ⟨v, h1, h2⟩ := Option.bind_eq_some_iff.mp h
  obtain ⟨o, h3, h4⟩ := Option.bind_eq_some_iff.mp h1
  cases (show o = some v from h4)
  rw [vRef_of h2] at h3
  exact h3
section
variable {g : GE} {x : Str} {i : FnI} {f : Addr}
theorem fn_vr (hb : fnB g.K i f = true) (hs : sgF (fdAt g.K f) = sgI i) : VR g σ₀ g.h₀ (.fn i) (.ref f) := by
  obtain ⟨fd, e, hb⟩ := any_of hb
  have hfd : fdAt g.K f = fd := by unfold fdAt; rw [e]; rfl
  rw [hfd] at hs
  obtain ⟨o, e1, e2⟩ := Option.bind_eq_some_iff.mp e
  obtain ⟨c, c1, hb⟩ := any_of hb
  obtain ⟨b1, b2⟩ := two_b hb
  obtain ⟨vs, v1, b1⟩ := any_of b1
  obtain ⟨oc, o1, o2⟩ := Option.bind_eq_some_iff.mp v1
  obtain ⟨y, b1, b3⟩ := any_of b1
  cases Fast.sEq_iff.mp b3
  obtain ⟨u, u1, u2⟩ := Option.bind_eq_some_iff.mp b1
  obtain ⟨t, u2⟩ := vStr_of u2
  subst u2
  exact ⟨f, o, fd, rfl, ⟨g.X _ _ e1, rfl⟩, funcOf_of e2, congrArg Sg.qual hs, congrArg Sg.params hs, congrArg Sg.body hs, congrArg Sg.scope hs, congrArg Sg.globals hs, congrArg Sg.closure hs, congrArg Sg.defaults hs, congrArg Sg.kwdefaults hs, congrArg Sg.builtins hs,
    c, oc, vs, t, vRef_of c1, ⟨g.X _ _ o1, rfl⟩, fldsOf_of o2, u1, fun c' hc => by rw [hc] at b2; exact of_decide_eq_true b2⟩
theorem strs_vr {σ : Sto} {h : Heap} {l : List V} : ∀ {vs : List Value}, tupB.strsB l vs = true → VRs g σ h l vs := by
  induction l with
  | nil => exact fun {vs} e => List.isEmpty_iff.mp e
  | cons x l ih =>
    intro vs e
    cases x with
    | str s =>
      cases vs with
      | nil => cases e
      | cons v r =>
        obtain ⟨e1, e2⟩ := two_b e
        exact ⟨v, r, rfl, vStr_of (of_decide_eq_true e1), ih e2⟩
    | _ => cases e
theorem tup_vr {l : List V} (h : tupB g.K l f = true) : VR g σ₀ g.h₀ (.tup l) (.ref f) := by
  obtain ⟨o, e, h⟩ := any_of h
  obtain ⟨a1, h⟩ := two_b h
  obtain ⟨a2, h⟩ := two_b h
  obtain ⟨a3, h⟩ := two_b h
  obtain ⟨vs, e2, hS⟩ := any_of h
  clear h
  obtain ⟨ar, n, d1, d2⟩ := seqOf_of e2
  have a1 := of_decide_eq_true a1
  have a2 := Option.isNone_iff_eq_none.mp a2
  have a3 := Array.isEmpty_iff.mp a3
  obtain ⟨c, dd, da, sl⟩ := o
  subst a1 a2 a3 d1
  exact ⟨f, ar, n, rfl, ⟨g.X _ _ e, rfl⟩, by rw [d2]; exact strs_vr hS⟩
theorem meth_in {cn n : Str} (hc : gA g.K cn = kAddr g.K cn) (h : methB g.K (gA g.K cn) n i = true) (hs : sgF (fdAt g.K (rfA g.K (.met cn n))) = sgI i) : ∃ f, findIn g.K (.ref (g.fa cn)) n = some (some (.ref f)) ∧ typeIn g.K (.ref f) = some (.type "function") ∧ VR g σ₀ g.h₀ (.fn i) (.ref f) := by
  obtain ⟨f, e, h⟩ := any_of h
  obtain ⟨h1, h2⟩ := two_b h
  have hm : rfA g.K (.met cn n) = f := by show (mtA g.K (gA g.K cn) n).getD 0 = f; rw [e]; rfl
  rw [hm] at hs
  rw [hc] at e
  exact ⟨f, mtA_of e, of_decide_eq_true h1, fn_vr h2 hs⟩
theorem gv_ok {v : V} (h : gvB g.K x v = true) (hs : ∀ i, v = .fn i → sgF (fdAt g.K (gA g.K x)) = sgI i) : ∃ u, VR g σ₀ g.h₀ v u ∧ (g.mg x = some u ∨ (g.mg x = none ∧ g.mb x = some u)) := by
  have at_ : ∀ {u}, nsIn g.K mainGlobals x = some (some u) → VR g σ₀ g.h₀ v u → ∃ u, VR g σ₀ g.h₀ v u ∧ (g.mg x = some u ∨ (g.mg x = none ∧ g.mb x = some u)) := fun e r => ⟨_, r, .inl (mg_of g.X g.T.g e)⟩
  have bu : ∀ {u : Value}, (glN g.K x && (decide (bootBuiltins x = some u) && decide (x ≠ ("__name__" : Str)))) = true → VR g σ₀ g.h₀ v u → ∃ u, VR g σ₀ g.h₀ v u ∧ (g.mg x = some u ∨ (g.mg x = none ∧ g.mb x = some u)) := fun {u} h r => by
    obtain ⟨h1, h⟩ := two_b h
    obtain ⟨h2, h3⟩ := two_b h
    exact ⟨u, r, .inr ⟨mg_none_of g.X g.T.g (glN_of h1), (g.T.builtins _ (of_decide_eq_true h3)).trans (of_decide_eq_true h2)⟩⟩
  cases v with
  | fn i =>
    obtain ⟨h1, h2⟩ := two_b h
    obtain ⟨e2, e1⟩ := gA_of h1
    rw [e2] at h2 hs
    exact at_ e1 (fn_vr h2 (hs i rfl))
  | cls n =>
    obtain ⟨h1, h2⟩ := two_b h
    have h2 := of_decide_eq_true h2
    rw [(gA_of h1).1] at h2
    exact at_ (glA_of h2).1 rfl
  | str s =>
    obtain ⟨y, h, h3⟩ := any_of h
    cases Fast.sEq_iff.mp h3
    obtain ⟨u, h1, h2⟩ := Option.bind_eq_some_iff.mp h
    exact at_ (glV_of h1) (vStr_of h2)
  | int s =>
    obtain ⟨u, h1, h2⟩ := Option.bind_eq_some_iff.mp (of_decide_eq_true h)
    exact at_ (glV_of h1) (vInt_of h2)
  | tup l =>
    obtain ⟨a, h1, h2⟩ := any_of h
    exact at_ (glA_of h1).1 (tup_vr h2)
  | bi n => exact bu h rfl
  | ty n => exact bu h rfl
  | _ => cases h
theorem tok_of (h : chkB g.K = true) (hs : allF.map (fun p => sgF (fdAt g.K (rfA g.K p.1))) = allF.map (fun p => sgI p.2)) : TOk g TBL := by
  obtain ⟨h1, h⟩ := two_b h
  obtain ⟨h2, h⟩ := two_b h
  obtain ⟨h3, h4⟩ := two_b h
  have sg := List.map_inj_left.mp hs
  refine ⟨fun x v e => ?_, fun cn n e => ?_, fun cn n i e => ?_, fun cn i e => ?_⟩
  · have m := PySem.mem_of_lookup (show gvL.lookup x = some v from e)
    refine gv_ok (List.all_eq_true.mp h1 _ m) fun i hi => ?_
    subst hi
    exact sg (Rf.glo x, i) (.tail _ (List.mem_append_left _ (List.mem_filterMap.mpr ⟨_, m, rfl⟩)))
  · have e' : (match flL.lookup cn with
      | some l => l.contains n
      | none => false) = true := e
    cases q : flL.lookup cn with
    | none => rw [q] at e'; cases e'
    | some l =>
      rw [q] at e'
      obtain ⟨q0, q1⟩ := two_b (List.all_eq_true.mp h2 _ (PySem.mem_of_lookup q))
      have q0 : gA g.K cn = kAddr g.K cn := (gA_of q0).1
      dsimp only at q1
      rw [q0] at q1
      obtain ⟨q1, q2⟩ := two_b q1
      obtain ⟨p1, q1⟩ := two_b q1
      obtain ⟨p2, q1⟩ := two_b q1
      obtain ⟨p3, p4⟩ := two_b q1
      obtain ⟨f1, f2⟩ := two_b (List.all_eq_true.mp q2 n (List.contains_iff_mem.mp e'))
      exact ⟨p1, p2, ⟨none, noneB_of f1, rfl⟩, of_decide_eq_true p4, p3, noneB_of f2⟩
  · have e' : (match mtL.lookup cn with
      | some l => l.lookup n
      | none => none) = some i := e
    cases q : mtL.lookup cn with
    | none => rw [q] at e'; cases e'
    | some l =>
      rw [q] at e'
      have m := PySem.mem_of_lookup q
      have m2 := PySem.mem_of_lookup e'
      obtain ⟨q0, q⟩ := two_b (List.all_eq_true.mp h3 _ m)
      have q0 : gA g.K cn = kAddr g.K cn := (gA_of q0).1
      obtain ⟨pg, q⟩ := two_b q
      dsimp only at pg
      rw [q0] at pg
      obtain ⟨g1, g2⟩ := two_b pg
      obtain ⟨f, z1, z2, z3⟩ := meth_in q0 (List.all_eq_true.mp q _ m2) (sg (Rf.met cn n, i) (.tail _ (List.mem_append_right _ (List.mem_append_left _ (List.mem_flatMap.mpr ⟨_, m, List.mem_map.mpr ⟨_, m2, rfl⟩⟩)))))
      exact ⟨f, z1, z2, z3, eq_of_beq g1, eq_of_beq g2⟩
  · have m := PySem.mem_of_lookup (show ctL.lookup cn = some i from e)
    obtain ⟨q0, q⟩ := two_b (List.all_eq_true.mp h4 _ m)
    have q0 : gA g.K cn = kAddr g.K cn := (gA_of q0).1
    obtain ⟨q1, q⟩ := two_b q
    obtain ⟨q2, q3⟩ := two_b q
    dsimp only at q1 q2
    rw [q0] at q1 q2
    exact ⟨q1, meth_in q0 q3 (sg (Rf.met cn "__init__", i) (.tail _ (List.mem_append_right _ (List.mem_append_right _ (List.mem_map.mpr ⟨_, m, rfl⟩))))), q2⟩
end
end Mine

namespace Mine
/-! ## from the heap that the top leaves to the law's answer -/
theorem top_less {L : List Str} {mean : ExcName → Option Value} {mg mb : Str → Option Value} {h h' : Heap} (T : Top topProg L mean mg mb h) (k : ∀ b o, h.get? b = some o → (∀ items n, o.data ≠ .seq items n) → h'.get? b = some o) : Top topProg L mean mg mb h' :=
  have ns : ∀ {a : Addr} {m : Str → Option Value}, h.Ns a m → h'.Ns a m := fun x => let ⟨o, es, ep, e, hd, r⟩ := x; ⟨o, es, ep, k _ _ e (fun i n q => by rw [hd] at q; cases q), hd, r⟩
  { g := ns T.g
    b := ns T.b
    nolimit := let ⟨mc, a, r⟩ := T.nolimit; ⟨mc, ns a, r⟩
    nodigits := let ⟨mc, a, r⟩ := T.nodigits; ⟨mc, ns a, r⟩
    fn := fun d hd => absurd (show d ∈ ([] : List DefRec) from hd) List.not_mem_nil
    own := fun o ho => absurd (show o ∈ ([] : List OwnSpec) from ho) List.not_mem_nil
    const := fun x d e => by cases (show (none : Option PyData) = some d from e)
    free := T.free
    builtins := T.builtins
    tab := fun d hd => absurd (show d ∈ ([] : List DefRec) from hd) List.not_mem_nil
    bmain := let ⟨bm, ob, a1, a2, a3, a4, a5, a6⟩ := T.bmain; ⟨bm, ob, a1, a2, k _ _ a3 (fun i n q => by rw [a6] at q; cases q), a4, a5, a6⟩
    seer := fun e => absurd (show false = true from e) Bool.false_ne_true }
noncomputable def startT : Sto := upd (upd (upd (upd σ₀ 606 (.tab ⟨503, 4, 504, 78⟩ "_law_more.<locals>.again")) 627 (.tab ⟨520, 51, 520, 112⟩ "_law_try.<locals>.<lambda>")) 634 (.tab ⟨542, 4, 545, 71⟩ "_law_named.<locals>.ended")) 648 (.tab ⟨561, 58, 561, 96⟩ "_law_due.<locals>.<lambda>")
noncomputable def startS (sc : Addr) (l : List V) (o₀ : Obj) : Sto := upd startT sc (.ro l o₀)
theorem upd_inv {σ : Sto} {a b : Addr} {c x : Cell} (h : upd σ a c b = some x) : (b = a ∧ x = c) ∨ σ b = some x := by
  by_cases e : b = a
  · rw [e, upd_eq] at h; cases h; exact .inl ⟨e, rfl⟩
  · rw [upd_ne e] at h; exact .inr h
inductive TabC (b : Addr) : Cell → Prop
  | mk {P : Pos} {q : Str} (h : b ∈ tabL.map (·.2)) : TabC b (.tab P q)
theorem startT_inv {b : Addr} {c : Cell} (h : startT b = some c) : TabC b c := by
  rcases upd_inv h with ⟨rfl, rfl⟩ | h
  · exact .mk (by decide)
  rcases upd_inv h with ⟨rfl, rfl⟩ | h
  · exact .mk (by decide)
  rcases upd_inv h with ⟨rfl, rfl⟩ | h
  · exact .mk (by decide)
  rcases upd_inv h with ⟨rfl, rfl⟩ | h
  · exact .mk (by decide)
  cases h
theorem start_of {sc : Addr} {l : List V} {o₀ : Obj} (h : sc ∉ tabL.map (·.2)) : Start sc l o₀ (startS sc l o₀) := fun b x k => by
  have ne : ∀ {b}, b ∈ tabL.map (·.2) → b ≠ sc := fun hb e => h (e ▸ hb)
  cases k with
  | s => exact upd_eq
  | t1 => exact upd_ne' (upd_ne' (upd_ne' (upd_ne' upd_eq (by decide)) (by decide)) (by decide)) (ne (by decide))
  | t2 => exact upd_ne' (upd_ne' (upd_ne' upd_eq (by decide)) (by decide)) (ne (by decide))
  | t3 => exact upd_ne' (upd_ne' upd_eq (by decide)) (ne (by decide))
  | t4 => exact upd_ne' upd_eq (ne (by decide))
theorem ints_vr {g : GE} {σ : Sto} {h : Heap} {vs : List Value} {ns : List Int} (e : IntsAre vs ns) : VRs g σ h (ns.map .int) vs := by
  induction e with
  | nil => exact rfl
  | cons n t r ih => exact ⟨_, _, rfl, ⟨t, rfl⟩, ih⟩
theorem law_good {w : World} {s₁ : Shared} {mg mb : Str → Option Value} {p : Program} {loose : List Str} {mean mean' : ExcName → Option Value} {K : Frag} (X : K.In s₁.heap) (T : Top p loose mean mg mb s₁.heap) (hP : ∀ q ∈ tabL, s₁.heap.get? q.2 = some (tabObj #[]))
    (hK : okB K = true) (hs : allF.map (fun p => sgF (fdAt K (rfA K p.1))) = allF.map (fun p => sgI p.2))
    {fa sc : Addr} {vs : List Value} {ns : List Int} (hfa : mg "law" = some (.ref fa)) (hL : s₁.heap.IsList sc vs.toArray) (hI : IntsAre vs ns) (hn : ns.length ≤ 1000) (hg : s₁.gens = #[])
    {cw : ClaimW} {cl : Str → Option Addr} {args : List WData} (hr : ∀ a x, cw.raises a x = false) (hp : cw.post args (.bool true) args = true) :
    codeAny (model PySem.Challenge.pw_np0310_01 w) callerA (.call (.ref fa) ⟨[.ref sc], []⟩) (GoodWG cw cl mean' args s₁) s₁ := by
  obtain ⟨hc, hK⟩ := two_b hK
  obtain ⟨hl, hK⟩ := two_b hK
  obtain ⟨ht, hK⟩ := two_b hK
  obtain ⟨hcd, hlaw⟩ := two_b hK
  have hT : TabsAt tabL s₁.heap := fun q hq => ⟨codeHd_of_K X (List.all_eq_true.mp hcd q hq), hP q hq⟩
  obtain ⟨oL, l1, l2, nL, l3⟩ := hL
  have nsc : sc ∉ tabL.map (·.2) := fun q => by
    obtain ⟨r, hr, e⟩ := List.mem_map.mp q
    have := (hT r hr).2
    rw [e, l1] at this
    cases this
    cases l2
  obtain ⟨h₀, z1, z2⟩ := trimmed _ (hideAll (ghostOf s₁.heap tabL) [sc]) rfl
  have up : ∀ b o, (ghostOf s₁.heap tabL).get? b = some o → b ≠ sc → h₀.get? b = some o := fun b o e n => by
    rw [z1]; exact hideAll_get _ e fun q => n (List.mem_singleton.mp q)
  have down : ∀ b o, h₀.get? b = some o → s₁.heap.get? b = some o ∧ b ≠ sc ∧ b ∉ tabL.map (·.2) := fun b o e => by
    rw [z1] at e
    have e2 := of_hideAll _ e
    refine ⟨of_hideAll _ e2, fun q => ?_, fun q => ?_⟩
    · rw [hideAll_none _ (List.mem_singleton.mpr q)] at e; cases e
    · rw [show (ghostOf s₁.heap tabL).get? b = none from hideAll_none _ q] at e2; cases e2
  have notsc : ∀ b o, s₁.heap.get? b = some o → o.cls ≠ .type "list" → b ≠ sc := fun b o e n q => by
    subst q; rw [l1] at e; cases e; exact n l2
  have X' : K.In h₀ := fun a o e => up a o (ghost_K hT X ht a o e) (notsc a o (X a o e) (of_decide_eq_true (List.all_eq_true.mp hl (a, o) (mem_of_lookupK e))))
  have T' := top_less (h' := h₀) (ghost_top hT T) fun b o e n => up b o e fun q => by
    have e2 := of_hideAll _ e
    rw [q, l1] at e2
    cases e2
    exact n _ _ l3
  let g : GE := { w := w, K := K, h₀ := h₀, mg := mg, mb := mb, p := topProg, loose := _, mean := mean, X := X', T := T', trim := z2 }
  have ok : TOk g TBL := tok_of hc hs
  have code : ∀ q ∈ tabL, CodeHd g.h₀ q.1 q.2 := fun q hm => by
    obtain ⟨o, vs, file, tf, flags, tg, inF, text, tt, e1, r1, r⟩ := (hT q hm).1
    exact ⟨o, vs, file, tf, flags, tg, inF, text, tt, up _ o (ghost_get hT e1 (fun q => by rw [q] at r1; cases r1)) (notsc _ o e1 (by rw [r1]; decide)), r1, r⟩
  have tk : Tabs g := ⟨code _ (.tail _ (.head _)), code _ (.tail _ (.tail _ (.head _))), code _ (.head _), code _ (.tail _ (.tail _ (.tail _ (.head _))))⟩
  have clear0 : ∀ {b}, b ≠ sc → b ∉ tabL.map (·.2) → startS sc (ns.map .int) oL b = none := fun {b} h1 h2 => by
    cases q : startS sc (ns.map .int) oL b with
    | none => rfl
    | some c =>
      rcases upd_inv q with ⟨e, _⟩ | q
      · exact absurd e h1
      · cases startT_inv q with | mk h => exact absurd h h2
  have hok : HOk g (startS sc (ns.map .int) oL) s₁.heap := by
    refine ⟨fun b o e => ?_, fun a c e => ?_⟩
    · obtain ⟨d1, d2, d3⟩ := down b o e
      exact ⟨d1, clear0 d2 d3⟩
    · rcases upd_inv e with ⟨rfl, rfl⟩ | q
      · exact ⟨oL, l1, rfl, vs.toArray, nL, ⟨l2, l3⟩, by rw [List.toList_toArray]; exact ints_vr hI⟩
      · cases startT_inv q with | mk h =>
        obtain ⟨r, hr, rfl⟩ := List.mem_map.mp h
        exact ⟨_, (hT r hr).2, #[], rfl, trivial, .inl rfl⟩
  have hvr : VR g (startS sc (ns.map .int) oL) s₁.heap (.fn F_law) (.ref fa) := by
    obtain ⟨h1, h2⟩ := two_b hlaw
    obtain ⟨e2, e1⟩ := gA_of h1
    have hls := List.map_inj_left.mp hs (.glo "law", F_law) (.head _)
    rw [show rfA K (Rf.glo "law") = kAddr K "law" from e2] at hls
    rw [e2] at h2
    cases hfa.symm.trans (mg_of X T.g e1)
    exact (fn_vr (g := g) h2 hls).keep hok.kpBase
  have run := (v_law (g := g) (d := 0) (k := fun v σ' => v = .bool true ∧ Start sc (ns.map .int) oL σ') ok tk (start_of nsc) hn fun σ' e => ⟨rfl, e⟩).run (A := callerA) (s := s₁) (vs := [.ref sc]) ⟨by decide, by decide, rfl⟩ hok hvr ⟨_, _, rfl, rfl, rfl⟩
  refine codeAny_mono run fun r s' z => ?_
  cases z with | mk z =>
  cases z with | @mk x σ' h' tkk hok' ev rv q =>
  obtain ⟨rfl, En⟩ := q
  cases (show _ = Value.bool true from rv)
  have each : ∀ b o, s₁.heap.get? b = some o → asItWas s₁.heap h' b o ∧ ∃ o', h'.get? b = some o' := fun b o e => by
    by_cases hb : b = sc
    · subst hb
      cases l1.symm.trans e
      obtain ⟨o', e1, rfl, _⟩ := hok'.rep _ _ (En _ _ .s)
      exact ⟨.inl e1, _, e1⟩
    · by_cases hb2 : b ∈ tabL.map (·.2)
      · have at_ : ∃ pp qq, σ' b = some (.tab pp qq) := by
          simp only [tabL, List.map_cons, List.map_nil, List.mem_cons, List.not_mem_nil, or_false] at hb2
          rcases hb2 with rfl | rfl | rfl | rfl
          · exact ⟨_, _, En _ _ .t3⟩
          · exact ⟨_, _, En _ _ .t1⟩
          · exact ⟨_, _, En _ _ .t2⟩
          · exact ⟨_, _, En _ _ .t4⟩
        obtain ⟨pp, qq, e2⟩ := at_
        obtain ⟨o', e1, ps, rfl, _⟩ := hok'.rep _ _ e2
        obtain ⟨q, hq, rfl⟩ := List.mem_map.mp hb2
        cases (hT q hq).2.symm.trans e
        exact ⟨.inr (.inl ⟨((hT q hq).1.tab (hT q hq).2).isCodeTable, rfl, #[], ps, rfl, by rw [Array.empty_append]; exact e1⟩), _, e1⟩
      · have u := (ev b o (fun q => by cases q) ⟨e, clear0 hb hb2⟩).1
        exact ⟨.inl u, o, u⟩
  exact ⟨.inl ⟨.bool true, .bool true, [], rfl, fun c => hr _ _, .bool true, hp, fun _ => ⟨List.nodup_nil, fun _ hm => by cases hm⟩⟩, ⟨fun b o e => (each b o e).1, fun b o e => (each b o e).2⟩, rfl, .of_eq hg⟩
/-! ## what is asked of the heap -/
noncomputable section
noncomputable def codeL : List Addr := [22, 29, 36, 50, 57, 64, 71, 78, 92, 99, 192, 292, 299, 320, 334, 341, 355, 362, 376, 397, 404, 411, 425, 432, 453, 460, 467, 474, 481, 488, 495, 502, 523, 530, 537, 551, 565, 572, 586, 591, 598, 603, 610, 617, 631, 638, 645, 652, 657]
noncomputable def asL : List Addr := [3, 15, 16, 81, 82, 195, 196, 435, 436, 512, 513, 575, 576] ++ codeL.flatMap fun c => [c, c + 1]
noncomputable def getT (s : SharedT) (a : Addr) : Option Obj := match Nat.blt a s.n with
  | true => (s.tree.get a).bind alive
  | false => none
noncomputable def fragT (s : SharedT) : Frag := asL.filterMap fun a => (getT s a).map fun o => (a, o)
noncomputable def obsT (s : SharedT) : Bool × List Sg × List (Option Obj) := (okB (fragT s), allF.map (fun p => sgF (fdAt (fragT s) (rfA (fragT s) p.1))), tabL.map fun q => getT s q.2)
noncomputable def valT (_ : World) : Bool × List Sg × List (Option Obj) := (true, allF.map (fun p => sgI p.2), tabL.map fun _ => some (tabObj #[]))
end
structure SaysK (h : Heap) (K : Frag) : Prop where
  X : K.In h
  ok : okB K = true
  sg : allF.map (fun p => sgF (fdAt K (rfA K p.1))) = allF.map (fun p => sgI p.2)
  tab : ∀ q ∈ tabL, h.get? q.2 = some (tabObj #[])
noncomputable def saysS (_ : World) (h : Heap) : Prop := ∃ K, SaysK h K
noncomputable def obsS (s : Shared) : Prop := ∃ K, SaysK s.heap K
noncomputable def valS (_ : World) : Prop := True
theorem getT_of {s : SharedT} {a : Addr} {o : Obj} (h : getT s a = some o) : s.abs.heap.get? a = some o := by
  unfold getT at h
  cases q : Nat.blt a s.n with
  | false => rw [q] at h; cases h
  | true =>
    rw [q] at h
    obtain ⟨x, h1, h2⟩ := Option.bind_eq_some_iff.mp h
    exact (abs_get (Nat.le_of_ble_eq_true q) h1).trans h2
theorem says_at (w : World) (s : SharedT) (e : obsT s = valT w) : obsS s.abs = valS w := eq_true ⟨fragT s, frag_in _ _ fun _ _ => getT_of, congrArg (·.1) e, congrArg (·.2.1) e, fun q hq => getT_of (List.map_inj_left.mp (show tabL.map (fun q => getT s q.2) = tabL.map fun _ => some (tabObj #[]) from congrArg (·.2.2) e) q hq)⟩
theorem says_of (w : World) (s : Shared) (e : obsS s = valS w) : saysS w s.heap := of_eq_true e
theorem says_keeps (w : World) (h h' : Heap) (x : saysS w h) (k : ∀ b o, h.get? b = some o → h'.get? b = some o) : saysS w h' := by
  obtain ⟨K, x⟩ := x
  exact ⟨K, x.X.keeps k, x.ok, x.sg, fun q hq => k _ _ (x.tab q hq)⟩
end Mine

set_option maxHeartbeats 0
namespace Mine
noncomputable def growT : List Obj → BT → Nat → Option BT
  | [], t, _ => some t
  | o :: r, t, n => match ((t.ins n o).get n).isSome with
    | true => growT r (t.ins n o) (n + 1)
    | false => none
theorem growT_spec (life : Life) : ∀ (l : List Obj) (t : BT) (n : Nat) (t' : BT), growT l t n = some t' → absHeap t' (n + l.length) life = ⟨(absHeap t n life).objs ++ l.toArray, life⟩
  | [], t, n, t', h => by cases h; simp; rfl
  | o :: r, t, n, t', h => by
    unfold growT at h
    cases e : ((t.ins n o).get n).isSome with
    | false => rw [e] at h; cases h
    | true =>
      rw [e] at h
      have := growT_spec life r _ _ _ h
      rw [show n + (o :: r).length = n + 1 + r.length by simp; omega, this, absHeap_ins e]
      show Heap.mk _ _ = Heap.mk _ _
      congr 1
      show (absHeap t n life).objs.push o ++ _ = _
      simp
noncomputable def topRunT (st : SharedT → Thread → Option (SharedT × Thread)) (n₀ : Nat) (ann : Option Value) : Nat → SharedT → Thread → Option SharedT
  | 0, _, _ => none
  | n + 1, s, t => match through t with
    | true => some s
    | false => match stepOk n₀ ann t with
      | false => none
      | true => match st s t with
        | some (s', t') => topRunT st n₀ ann n s' t'
        | none => none
theorem topRunT_of {tb : String → Option Builtin} {p : Program} {w : World} {n₀ : Nat} {ann : Option Value} : ∀ {n : Nat} {s s' : SharedT} {t : Thread}, topRunT (stepT (denote tb) p w) n₀ ann n s t = some s' → topRun tb p w n₀ ann n s.abs t = some s'.abs
  | 0, _, _, _, h => by cases h
  | n + 1, s, s', t, h => by
    unfold topRunT at h
    unfold topRun
    cases ht : through t with
    | true => rw [ht] at h; cases h; rfl
    | false =>
      rw [ht] at h
      cases hk : stepOk n₀ ann t with
      | false => rw [hk] at h; cases h
      | true =>
        rw [hk] at h
        cases hs : stepT (denote tb) p w s t with
        | none => rw [hs] at h; cases h
        | some r => obtain ⟨s₂, t₂⟩ := r; rw [hs] at h; dsimp only; rw [stepT_spec hs]; exact topRunT_of h
abbrev pw := PySem.Challenge.pw_np0310_01
theorem b1 : ∀ w : World, ((boot_heap w.params).isNs mainGlobals && (Array.mk ([] : List GenState)).size == 0, (boot_heap w.params).objs.size, (boot_heap w.params).nsMap mainGlobals "__annotations__") = (true, 11, some (.ref 6)) := fun w => by kernel_rfl
theorem b2 : ∀ w : World, (boot_heap w.params).life = {} := fun w => by kernel_rfl
/-- the whole top, in a tree; what is seen at its end -/
noncomputable def seeT (st : SharedT → Thread → Option (SharedT × Thread)) (p : Program) (N : Nat) {β : Type} (f : SharedT → β) (P : Params) (os : OsState) : Option β :=
  (growT (boot_heap P).objs.toList .nil 0).bind fun T => (topRunT st 11 (some (.ref 6)) N ⟨T, 11, {}, Array.mk [], boot_drawn, boot_toks, os⟩ (topStub p)).map f
noncomputable def ends (p : Program) (P : Params) (s : Shared) : Bool := staticsOk (importedModules p.main.body) (boot_heap P) s.heap && namesBound p s.heap && gensDone s && laidKept (boot_heap P) s.heap
theorem left_of {p q : Program} {loose : List PySem.Str} {Xt : Shared → Bool} {α γ : Type} {Yf : Shared → α} {Ya : World → α} {Yt : SharedT → γ} {Yv : World → γ} {N M : Nat} {g0 : Bool} (hY : ∀ w s, Yt s = Yv w → Yf s.abs = Ya w) (e : opening p = plainProg p.main.scope.names) (hN : Nat.ble 600 N = true) (le : Nat.ble M N = true)
    (f : ∀ s, fenceModules? p s = some s)
    (h : ∀ w : World, (fun os => seeT (stepT (denote treeTable) p w) p M (fun s => (ends p w.params s.abs, openSeen q loose (importedModules p.main.body) Xt g0 s.abs, Yt s)) w.params os) = fun _ => some (true, openGood q loose, Yv w)) :
    LeftO p q loose Xt Yf Ya N g0 := fun w => by
  obtain ⟨⟨hp, gs, d, k, os⟩, e1, e2⟩ := Option.map_eq_some_iff.mp (boot_open e hN f w)
  obtain ⟨rfl, rfl, rfl, rfl⟩ : hp = boot_heap w.params ∧ gs = Array.mk [] ∧ d = boot_drawn ∧ k = boot_toks := by simpa using e2
  obtain ⟨z1, z2, z3⟩ : _ ∧ _ ∧ _ := by simpa only [Prod.mk.injEq] using b1 w
  have hw := congrFun (h w) os
  unfold seeT at hw
  obtain ⟨T, g1, g2⟩ := Option.bind_eq_some_iff.mp hw
  obtain ⟨s, r1, r2⟩ := Option.map_eq_some_iff.mp g2
  obtain ⟨l1, l2, l3⟩ : _ ∧ _ ∧ _ := by simpa only [Prod.mk.injEq] using r2
  have gs := growT_spec {} _ _ _ _ g1
  have hT : absHeap T 11 {} = boot_heap w.params := by
    have z2' : (boot_heap w.params).objs.toList.length = 11 := by rw [← z2]; simp
    rw [z2', Nat.zero_add] at gs
    rw [gs, show absHeap .nil 0 {} = ⟨#[], {}⟩ from rfl]
    have := b2 w
    show Heap.mk _ _ = _
    rw [← this]
    simp
  have r := topRunT_of r1
  have ea : SharedT.abs ⟨T, 11, {}, Array.mk [], boot_drawn, boot_toks, os⟩ = ⟨boot_heap w.params, Array.mk [], boot_drawn, boot_toks, os⟩ := by show Shared.mk _ _ _ _ _ = _; rw [hT]
  rw [ea] at r
  have r := topRun_mono (N - M) _ _ _ _ r
  rw [show M + (N - M) = N by have := Nat.le_of_ble_eq_true le; omega] at r
  have t : topFrom treeTable p w N ⟨boot_heap w.params, Array.mk [], boot_drawn, boot_toks, os⟩ = some s.abs := by
    unfold topFrom
    dsimp only
    rw [z1, z2, z3, r]
    show (match ends p w.params s.abs with | true => _ | false => _) = _
    rw [l1]
  unfold openEnds
  rw [e1]
  show (topFrom treeTable p w N _).map _ = _
  rw [t]
  exact congrArg some (Prod.ext l2 (hY w s l3))
end Mine

namespace Mine
noncomputable def qv : Program := view pw [90]
noncomputable def lv : List PySem.Str := (pw.main.body.zipIdx.filter (fun x => x.2 != 90)).flatMap fun x => bindsAtTop x.1
theorem left : LeftO pw qv lv (fun _ => true) obsS valS 6000 := by
  refine left_of says_at rfl rfl rfl (fun _ => rfl) (M := 6000) fun w => ?_
  rw [Fast.te10156331382660048174, Fast.te11892475500146522536, Fast.te14364793385576792824, Fast.te4187177175401517315]
  kernel_rfl
end Mine

namespace Mine
abbrev rw0 := PySem.Challenge.rw_np0310_01
theorem p1 : namesResolve pw = true := by
  rw [Fast.te8377067652309620493]
  kernel_rfl
theorem p2a : (["vars", "dir", "locals"] : List Str).filter (readsOut pw pw.main.body) = [] := by
  rw [Fast.te13343964577679436407]
  kernel_rfl
theorem p2 : noRoadLSs { strict := !(importedModules pw.main.body).all cThrough.contains, foot := none, bare := [] } pw.main.body = true := by
  rw [Fast.te8326940854005059898]
  kernel_rfl
theorem p3 : namesMeet pw pw.main.body (fun _ n => attrL n) = true := by
  rw [Fast.te17119622794617984870, Fast.te17868728402115742887]
  kernel_rfl
theorem p4 : pw.boundNames.all (fun n => !worldNames.contains n) = true := by
  rw [Fast.te18344453789297297638]
  kernel_rfl
theorem p5 : (sreFenced pw.main && ((moduleNames pw.main.body).isEmpty || lookedIntoSs (moduleNames pw.main.body) pw.main.body)) = true := by
  rw [Fast.te11788848310118352699]
  kernel_rfl
theorem looks : looksOpen pw = true := by
  unfold looksOpen
  exact look_both (look_both (look_both (look_both p5 p1) p4) (by rw [p2a]; exact p2)) p3
theorem s1 : rw0.row.wellSaid = true := by
  unfold OpenRow.wellSaid
  refine look_both (look_both ?_ (by kernel_rfl)) (by kernel_rfl)
  unfold OpenRow.partSaid
  refine look_both (look_both (look_both (look_both (look_both (look_both (look_both (look_both (look_both (look_both (look_both (look_both (look_both ?_ ?_) ?_) ?_) ?_) ?_) ?_) ?_) ?_) ?_) ?_) ?_) ?_) ?_
  · exact looks
  all_goals kernel_rfl
theorem s2 : noRoadLSs { strict := true, foot := some rw0.bound', writes := rw0.writes, may := rw0.may } rw0.footing = true := by
  rw [Fast.te8326940854005059898]
  kernel_rfl
theorem s3 : noClassBlock rw0.prog rw0.footing = true := by
  rw [Fast.te8179353310426384613]
  kernel_rfl
theorem s4 : namesMeet rw0.prog rw0.above (fun _ n => !rw0.own.contains n) = true := by
  rw [Fast.te17119622794617984870]
  kernel_rfl
theorem s5 : namesMeet rw0.prog rw0.footing (fun sc n => sc.kind == .module || sc.names.lookup n != some .globalExplicit) = true := by
  rw [Fast.te17119622794617984870]
  kernel_rfl
theorem q3 : rw0.footing.all footLine = true := by
  rw [Fast.te10501279942588096481]
  kernel_rfl
theorem q9 : rw0.namesIt = true := by
  rw [Fast.te16286561074155671207]
  kernel_rfl
theorem q11 : rw0.bound'.all (fun n => !builtinNamed n || rw0.about == [n] || !rw0.reads n) = true := by
  rw [Fast.te6984425678791042302, Fast.named_eq, Fast.te797321630700447069]
  kernel_rfl
theorem q13 : (rw0.prog.main.body.flatMap importedNames).all (fun n => !rw0.reads n || (drawsOf n rw0.prog.main.body).all fun mn => mn.2 != ("attrgetter" : Str) && mn.2 != ("methodcaller" : Str)) = true := by
  rw [Fast.te12879404354523853263]
  kernel_rfl
theorem q14 : namesMeet rw0.prog rw0.footing (fun sc n => (!(["type", "isinstance", "issubclass", "getattr", "hasattr"] : List Str).contains n || sc.names.lookup n == some .globalImplicit) &&
    (rw0.may != some n || sc.kind == .module || sc.names.lookup n == some .globalImplicit)) = true := by
  rw [Fast.te17119622794617984870]
  kernel_rfl
theorem q17 : rw0.own.all (fun n => !builtinNamed n) = true := by
  rw [Fast.named_eq]
  kernel_rfl
theorem said : rw0.wellSaid = true := by
  unfold OpenLaw.wellSaid
  refine look_both (look_both (look_both (look_both (look_both (look_both (look_both (look_both (look_both (look_both (look_both (look_both (look_both (look_both (look_both (look_both (look_both (look_both ?_ ?_) ?_) ?_) ?_) ?_) ?_) ?_) ?_) ?_) ?_) ?_) ?_) ?_) ?_) ?_) ?_) ?_) ?_
  · exact s1
  · kernel_rfl
  · exact q3
  · exact s3
  · kernel_rfl
  · kernel_rfl
  · exact s2
  · kernel_rfl
  · exact q9
  · kernel_rfl
  · exact q11
  · kernel_rfl
  · exact q13
  · exact q14
  · kernel_rfl
  · kernel_rfl
  · exact q17
  · exact s4
  · exact s5
end Mine

set_option maxHeartbeats 8000000
namespace Mine
noncomputable def dL : DefRec := ((defOf qv "law").getD (⟨"", default, [], default, ⟨0, 0, 0, 0⟩⟩, [])).1
theorem dL_name : dL.name = "law" := by kernel_rfl
theorem tst : PySem.Challenge.rw_np0310_01.Holds := by
  refine holds_law said fun said => ?_
  refine holds_open (d := dL) (kwd := []) (q := qv) (loose := lv) (Xt := fun _ => true) (XP := fun _ _ => True) (Yf := obsS) (Ya := valS) (YP := saysS) (N := 6000) left says_of says_keeps (fun _ _ => trivial) (fun _ _ _ _ _ => trivial) (by rfl) (by rfl) (by rfl) (fun _ _ => recFacts_nil rfl) rfl (by assumption) (by decide +kernel) ⟨rfl, rfl, rfl, rfl, rfl, by decide +kernel⟩ ?hw ?hc
  case hw => w_witness2
  intro w s₀ s₁ mg mb G Y fa o pm cd doc dV kV ho hd hcd hD hmg hg args vals as hpre hlay hrd hwl hlo
  refine Ground.open G ?_
  intro T B D TE TW
  wrow_args hpre hlay hrd hwl hlo
  all_goals (refine enter_call ?_)
  all_goals (obtain ⟨K, X, ok, sg, tab⟩ := Y)
  all_goals (rw [dL_name] at hmg)
  all_goals (refine law_good X T tab ok sg hmg (by assumption) (by assumption) (by omega) hg (fun _ _ => rfl) ?_)
  all_goals first | rfl | wrow_post
end Mine

theorem PySem.Challenge.cw_np0310_01_holds : PySem.Challenge.rw_np0310_01.Holds :=
  Mine.tst
