import PyProof.Rows.All
import Wide.All
import OpenK.AllK
import Wide.FinOn
import KE.KLam
import KE.KLcPair
import Lean
import PySem.Challenge.RW_rr0059_01
set_option Elab.async false
set_option maxRecDepth 100000

-- part hk
section
open PySem PySem.W PyProof.Rows
namespace Mine
local macro_rules | `(tactic| o_head $_) => `(tactic| skip)
set_option maxRecDepth 100000 in
set_option maxHeartbeats 8000000 in
theorem kap (h : PySem.Challenge.rw_rr0059_01.row.Holds) : PySem.Challenge.rw_rr0059_01.row.Holds := by
  k_head
  exact h
end Mine
end

-- part cA
section
open PySem PySem.W PyProof.Rows
namespace Mine

/-- abstract values -/
inductive V where
  | none
  | bool (b : Bool)
  | int (i : Int)
  | str (x : Str)
  | lst (xs : List Int)
  | par (xs : List Int)
  | own (a : Addr)
  | tup (vs : List V)
  | fn (a : Addr)
  | raw (v : Value)
  | inst (C : Addr) (es : List (Str × V))

/-- what a list of the ledger holds -/
inductive Ob where
  | li (xs : List Int)
  | lv (vs : List V)
  | tb (l : List (Int × Int))

abbrev Led := Addr → Option Ob
abbrev Rho := Str → Option V
abbrev PH := Addr → Option Obj

noncomputable def upd {α : Type} (f : Addr → Option α) (a : Addr) (x : α) : Addr → Option α := fun b => if b = a then some x else f b
noncomputable def setv (r : Rho) (x : Str) (v : V) : Rho := fun y => if y = x then some v else r y

/-- the entries of an object's dict -/
noncomputable def esOf : List (Str × V) → List DictEntry → Prop
  | [], [] => True
  | _, _ => False

inductive E2 {α β : Type} (p : α → β → Prop) : Prop
  | mk (a : α) (b : β) (h : p a b)
inductive E3 {α β γ : Type} (p : α → β → γ → Prop) : Prop
  | mk (a : α) (b : β) (c : γ) (h : p a b c)
inductive E4 {α β γ δ : Type} (p : α → β → γ → δ → Prop) : Prop
  | mk (a : α) (b : β) (c : γ) (d : δ) (h : p a b c d)
inductive E5 {α β γ δ ε : Type} (p : α → β → γ → δ → ε → Prop) : Prop
  | mk (a : α) (b : β) (c : γ) (d : δ) (e : ε) (h : p a b c d e)
inductive C3 (A B C : Prop) : Prop
  | mk (a : A) (b : B) (c : C)
inductive C4 (A B C D : Prop) : Prop
  | mk (a : A) (b : B) (c : C) (d : D)
inductive C5 (A B C D E : Prop) : Prop
  | mk (a : A) (b : B) (c : C) (d : D) (e : E)
inductive C6 (A B C D E F : Prop) : Prop
  | mk (a : A) (b : B) (c : C) (d : D) (e : E) (f : F)
inductive C7 (A B C D E F G : Prop) : Prop
  | mk (a : A) (b : B) (c : C) (d : D) (e : E) (f : F) (g : G)
inductive C8 (A B C D E F G H : Prop) : Prop
  | mk (a : A) (b : B) (c : C) (d : D) (e : E) (f : F) (g : G) (h : H)
inductive C9 (A B C D E F G H I : Prop) : Prop
  | mk (a : A) (b : B) (c : C) (d : D) (e : E) (f : F) (g : G) (h : H) (i : I)
inductive C10 (A B C D E F G H I J : Prop) : Prop
  | mk (a : A) (b : B) (c : C) (d : D) (e : E) (f : F) (g : G) (h : H) (i : I) (j : J)
inductive C11 (A B C D E F G H I J K : Prop) : Prop
  | mk (a : A) (b : B) (c : C) (d : D) (e : E) (f : F) (g : G) (h : H) (i : I) (j : J) (k : K)
inductive C12 (A B C D E F G H I J K L : Prop) : Prop
  | mk (a : A) (b : B) (c : C) (d : D) (e : E) (f : F) (g : G) (h : H) (i : I) (j : J) (k : K) (l : L)

mutual
noncomputable def Den (D R : Addr → Prop) (h : Heap) : V → Value → Prop
  | .none, v => v = .none
  | .bool b, v => v = .bool b
  | .int i, v => ∃ t, v = .int i t
  | .str x, v => ∃ t, v = .str x t
  | .lst xs, v => E2 fun a items => C5 (v = .ref a) (h.IsList a (List.toArray items)) (IntsAre items xs) (¬ D a) (¬ R a)
  | .par xs, v => E2 fun a items => C4 (v = .ref a) (h.IsList a (List.toArray items)) (IntsAre items xs) (¬ D a)
  | .own a, v => v = .ref a
  | .tup vs, v => E2 fun a items => C5 (v = .ref a) (IsTup h a (List.toArray items)) (¬ D a) (¬ R a) (DenL D R h vs items)
  | .fn a, v => v = .ref a
  | .raw u, v => v = u
  | .inst C es, v => E5 fun a ox dx items n => C9 (v = .ref a) (h.get? a = some ox) (ox = { cls := .ref C, dict := some dx, data := .plain }) (h.get? dx = some (dictOf items n)) (¬ D a) (¬ R a) (¬ D dx) (¬ R dx) (DenE D R h es items)
noncomputable def DenL (D R : Addr → Prop) (h : Heap) : List V → List Value → Prop
  | [], vs => vs = []
  | V :: Vs, vs => E2 fun u us => C3 (vs = u :: us) (Den D R h V u) (DenL D R h Vs us)
noncomputable def DenE (D R : Addr → Prop) (h : Heap) : List (Str × V) → List DictEntry → Prop
  | [], es => es = []
  | (k, V) :: r, es => E4 fun hs t u us => C3 (es = ⟨hs, .str k t, u⟩ :: us) (Den D R h V u) (DenE D R h r us)
end

/-- h' keeps what h holds outside D, but for the slots of the frames -/
structure Stp (D R : Addr → Prop) (h : Heap) (D' R' : Addr → Prop) (h' : Heap) : Prop where
  keep : ∀ b o, h.get? b = some o → ¬ D b → ∃ o', h'.get? b = some o' ∧ (o' = o ∨ (R b ∧ ∃ sl, o' = { o with slots := sl }))
  dom : ∀ b o, h.get? b = some o → D' b → D b
  res : ∀ b o, h.get? b = some o → R' b → R b

theorem Stp.list {D R D' R' : Addr → Prop} {h h' : Heap} (S : Stp D R h D' R' h') {a : Addr} {items : Array Value} (hl : h.IsList a items) (hd : ¬ D a) : h'.IsList a items := by
  obtain ⟨o, ho, hc, n, hn⟩ := hl
  obtain ⟨o', ho', e | ⟨_, sl, e⟩⟩ := S.keep a o ho hd
  · subst e; exact ⟨_, ho', hc, n, hn⟩
  · subst e; exact ⟨_, ho', hc, n, hn⟩
theorem Stp.tup {D R D' R' : Addr → Prop} {h h' : Heap} (S : Stp D R h D' R' h') {a : Addr} {items : Array Value} (hl : IsTup h a items) (hd : ¬ D a) : IsTup h' a items := by
  obtain ⟨o, ho, hc, n, hn⟩ := hl
  obtain ⟨o', ho', e | ⟨_, sl, e⟩⟩ := S.keep a o ho hd
  · subst e; exact ⟨_, ho', hc, n, hn⟩
  · subst e; exact ⟨_, ho', hc, n, hn⟩
theorem Stp.exact {D R D' R' : Addr → Prop} {h h' : Heap} (S : Stp D R h D' R' h') {a : Addr} {o : Obj} (ho : h.get? a = some o) (hd : ¬ D a) (hr : ¬ R a) : h'.get? a = some o := by
  obtain ⟨o', ho', e | ⟨q, sl, e⟩⟩ := S.keep a o ho hd
  · subst e; exact ho'
  · exact absurd q hr
theorem Stp.undom {D R D' R' : Addr → Prop} {h h' : Heap} (S : Stp D R h D' R' h') {a : Addr} {o : Obj} (ho : h.get? a = some o) (hd : ¬ D a) : ¬ D' a := fun q => hd (S.dom a o ho q)
theorem Stp.unres {D R D' R' : Addr → Prop} {h h' : Heap} (S : Stp D R h D' R' h') {a : Addr} {o : Obj} (ho : h.get? a = some o) (hd : ¬ R a) : ¬ R' a := fun q => hd (S.res a o ho q)
theorem list_some {h : Heap} {a : Addr} {items : Array Value} (hl : h.IsList a items) : ∃ o, h.get? a = some o := ⟨_, hl.choose_spec.1⟩
theorem tup_some {h : Heap} {a : Addr} {items : Array Value} (hl : IsTup h a items) : ∃ o, h.get? a = some o := ⟨_, hl.choose_spec.1⟩

mutual
theorem Den.stp {D R D' R' : Addr → Prop} {h h' : Heap} (S : Stp D R h D' R' h') : ∀ {V : V} {v : Value}, Den D R h V v → Den D' R' h' V v
  | .none, _, x => by simpa only [Den] using x
  | .bool _, _, x => by simpa only [Den] using x
  | .int _, _, x => by simpa only [Den] using x
  | .str _, _, x => by simpa only [Den] using x
  | .own _, _, x => by simpa only [Den] using x
  | .fn _, _, x => by simpa only [Den] using x
  | .raw _, _, x => by simpa only [Den] using x
  | .lst _, _, x => by
    simp only [Den] at x ⊢
    obtain ⟨a, items, rfl, hl, hi, hd, hr⟩ := x
    obtain ⟨o, ho⟩ := list_some hl
    exact ⟨a, items, rfl, S.list hl hd, hi, S.undom ho hd, S.unres ho hr⟩
  | .par _, _, x => by
    simp only [Den] at x ⊢
    obtain ⟨a, items, rfl, hl, hi, hd⟩ := x
    obtain ⟨o, ho⟩ := list_some hl
    exact ⟨a, items, rfl, S.list hl hd, hi, S.undom ho hd⟩
  | .tup vs, _, x => by
    simp only [Den] at x ⊢
    obtain ⟨a, items, rfl, hl, hd, hr, hv⟩ := x
    obtain ⟨o, ho⟩ := tup_some hl
    exact ⟨a, items, rfl, S.tup hl hd, S.undom ho hd, S.unres ho hr, DenL.stp S hv⟩
  | .inst C es, _, x => by
    simp only [Den] at x ⊢
    obtain ⟨a, ox, dx, items, n, rfl, ha, he, hdx, h1, h2, h3, h4, hv⟩ := x
    exact ⟨a, ox, dx, items, n, rfl, S.exact ha h1 h2, he, S.exact hdx h3 h4, S.undom ha h1, S.unres ha h2, S.undom hdx h3, S.unres hdx h4, DenE.stp S hv⟩
theorem DenL.stp {D R D' R' : Addr → Prop} {h h' : Heap} (S : Stp D R h D' R' h') : ∀ {Vs : List V} {vs : List Value}, DenL D R h Vs vs → DenL D' R' h' Vs vs
  | [], _, x => by simpa only [DenL] using x
  | V :: Vs, _, x => by
    simp only [DenL] at x ⊢
    obtain ⟨u, us, rfl, h1, h2⟩ := x
    exact ⟨u, us, rfl, Den.stp S h1, DenL.stp S h2⟩
theorem DenE.stp {D R D' R' : Addr → Prop} {h h' : Heap} (S : Stp D R h D' R' h') : ∀ {Vs : List (Str × V)} {vs : List DictEntry}, DenE D R h Vs vs → DenE D' R' h' Vs vs
  | [], _, x => by simpa only [DenE] using x
  | (k, V) :: Vs, _, x => by
    simp only [DenE] at x ⊢
    obtain ⟨hs, t, u, us, rfl, h1, h2⟩ := x
    exact ⟨hs, t, u, us, rfl, Den.stp S h1, DenE.stp S h2⟩
end

/-- and all that lives goes on living -/
structure Step (D R : Addr → Prop) (h : Heap) (D' R' : Addr → Prop) (h' : Heap) : Prop extends Stp D R h D' R' h' where
  live : ∀ b o, h.get? b = some o → ∃ o', h'.get? b = some o'
  grow : ∀ b, D b → D' b
theorem Den.step {D R D' R' : Addr → Prop} {h h' : Heap} (S : Step D R h D' R' h') {V : V} {v : Value} (x : Den D R h V v) : Den D' R' h' V v := x.stp S.toStp
theorem DenL.step {D R D' R' : Addr → Prop} {h h' : Heap} (S : Step D R h D' R' h') {V : List V} {v : List Value} (x : DenL D R h V v) : DenL D' R' h' V v := x.stp S.toStp

noncomputable def DenOb (D R : Addr → Prop) (h : Heap) : Ob → Addr → Prop
  | .li xs, a => ∃ items n, h.get? a = some (listOf (List.toArray items) n) ∧ IntsAre items xs
  | .lv vs, a => ∃ items n, h.get? a = some (listOf (List.toArray items) n) ∧ DenL D R h vs items
  | .tb l, a => ∃ ps : Array Value, h.get? a = some { cls := .none, data := .fields ps } ∧ TriplesOk ps.toList ∧ ∀ pos : Pos, ((pos.line : Int), (pos.col : Int)) ∉ l → codeAmong pos ps.toList = none


/-- the frame at hand -/
structure FC where
  A : Around
  env : Env
  outer : List Env
  h0 : PH
  R : Addr → Prop
  s0 : Shared

/-- what the frame may change -/
noncomputable def mu (F : FC) (σ : Led) : Addr → Prop := fun a => σ a ≠ none ∨ a = F.env.locals ∨ ∃ x, F.env.kindOf x = some .cell ∧ F.env.cells.lookup x = some a

noncomputable def frs (l : List Env) : Addr → Prop := fun b => b ∈ l.filterMap (·.frame)

noncomputable def KeepF (fr : Addr → Prop) (h0 : PH) (h : Heap) : Prop :=
  ∀ b o, h0 b = some o → ∃ o', h.get? b = some o' ∧ (o' = o ∨ (fr b ∧ ∃ sl, o' = { o with slots := sl }))

/-- where the variable x of env stands -/
noncomputable def VarAt (env : Env) (h : Heap) (m : Str → Option Value) (x : Str) (v : Value) : Prop :=
  (env.kindOf x = some .local ∧ m x = some v) ∨ ((env.kindOf x = some .cell ∨ env.kindOf x = some .free) ∧ ∃ c, env.cells.lookup x = some c ∧ h.IsCell c (some v))

structure FOk (B : Heap) (d : Nat) (F : FC) : Prop where
  hh : F.A.handled = none
  hfr : F.A.frames = some (F.env :: F.outer)
  hd : F.A.depth + d + 1 < recursionLimit
  hu : F.A.units + 10 * d + 100 < cLine
  hf : F.env.frame = some F.env.locals
  hk : F.env.scope.kind = .function
  hg : F.env.globals = mainGlobals
  hb : F.env.builtins = builtinsNs
  RL : F.R F.env.locals
  Rfr : ∀ b, frs F.outer b → F.R b
  h0L : F.h0 F.env.locals = none
  h0c : ∀ x c, F.env.kindOf x = some .cell → F.env.cells.lookup x = some c → F.h0 c = none ∧ B.get? c = none
  cinj : ∀ x y c, F.env.cells.lookup x = some c → F.env.cells.lookup y = some c → x = y
  BL : B.get? F.env.locals = none

structure St (B : Heap) (F : FC) (ρ : Rho) (σ : Led) (s : Shared) : Prop where
  base : B.StaysIn s.heap
  frames : s.heap.FunFrames B (F.env :: F.outer)
  keep : KeepF (frs F.outer) F.h0 s.heap
  loc : ∃ m, s.heap.Ns F.env.locals m ∧ ∀ x V, ρ x = some V → ∃ v, VarAt F.env s.heap m x v ∧ Den (mu F σ) F.R s.heap V v
  cex : ∀ x c, F.env.kindOf x = some .cell → F.env.cells.lookup x = some c → ∃ v, s.heap.IsCell c v
  led : ∀ a ob, σ a = some ob → F.h0 a = none ∧ B.get? a = none ∧ ¬ F.R a ∧ DenOb (mu F σ) F.R s.heap ob a
  RA : ∀ b, F.R b → ∃ o, s.heap.get? b = some o
  sh : ∃ h t, s = { F.s0 with heap := h, toks := t }


/-- an exception on its way through the frames fr -/
inductive Xs (B : Heap) (fr : List Env) (h0 : PH) (s0 : Shared) (X : Addr → Prop) (v : Value) (s' : Shared) : Prop
  | mk (e C : Addr) (Bx : Heap) (ev : v = .ref e) (hX : X C) (sh : ∃ h t, s' = { s0 with heap := h, toks := t }) (x1 : B.StaysIn Bx) (x2 : Bx.StaysIn s'.heap) (x3 : Bx.get? e = none) (x4 : s'.heap.FunFrames Bx fr)
    (x5 : ∀ b o, h0 b = some o → ¬ frs fr b → Bx.get? b = some o) (x6 : KeepF (frs fr) h0 s'.heap)
    (x7 : (∃ oe vs, s'.heap.get? e = some oe ∧ oe.cls = .ref C ∧ oe.data = .fields vs ∧ vs[1]? = some .none) ∨ s'.heap.Traced Bx e (.ref C))

inductive Got (B : Heap) (F : FC) (ρ : Rho) (σ : Led) (h : Heap) (Q : V → Led → Prop) (v : Value) (s' : Shared) : Prop
  | mk (U : V) (σ' : Led) (T : St B F ρ σ' s') (S : Step (mu F σ) F.R h (mu F σ') F.R s'.heap) (D : Den (mu F σ') F.R s'.heap U v) (q : Q U σ')
inductive GotL (B : Heap) (F : FC) (ρ : Rho) (σ : Led) (h : Heap) (Q : List V → Led → Prop) (vs : List Value) (s' : Shared) : Prop
  | mk (U : List V) (σ' : Led) (T : St B F ρ σ' s') (S : Step (mu F σ) F.R h (mu F σ') F.R s'.heap) (D : DenL (mu F σ') F.R s'.heap U vs) (q : Q U σ')
inductive GotT (B : Heap) (F : FC) (ρ : Rho) (σ : Led) (h : Heap) (Q : Bool → Led → Prop) (b : Bool) (s' : Shared) : Prop
  | mk (σ' : Led) (T : St B F ρ σ' s') (S : Step (mu F σ) F.R h (mu F σ') F.R s'.heap) (q : Q b σ')
inductive GotN (B : Heap) (F : FC) (σ : Led) (h : Heap) (N : Rho → Led → Prop) (s' : Shared) : Prop
  | mk (ρ' : Rho) (σ' : Led) (T : St B F ρ' σ' s') (S : Step (mu F σ) F.R h (mu F σ') F.R s'.heap) (q : N ρ' σ')
inductive GotR (B : Heap) (F : FC) (σ : Led) (h : Heap) (Rt : V → Led → Prop) (v : Value) (s' : Shared) : Prop
  | mk (ρ' : Rho) (U : V) (σ' : Led) (T : St B F ρ' σ' s') (S : Step (mu F σ) F.R h (mu F σ') F.R s'.heap) (D : Den (mu F σ') F.R s'.heap U v) (q : Rt U σ')

section
variable (prog : Program) (w : World) (B : Heap)

noncomputable def Ev (F : FC) (e : Expr) (ρ : Rho) (σ : Led) (X : Addr → Prop) (Q : V → Led → Prop) : Prop :=
  ∀ s, St B F ρ σ s → wpAny (model prog w) F.A (eval e F.env)
    (Got B F ρ σ s.heap Q)
    (Xs B (F.env :: F.outer) F.h0 F.s0 X) s

noncomputable def EvL (F : FC) (es : List Expr) (ρ : Rho) (σ : Led) (X : Addr → Prop) (Q : List V → Led → Prop) : Prop :=
  ∀ pos s, St B F ρ σ s → wpAny (model prog w) F.A (spliced (backTo pos (starEach es F.env)))
    (GotL B F ρ σ s.heap Q)
    (Xs B (F.env :: F.outer) F.h0 F.s0 X) s

/-- a step on values at hand -/
noncomputable def Op (F : FC) (Vs : List V) (f : List Value → Sem Value) (ρ : Rho) (σ : Led) (X : Addr → Prop) (Q : V → Led → Prop) : Prop :=
  ∀ vs s, St B F ρ σ s → DenL (mu F σ) F.R s.heap Vs vs → wpAny (model prog w) F.A (f vs)
    (Got B F ρ σ s.heap Q)
    (Xs B (F.env :: F.outer) F.h0 F.s0 X) s

/-- a test -/
noncomputable def Tst (F : FC) (e : Expr) (ρ : Rho) (σ : Led) (X : Addr → Prop) (Q : Bool → Led → Prop) : Prop :=
  ∀ s, St B F ρ σ s → wpAny (model prog w) F.A (isTrue e F.env (eval e F.env))
    (GotT B F ρ σ s.heap Q)
    (Xs B (F.env :: F.outer) F.h0 F.s0 X) s

/-- what a statement leaves -/
noncomputable def Lv (F : FC) (σ : Led) (h : Heap) (N : Rho → Led → Prop) (Rt : V → Led → Prop) (f : Flow) (s' : Shared) : Prop :=
  match f with
  | .next => GotN B F σ h N s'
  | .ret v => GotR B F σ h Rt v s'
  | _ => False

noncomputable def Ex1 (F : FC) (st : Stmt) (ρ : Rho) (σ : Led) (X : Addr → Prop) (N : Rho → Led → Prop) (Rt : V → Led → Prop) : Prop :=
  ∀ s, St B F ρ σ s → wpAny (model prog w) F.A (exec st F.env) (Lv B F σ s.heap N Rt) (Xs B (F.env :: F.outer) F.h0 F.s0 X) s
noncomputable def Ex (F : FC) (ss : List Stmt) (ρ : Rho) (σ : Led) (X : Addr → Prop) (N : Rho → Led → Prop) (Rt : V → Led → Prop) : Prop :=
  ∀ s, St B F ρ σ s → wpAny (model prog w) F.A (execs ss F.env) (Lv B F σ s.heap N Rt) (Xs B (F.env :: F.outer) F.h0 F.s0 X) s
end

theorem Step.refl (D R : Addr → Prop) (h : Heap) : Step D R h D R h := ⟨⟨fun _ o e _ => ⟨o, e, .inl rfl⟩, fun _ _ _ x => x, fun _ _ _ x => x⟩, fun _ o e => ⟨o, e⟩, fun _ x => x⟩
theorem Step.trans {D R D' D'' : Addr → Prop} {h h' h'' : Heap} (x : Step D R h D' R h') (y : Step D' R h' D'' R h'') : Step D R h D'' R h'' where
  keep b o e nd := by
    obtain ⟨o', e', q⟩ := x.keep b o e nd
    obtain ⟨o'', e'', q'⟩ := y.keep b o' e' (fun z => nd (x.dom b o e z))
    refine ⟨o'', e'', ?_⟩
    rcases q with rfl | ⟨r, sl, rfl⟩
    · rcases q' with rfl | ⟨r', sl, rfl⟩
      · exact .inl rfl
      · exact .inr ⟨r', sl, rfl⟩
    · rcases q' with rfl | ⟨r', sl', rfl⟩
      · exact .inr ⟨r, sl, rfl⟩
      · exact .inr ⟨r, sl', rfl⟩
  dom b o e z := by
    by_cases nd : D b
    · exact nd
    · obtain ⟨o', e', _⟩ := x.keep b o e nd
      exact x.dom b o e (y.dom b o' e' z)
  res b o e z := z
  live b o e := let ⟨o', e'⟩ := x.live b o e; y.live b o' e'
  grow b z := y.grow b (x.grow b z)

end Mine
end

-- part cB
section
open PySem PySem.W PyProof.Rows PySem.Calls
namespace Mine

structure GOk (B : Heap) (K : Frag) : Prop where
  kin : K.In B
  g : ∃ mg, B.Ns mainGlobals mg
  b : ∃ mb, B.Ns builtinsNs mb ∧ ∀ x : Str, x ≠ "__name__" → mb x = bootBuiltins x
  lim : B.NoLimit
  top : ∃ p loose mg mb, TopRead p loose mg mb B

section
variable {prog : Program} {w : World} {B : Heap} {K : Frag} {F : FC} {ρ : Rho} {σ : Led} {s : Shared} {X : Addr → Prop} {Q : V → Led → Prop}

theorem Step.ext {D R : Addr → Prop} {h h' : Heap} (hk : ∀ b o, h.get? b = some o → h'.get? b = some o) : Step D R h D R h' :=
  ⟨⟨fun b o e _ => ⟨o, hk b o e, .inl rfl⟩, fun _ _ _ x => x, fun _ _ _ x => x⟩, fun b o e => ⟨o, hk b o e⟩, fun _ x => x⟩

theorem DenOb.step {D R D' R' : Addr → Prop} {h h' : Heap} (S : Step D R h D' R' h') {ob : Ob} {a : Addr} (e : ∀ o, h.get? a = some o → h'.get? a = some o) (x : DenOb D R h ob a) : DenOb D' R' h' ob a := by
  cases ob with
  | li xs => obtain ⟨items, n, hl, hi⟩ := x; exact ⟨items, n, e _ hl, hi⟩
  | lv vs => obtain ⟨items, n, hl, hi⟩ := x; exact ⟨items, n, e _ hl, hi.step S⟩
  | tb l => obtain ⟨ps, hl, hi⟩ := x; exact ⟨ps, e _ hl, hi⟩

theorem St.ext {h' : Heap} {t : Nat} (T : St B F ρ σ s) (hk : ∀ b o, s.heap.get? b = some o → h'.get? b = some o) : St B F ρ σ { s with heap := h', toks := t } where
  base b o e := hk b o (T.base b o e)
  frames := T.frames.of_keeps fun b o e _ => ⟨o, hk b o e, rfl⟩
  keep b o e := let ⟨o', e', q⟩ := T.keep b o e; ⟨o', hk _ _ e', q⟩
  loc := by
    obtain ⟨m, hn, hv⟩ := T.loc
    refine ⟨m, hn.keeps hk, fun x V e => ?_⟩
    obtain ⟨v, hv, hd⟩ := hv x V e
    refine ⟨v, hv.imp id (fun ⟨a, c, b, d⟩ => ⟨a, c, b, d.keeps hk⟩), hd.step (Step.ext hk)⟩
  cex x c a b := let ⟨v, e⟩ := T.cex x c a b; ⟨v, e.keeps hk⟩
  led a ob e := by
    obtain ⟨h1, h2, h3, h4⟩ := T.led a ob e
    exact ⟨h1, h2, h3, h4.step (Step.ext hk) fun o e => hk _ _ e⟩
  RA b e := let ⟨o, q⟩ := T.RA b e; ⟨o, hk _ _ q⟩
  sh := by obtain ⟨h, t', e⟩ := T.sh; exact ⟨h', t, by rw [e]⟩

theorem done {h' : Heap} {t : Nat} {V : V} {v : Value} (T : St B F ρ σ s) (hk : ∀ b o, s.heap.get? b = some o → h'.get? b = some o) (hd : Den (mu F σ) F.R h' V v) (hq : Q V σ) :
    Got B F ρ σ s.heap Q v { s with heap := h', toks := t } :=
  ⟨V, σ, T.ext hk, Step.ext hk, hd, hq⟩
theorem done0 {V : V} {v : Value} (T : St B F ρ σ s) (hd : Den (mu F σ) F.R s.heap V v) (hq : Q V σ) :
    Got B F ρ σ s.heap Q v s :=
  ⟨V, σ, T, Step.refl .., hd, hq⟩
theorem doneT {t : Nat} {V : V} {v : Value} (T : St B F ρ σ s) (hd : Den (mu F σ) F.R s.heap V v) (hq : Q V σ) :
    Got B F ρ σ s.heap Q v { s with toks := t } :=
  done (h' := s.heap) T (fun _ _ e => e) hd hq

theorem Ev.mono {Q' : V → Led → Prop} {e : Expr} (h : Ev prog w B F e ρ σ X Q) (hq : ∀ V σ', Q V σ' → Q' V σ') : Ev prog w B F e ρ σ X Q' :=
  fun s T => wpAny_mono (h s T) (fun _ _ ⟨V, σ', a, b, c, d⟩ => ⟨V, σ', a, b, c, hq _ _ d⟩) fun _ _ x => x

/-- one expression behind another: what the first one told still holds -/
theorem seq_step {α : Type} {V : V} {v : Value} {σ₁ : Led} {s₁ : Shared} {P : α → Shared → Prop} (_ : Step (mu F σ) F.R s.heap (mu F σ₁) F.R s₁.heap) (_ : Den (mu F σ₁) F.R s₁.heap V v) (x : α) (h : P x s₁) : P x s₁ := h

-- constants
theorem Ev.int {i : Int} {k : Nat} {p : Pos} (h : Q (.int i) σ) : Ev prog w B F (.Constant (.int i) k p) ρ σ X Q := fun _ T => wpAny_Constant_int (doneT T (by simp [Den]) h)
theorem Ev.bool {i : Bool} {k : Nat} {p : Pos} (h : Q (.bool i) σ) : Ev prog w B F (.Constant (.bool i) k p) ρ σ X Q := fun _ T => wpAny_Constant_bool (done0 T (by simp [Den]) h)
theorem Ev.cnone {k : Nat} {p : Pos} (h : Q .none σ) : Ev prog w B F (.Constant .none k p) ρ σ X Q := fun _ T => wpAny_Constant_none (done0 T (by simp [Den]) h)
theorem Ev.str {i : Str} {k : Nat} {p : Pos} (h : Q (.str i) σ) : Ev prog w B F (.Constant (.str i) k p) ρ σ X Q := fun _ T => wpAny_Constant_str (doneT T (by simp [Den]) h)

-- names
theorem Ev.loc (O : FOk B d F) {x : Str} {p : Pos} {V : V} (hx : ρ x = some V) (h : Q V σ) (hd : (x == ("__debug__" : Str)) = false := by decide) (hc : (x == ("__classdict__" : Str)) = false := by decide) :
    Ev prog w B F (.Name x p) ρ σ X Q := fun s T => by
  obtain ⟨m, hn, hv⟩ := T.loc
  obtain ⟨v, hv, hD⟩ := hv x V hx
  rcases hv with ⟨hk, hm⟩ | ⟨hk | hk, c, hl, hcell⟩
  · exact wpAny_Name (wpAny_loadName_local O.hk hk hn hm (done0 T hD h)) hd
  · exact wpAny_Name (wpAny_loadName_cell O.hk hk hl hcell (done0 T hD h)) hd
  · exact wpAny_Name (wpAny_loadName_free O.hk hk hl hcell (done0 T hD h) hc) hd
theorem Ev.glo (G : GOk B K) (O : FOk B d F) {x : Str} {p : Pos} {a : Addr} (hk : F.env.kindOf x = some .globalImplicit) (hx : nsIn K mainGlobals x = some (some (.ref a))) (h : Q (.fn a) σ) (hd : (x == ("__debug__" : Str)) = false := by decide) :
    Ev prog w B F (.Name x p) ρ σ X Q := fun s T => by
  obtain ⟨mg, g⟩ := G.g
  exact Name_function_global O.hk hk (loadGlobal_global (env := F.env) (O.hg ▸ g.keeps T.base) (mg_of G.kin g hx) (done0 T (by simp [Den]) h)) hd
theorem Ev.blt (G : GOk B K) (O : FOk B d F) {x : Str} {p : Pos} {v : Value} (hk : F.env.kindOf x = some .globalImplicit) (hx : nsIn K mainGlobals x = some Option.none) (hv : bootBuiltins x = some v) (h : Q (.raw v) σ) (hn : x ≠ "__name__" := by decide) (hd : (x == ("__debug__" : Str)) = false := by decide) :
    Ev prog w B F (.Name x p) ρ σ X Q := fun s T => by
  obtain ⟨mg, g⟩ := G.g
  obtain ⟨mb, b, hb⟩ := G.b
  exact Name_function_global O.hk hk (loadGlobal_builtin (env := F.env) (O.hg ▸ g.keeps T.base) (mg_none_of G.kin g hx) (O.hb ▸ b.keeps T.base) ((hb x hn).trans hv) (done0 T (by simp [Den]) h)) hd

end
inductive GotC (B : Heap) (F : FC) (ρ : Rho) (σ : Led) (h : Heap) (Q : Bool → Led → Prop) (c : Value) (s' : Shared) : Prop
  | mk (t : Bool) (σ' : Led) (e : c = .bool t) (T : St B F ρ σ' s') (S : Step (mu F σ) F.R h (mu F σ') F.R s'.heap) (q : Q t σ')
variable (prog : Program) (w : World) (B : Heap)
def Op1 (F : FC) (f : Value → Sem Value) (a : V) (ρ : Rho) (σ : Led) (X : Addr → Prop) (Q : V → Led → Prop) : Prop :=
  ∀ u s, St B F ρ σ s → Den (mu F σ) F.R s.heap a u → wpAny (model prog w) F.A (f u)
    (Got B F ρ σ s.heap Q)
    (Xs B (F.env :: F.outer) F.h0 F.s0 X) s
def Op2 (F : FC) (f : Value → Value → Sem Value) (a b : V) (ρ : Rho) (σ : Led) (X : Addr → Prop) (Q : V → Led → Prop) : Prop :=
  ∀ u v s, St B F ρ σ s → Den (mu F σ) F.R s.heap a u → Den (mu F σ) F.R s.heap b v → wpAny (model prog w) F.A (f u v)
    (Got B F ρ σ s.heap Q)
    (Xs B (F.env :: F.outer) F.h0 F.s0 X) s
def OpN (F : FC) (f : List Value → Sem Value) (a : List V) (ρ : Rho) (σ : Led) (X : Addr → Prop) (Q : V → Led → Prop) : Prop :=
  ∀ u s, St B F ρ σ s → DenL (mu F σ) F.R s.heap a u → wpAny (model prog w) F.A (f u)
    (Got B F ρ σ s.heap Q)
    (Xs B (F.env :: F.outer) F.h0 F.s0 X) s
/-- compare, then the truth of it -/
def CmT (F : FC) (op : CmpOp) (a b : V) (ρ : Rho) (σ : Led) (X : Addr → Prop) (Q : Bool → Led → Prop) : Prop :=
  ∀ u v s, St B F ρ σ s → Den (mu F σ) F.R s.heap a u → Den (mu F σ) F.R s.heap b v → wpAny (model prog w) F.A (compareOp op u v)
    (GotC B F ρ σ s.heap Q)
    (Xs B (F.env :: F.outer) F.h0 F.s0 X) s
section
variable {prog : Program} {w : World} {B : Heap} {K : Frag} {F : FC} {ρ : Rho} {σ : Led} {s : Shared} {X : Addr → Prop} {Q : V → Led → Prop} {P : Bool → Led → Prop}

theorem Ev.bin {l r : Expr} {op : Operator} {p : Pos} (h : Ev prog w B F l ρ σ X fun a σ₁ => Ev prog w B F r ρ σ₁ X fun b σ₂ => Op2 prog w B F (binaryOp op) a b ρ σ₂ X Q) :
    Ev prog w B F (.BinOp l op r p) ρ σ X Q := fun s T => by
  refine wpAny_BinOp (wpAny_mono (h s T) (fun u s₁ ⟨a, σ₁, T₁, S₁, D₁, h₁⟩ => wpAny_mono (h₁ s₁ T₁) (fun v s₂ ⟨b, σ₂, T₂, S₂, D₂, h₂⟩ => ?_) fun _ _ x => x) fun _ _ x => x)
  exact wpAny_mono (h₂ u v s₂ T₂ (D₁.step S₂) D₂) (fun _ _ ⟨V, σ', T', S', D', q⟩ => ⟨V, σ', T', (S₁.trans S₂).trans S', D', q⟩) fun _ _ x => x
theorem Ev.cmp {l r : Expr} {op : CmpOp} {p : Pos} (h : Ev prog w B F l ρ σ X fun a σ₁ => Ev prog w B F r ρ σ₁ X fun b σ₂ => CmT prog w B F op a b ρ σ₂ X fun t σ' => Q (.bool t) σ')
    (hm : behindInMarks op r = false := by with_unfolding_all rfl) :
    Ev prog w B F (.Compare l [op] [r] p) ρ σ X Q := fun s T => by
  refine wpAny_Compare1 (wpAny_mono (h s T) (fun u s₁ ⟨a, σ₁, T₁, S₁, D₁, h₁⟩ => wpAny_mono (h₁ s₁ T₁) (fun v s₂ ⟨b, σ₂, T₂, S₂, D₂, h₂⟩ => ?_) fun _ _ x => x) fun _ _ x => x) hm
  exact wpAny_mono (h₂ u v s₂ T₂ (D₁.step S₂) D₂) (fun _ _ ⟨t, σ', e, T', S', q⟩ => ⟨.bool t, σ', T', (S₁.trans S₂).trans S', by simpa [Den] using e, q⟩) fun _ _ x => x
theorem Tst.cmp {l r : Expr} {op : CmpOp} {p : Pos} (h : Ev prog w B F l ρ σ X fun a σ₁ => Ev prog w B F r ρ σ₁ X fun b σ₂ => CmT prog w B F op a b ρ σ₂ X P)
    (hm : behindInMarks op r = false := by with_unfolding_all rfl) :
    Tst prog w B F (.Compare l [op] [r] p) ρ σ X P := fun s T => by
  refine wpAny_isTrue_Compare1 (wpAny_mono (h s T) (fun u s₁ ⟨a, σ₁, T₁, S₁, D₁, h₁⟩ => wpAny_mono (h₁ s₁ T₁) (fun v s₂ ⟨b, σ₂, T₂, S₂, D₂, h₂⟩ => ?_) fun _ _ x => x) fun _ _ x => x) hm
  refine wpAny_mono (h₂ u v s₂ T₂ (D₁.step S₂) D₂) (fun c s₃ ⟨t, σ', e, T', S', q⟩ => ?_) fun _ _ x => x
  subst e
  exact wpAny_truthy_bool ⟨σ', T', (S₁.trans S₂).trans S', q⟩
theorem Tst.not {x : Expr} {p : Pos} (h : Tst prog w B F x ρ σ X fun b σ' => P (!b) σ') : Tst prog w B F (.UnaryOp .Not x p) ρ σ X P := fun s T =>
  wpAny_isTrue_Not (wpAny_mono (h s T) (fun _ _ ⟨a, b, c, d⟩ => ⟨a, b, c, d⟩) fun _ _ x => x)
theorem Tst.and2 {x y : Expr} {p : Pos} (h : Tst prog w B F x ρ σ X fun b σ₁ => if b = true then Tst prog w B F y ρ σ₁ X P else P false σ₁) :
    Tst prog w B F (.BoolOp .And [x, y] p) ρ σ X P := fun s T => by
  refine wpAny_isTrue_BoolOp (wpAny_allTrue_And_cons (wpAny_mono (h s T) (fun b s₁ ⟨σ₁, T₁, S₁, h₁⟩ => ?_) fun _ _ x => x))
  cases b with
  | false => exact ⟨σ₁, T₁, S₁, by simpa using h₁⟩
  | true =>
    simp only [if_true] at h₁
    refine wpAny_allTrue_And_cons (wpAny_mono (h₁ s₁ T₁) (fun c s₂ ⟨σ₂, T₂, S₂, h₂⟩ => ?_) fun _ _ x => x)
    cases c with
    | false => exact ⟨σ₂, T₂, S₁.trans S₂, h₂⟩
    | true => exact wpAny_allTrue_And_nil ⟨σ₂, T₂, S₁.trans S₂, h₂⟩
/-- a test that is a call: its value is a bool -/
theorem Tst.val {e : Expr} (h : Ev prog w B F e ρ σ X fun V σ₁ => ∃ b, V = .bool b ∧ P b σ₁) 
    (he : isTrue e F.env (eval e F.env) = (do let v ← eval e F.env; standAt e.pos; holding [v] (truthy v)) := by rfl) : Tst prog w B F e ρ σ X P := fun s T => by
  refine wpAny_isTrue_value (wpAny_mono (h s T) (fun v s₁ ⟨V, σ₁, T₁, S₁, D₁, b, e, h₁⟩ => ?_) fun _ _ x => x) he
  subst e
  simp only [Den] at D₁
  subst D₁
  exact wpAny_truthy_bool ⟨σ₁, T₁, S₁, h₁⟩
theorem Ev.and2 {x y : Expr} {p : Pos} (h : Ev prog w B F x ρ σ X fun V σ₁ => ∃ b, V = .bool b ∧ if b = true then Ev prog w B F y ρ σ₁ X Q else Q (.bool false) σ₁) :
    Ev prog w B F (.BoolOp .And [x, y] p) ρ σ X Q := fun s T => by
  refine wpAny_And2 (wpAny_mono (h s T) (fun v s₁ ⟨V, σ₁, T₁, S₁, D₁, b, e, h₁⟩ => ?_) fun _ _ x => x)
  subst e
  simp only [Den] at D₁
  subst D₁
  refine wpAny_truthy_bool ?_
  cases b with
  | false => exact ⟨.bool false, σ₁, T₁, S₁, by simp [Den], by simpa using h₁⟩
  | true =>
    simp only [if_true] at h₁ ⊢
    exact wpAny_mono (h₁ s₁ T₁) (fun _ _ ⟨V, σ', T', S', D', q⟩ => ⟨V, σ', T', S₁.trans S', D', q⟩) fun _ _ x => x
theorem Ev.ife {t x y : Expr} {p : Pos} (h : Tst prog w B F t ρ σ X fun b σ₁ => if b = true then Ev prog w B F x ρ σ₁ X Q else Ev prog w B F y ρ σ₁ X Q) :
    Ev prog w B F (.IfExp t x y p) ρ σ X Q := fun s T => by
  refine wpAny_IfExp (wpAny_mono (h s T) (fun b s₁ ⟨σ₁, T₁, S₁, h₁⟩ => ?_) fun _ _ x => x)
  cases b with
  | false =>
    simp only [Bool.false_eq_true, if_false] at h₁ ⊢
    exact wpAny_mono (h₁ s₁ T₁) (fun _ _ ⟨V, σ', T', S', D', q⟩ => ⟨V, σ', T', S₁.trans S', D', q⟩) fun _ _ x => x
  | true =>
    simp only [if_true] at h₁ ⊢
    exact wpAny_mono (h₁ s₁ T₁) (fun _ _ ⟨V, σ', T', S', D', q⟩ => ⟨V, σ', T', S₁.trans S', D', q⟩) fun _ _ x => x
theorem Ev.una {x : Expr} {op : UnaryOp} {p : Pos} (h : Ev prog w B F x ρ σ X fun a σ₁ => Op1 prog w B F (unaryOp op) a ρ σ₁ X Q) :
    Ev prog w B F (.UnaryOp op x p) ρ σ X Q := fun s T =>
  wpAny_UnaryOp (wpAny_mono (h s T) (fun u s₁ ⟨a, σ₁, T₁, S₁, D₁, h₁⟩ => wpAny_mono (h₁ u s₁ T₁ D₁) (fun _ _ ⟨V, σ', T', S', D', q⟩ => ⟨V, σ', T', S₁.trans S', D', q⟩) fun _ _ x => x) fun _ _ x => x)
theorem Ev.sub {x y : Expr} {p : Pos} (h : Ev prog w B F x ρ σ X fun a σ₁ => Ev prog w B F y ρ σ₁ X fun b σ₂ => Op2 prog w B F (subscriptTail x y) a b ρ σ₂ X Q) :
    Ev prog w B F (.Subscript x y p) ρ σ X Q := fun s T => by
  refine Subscript_ (wpAny_mono (h s T) (fun u s₁ ⟨a, σ₁, T₁, S₁, D₁, h₁⟩ => wpAny_mono (h₁ s₁ T₁) (fun v s₂ ⟨b, σ₂, T₂, S₂, D₂, h₂⟩ => ?_) fun _ _ x => x) fun _ _ x => x)
  exact wpAny_mono (h₂ u v s₂ T₂ (D₁.step S₂) D₂) (fun _ _ ⟨V, σ', T', S', D', q⟩ => ⟨V, σ', T', (S₁.trans S₂).trans S', D', q⟩) fun _ _ x => x
theorem EvL.nil {Q : List V → Led → Prop} (h : Q [] σ) : EvL prog w B F [] ρ σ X Q := fun _ _ T => wpAny_items_nil ⟨[], σ, T, Step.refl .., by simp [DenL], h⟩
theorem EvL.cons {Q : List V → Led → Prop} {e : Expr} {es : List Expr} (h : Ev prog w B F e ρ σ X fun a σ₁ => EvL prog w B F es ρ σ₁ X fun vs σ₂ => Q (a :: vs) σ₂)
    (he : starEach (e :: es) F.env = (false, eval e F.env) :: starEach es F.env := by rfl) : EvL prog w B F (e :: es) ρ σ X Q := fun pos s T => by
  refine wpAny_items_cons (wpAny_mono (h s T) (fun u s₁ ⟨a, σ₁, T₁, S₁, D₁, h₁⟩ => wpAny_mono (h₁ pos s₁ T₁) (fun v s₂ ⟨b, σ₂, T₂, S₂, D₂, h₂⟩ => ?_) fun _ _ x => x) fun _ _ x => x) he
  exact ⟨a :: b, σ₂, T₂, S₁.trans S₂, by simp only [DenL]; exact ⟨_, _, rfl, D₁.step S₂, D₂⟩, h₂⟩
end
end Mine
end

-- part cC
section
open PySem PySem.W PyProof.Rows PySem.Calls
namespace Mine
section
variable {prog : Program} {w : World} {B : Heap} {K : Frag} {F : FC} {ρ : Rho} {σ : Led} {s : Shared} {X : Addr → Prop} {Q : V → Led → Prop} {P : Bool → Led → Prop} {x y : Int}

theorem den_int {D R : Addr → Prop} {h : Heap} {i : Int} {v : Value} (x : Den D R h (.int i) v) : ∃ t, v = .int i t := by simpa [Den] using x
theorem den_str {D R : Addr → Prop} {h : Heap} {i : Str} {v : Value} (x : Den D R h (.str i) v) : ∃ t, v = .str i t := by simpa [Den] using x
theorem den_bool {D R : Addr → Prop} {h : Heap} {i : Bool} {v : Value} (x : Den D R h (.bool i) v) : v = .bool i := by simpa [Den] using x
theorem Den.i {D R : Addr → Prop} {h : Heap} {i : Int} {t : Tok} : Den D R h (.int i) (.int i t) := by simp [Den]

theorem op_add (h : Q (.int (x + y)) σ) : Op2 prog w B F (binaryOp .Add) (.int x) (.int y) ρ σ X Q := fun u v s T a b => by
  obtain ⟨t, rfl⟩ := den_int a; obtain ⟨t', rfl⟩ := den_int b; exact add_int (doneT T .i h)
theorem op_sub (h : Q (.int (x - y)) σ) : Op2 prog w B F (binaryOp .Sub) (.int x) (.int y) ρ σ X Q := fun u v s T a b => by
  obtain ⟨t, rfl⟩ := den_int a; obtain ⟨t', rfl⟩ := den_int b; exact sub_int (doneT T .i h)
theorem op_mul (hs : x.natAbs < 2 ^ 64 ∨ y.natAbs < 2 ^ 64) (h : Q (.int (x * y)) σ) : Op2 prog w B F (binaryOp .Mult) (.int x) (.int y) ρ σ X Q := fun u v s T a b => by
  obtain ⟨t, rfl⟩ := den_int a; obtain ⟨t', rfl⟩ := den_int b
  exact PyProof.Rows.mul_int (doneT T .i h) (hs.elim (fun q => .of_left (intBits_le q)) fun q => .of_right (intBits_le q))
theorem op_div (hy : y ≠ 0) (hy2 : y.natAbs < 1073741824) (h : Q (.int (x.fdiv y)) σ) : Op2 prog w B F (binaryOp .FloorDiv) (.int x) (.int y) ρ σ X Q := fun u v s T a b => by
  obtain ⟨t, rfl⟩ := den_int a; obtain ⟨t', rfl⟩ := den_int b; exact floordiv_int hy (doneT T .i h) (.inl (PyProof.noPylong_small hy2))
theorem op_mod (hy : y ≠ 0) (h : Q (.int (x.fmod y)) σ) : Op2 prog w B F (binaryOp .Mod) (.int x) (.int y) ρ σ X Q := fun u v s T a b => by
  obtain ⟨t, rfl⟩ := den_int a; obtain ⟨t', rfl⟩ := den_int b; exact PyProof.Rows.mod_int hy (doneT T .i h)
theorem op_pow (h0 : 0 ≤ y) (h1 : y ≤ 1000000) (hx : x.natAbs < 2 ^ 64) (h : Q (.int (x ^ y.toNat)) σ) : Op2 prog w B F (binaryOp .Pow) (.int x) (.int y) ρ σ X Q := fun u v s T a b => by
  obtain ⟨t, rfl⟩ := den_int a; obtain ⟨t', rfl⟩ := den_int b; exact pow_int_small h0 h1 hx (doneT T .i h)
theorem op_shl (h0 : 0 ≤ y) (h1 : y ≤ 1000000) (hx : x.natAbs < 2 ^ 64) (h : Q (.int (x * 2 ^ y.toNat)) σ) : Op2 prog w B F (binaryOp .LShift) (.int x) (.int y) ρ σ X Q := fun u v s T a b => by
  obtain ⟨t, rfl⟩ := den_int a; obtain ⟨t', rfl⟩ := den_int b; exact lshift_int_small h0 h1 hx (doneT T .i h)
theorem op_shr (h0 : 0 ≤ y) (h : Q (.int (x.fdiv (2 ^ y.toNat))) σ) : Op2 prog w B F (binaryOp .RShift) (.int x) (.int y) ρ σ X Q := fun u v s T a b => by
  obtain ⟨t, rfl⟩ := den_int a; obtain ⟨t', rfl⟩ := den_int b; exact rshift_int h0 (doneT T .i h)
theorem op_and (h : Q (.int (Builtin.bitAnd x y)) σ) : Op2 prog w B F (binaryOp .BitAnd) (.int x) (.int y) ρ σ X Q := fun u v s T a b => by
  obtain ⟨t, rfl⟩ := den_int a; obtain ⟨t', rfl⟩ := den_int b; exact and_int (doneT T .i h)
theorem op_or (h : Q (.int (Builtin.bitOr x y)) σ) : Op2 prog w B F (binaryOp .BitOr) (.int x) (.int y) ρ σ X Q := fun u v s T a b => by
  obtain ⟨t, rfl⟩ := den_int a; obtain ⟨t', rfl⟩ := den_int b; exact or_int (doneT T .i h)
theorem op_neg (h : Q (.int (-x)) σ) : Op1 prog w B F (unaryOp .USub) (.int x) ρ σ X Q := fun u s T a => by
  obtain ⟨t, rfl⟩ := den_int a; exact PyProof.Rows.neg_int (doneT T .i h)

-- in place
theorem ip_add (h : Q (.int (x + y)) σ) : Op2 prog w B F (inplaceOp .Add) (.int x) (.int y) ρ σ X Q := fun u v s T a b => by
  obtain ⟨t, rfl⟩ := den_int a; obtain ⟨t', rfl⟩ := den_int b; exact wpAny_iadd_int (doneT T .i h)
theorem ip_sub (h : Q (.int (x - y)) σ) : Op2 prog w B F (inplaceOp .Sub) (.int x) (.int y) ρ σ X Q := fun u v s T a b => by
  obtain ⟨t, rfl⟩ := den_int a; obtain ⟨t', rfl⟩ := den_int b; exact isub_int (doneT T .i h)
theorem ip_mod (hy : y ≠ 0) (h : Q (.int (x.fmod y)) σ) : Op2 prog w B F (inplaceOp .Mod) (.int x) (.int y) ρ σ X Q := fun u v s T a b => by
  obtain ⟨t, rfl⟩ := den_int a; obtain ⟨t', rfl⟩ := den_int b; exact imod_int hy (doneT T .i h)
theorem ip_shr (h0 : 0 ≤ y) (h : Q (.int (x.fdiv (2 ^ y.toNat))) σ) : Op2 prog w B F (inplaceOp .RShift) (.int x) (.int y) ρ σ X Q := fun u v s T a b => by
  obtain ⟨t, rfl⟩ := den_int a; obtain ⟨t', rfl⟩ := den_int b; exact irshift_int h0 (doneT T .i h)
theorem ip_or (h : Q (.int (Builtin.bitOr x y)) σ) : Op2 prog w B F (inplaceOp .BitOr) (.int x) (.int y) ρ σ X Q := fun u v s T a b => by
  obtain ⟨t, rfl⟩ := den_int a; obtain ⟨t', rfl⟩ := den_int b; exact ior_int (doneT T .i h)

-- comparisons
theorem cm_of {op : CmpOp} {a b : V} {t : Bool} (hq : P t σ) (h : ∀ u v (s : Shared) (A : Around) (Q' : Value → Shared → Prop) (E : Value → Shared → Prop), Den (mu F σ) F.R s.heap a u → Den (mu F σ) F.R s.heap b v → Q' (.bool t) s → wpAny (model prog w) A (compareOp op u v) Q' E s) :
    CmT prog w B F op a b ρ σ X P := fun u v s T x y => h u v s _ _ _ x y ⟨t, σ, rfl, T, Step.refl .., hq⟩
theorem cm_lt (h : P (decide (x < y)) σ) : CmT prog w B F .Lt (.int x) (.int y) ρ σ X P := cm_of h fun u v s A Q' E a b q => by
  obtain ⟨t, rfl⟩ := den_int a; obtain ⟨t', rfl⟩ := den_int b; exact PyProof.Rows.lt_int q
theorem cm_le (h : P (decide (x ≤ y)) σ) : CmT prog w B F .LtE (.int x) (.int y) ρ σ X P := cm_of h fun u v s A Q' E a b q => by
  obtain ⟨t, rfl⟩ := den_int a; obtain ⟨t', rfl⟩ := den_int b; exact PyProof.Rows.le_int q
theorem cm_gt (h : P (decide (y < x)) σ) : CmT prog w B F .Gt (.int x) (.int y) ρ σ X P := cm_of h fun u v s A Q' E a b q => by
  obtain ⟨t, rfl⟩ := den_int a; obtain ⟨t', rfl⟩ := den_int b; exact PyProof.Rows.gt_int q
theorem cm_eq (h : P (decide (x = y)) σ) : CmT prog w B F .Eq (.int x) (.int y) ρ σ X P := cm_of h fun u v s A Q' E a b q => by
  obtain ⟨t, rfl⟩ := den_int a; obtain ⟨t', rfl⟩ := den_int b
  refine PyProof.Rows.eq_int ?_
  have e : (x == y) = decide (x = y) := rfl
  rw [e]; exact q
theorem cm_ne (h : P (decide (x ≠ y)) σ) : CmT prog w B F .NotEq (.int x) (.int y) ρ σ X P := cm_of h fun u v s A Q' E a b q => by
  obtain ⟨t, rfl⟩ := den_int a; obtain ⟨t', rfl⟩ := den_int b
  refine PyProof.Rows.ne_int ?_
  have e : (x != y) = decide (x ≠ y) := by by_cases e : x = y <;> simp [e, bne]
  rw [e]; exact q
theorem cm_eqs {x y : Str} (h : P (decide (x = y)) σ) : CmT prog w B F .Eq (.str x) (.str y) ρ σ X P := cm_of h fun u v s A Q' E a b q => by
  obtain ⟨t, rfl⟩ := den_str a; obtain ⟨t', rfl⟩ := den_str b
  refine PyProof.Rows.eq_str ?_
  have e : (x == y) = decide (x = y) := by by_cases e : x = y <;> simp [e]
  rw [e]; exact q
theorem cm_nes {x y : Str} (h : P (decide (x ≠ y)) σ) : CmT prog w B F .NotEq (.str x) (.str y) ρ σ X P := cm_of h fun u v s A Q' E a b q => by
  obtain ⟨t, rfl⟩ := den_str a; obtain ⟨t', rfl⟩ := den_str b
  refine PyProof.Rows.ne_str ?_
  have e : (x != y) = decide (x ≠ y) := by by_cases e : x = y <;> simp [e, bne]
  rw [e]; exact q
end
end Mine
end

-- part cD
section
open PySem PySem.W PyProof.Rows PySem.Calls
namespace Mine

noncomputable def Rd (σ : Led) : V → List Int → Prop
  | .lst xs, ys => xs = ys
  | .par xs, ys => xs = ys
  | .own a, ys => σ a = some (.li ys)
  | _, _ => False

noncomputable def intsOf : List V → Option (List Int)
  | [] => some []
  | .int i :: r => (intsOf r).map (i :: ·)
  | _ :: _ => none

theorem intsOf_are {D R : Addr → Prop} {h : Heap} : ∀ {vs : List V} {xs : List Int} {us : List Value}, intsOf vs = some xs → DenL D R h vs us → IntsAre us xs
  | [], xs, us, e, d => by simp only [intsOf, Option.some.injEq] at e; simp only [DenL] at d; subst e; subst d; exact .nil
  | v :: r, xs, us, e, d => by
    cases v with
    | int i =>
      simp only [intsOf, Option.map_eq_some_iff] at e
      obtain ⟨ys, e1, rfl⟩ := e
      simp only [DenL, Den] at d
      obtain ⟨u, us', rfl, ⟨t, rfl⟩, d2⟩ := d
      exact .cons i t (intsOf_are e1 d2)
    | _ => simp [intsOf] at e

section
variable {prog : Program} {w : World} {B : Heap} {K : Frag} {F : FC} {ρ : Rho} {σ : Led} {s : Shared} {X : Addr → Prop} {Q : V → Led → Prop} {P : Bool → Led → Prop}

theorem Rd.list {V : V} {v : Value} {xs : List Int} (T : St B F ρ σ s) (hd : Den (mu F σ) F.R s.heap V v) (r : Rd σ V xs) : ∃ a items, v = .ref a ∧ s.heap.IsList a (List.toArray items) ∧ IntsAre items xs := by
  cases V with
  | lst ys => simp only [Rd] at r; subst r; simp only [Den] at hd; obtain ⟨a, items, e, hl, hi, _⟩ := hd; exact ⟨a, items, e, hl, hi⟩
  | par ys => simp only [Rd] at r; subst r; simp only [Den] at hd; obtain ⟨a, items, e, hl, hi, _⟩ := hd; exact ⟨a, items, e, hl, hi⟩
  | own a =>
    simp only [Rd] at r; simp only [Den] at hd; subst hd
    obtain ⟨_, _, _, items, n, ha, hi⟩ := T.led a _ r
    exact ⟨a, items, rfl, ⟨_, ha, rfl, n, rfl⟩, hi⟩
  | _ => simp [Rd] at r

theorem St.fresh (T : St B F ρ σ s) {a : Addr} (ha : s.heap.get? a = none) : ¬ mu F σ a ∧ ¬ F.R a ∧ σ a = none ∧ F.h0 a = none ∧ B.get? a = none := by
  have hs : σ a = none := by
    cases e : σ a with
    | none => rfl
    | some ob =>
      obtain ⟨_, _, _, q⟩ := T.led a ob e
      cases ob with
      | li xs => obtain ⟨_, _, h, _⟩ := q; rw [ha] at h; cases h
      | lv xs => obtain ⟨_, _, h, _⟩ := q; rw [ha] at h; cases h
      | tb l => obtain ⟨_, h, _⟩ := q; rw [ha] at h; cases h
  refine ⟨?_, ?_, hs, ?_, ?_⟩
  · rintro (q | q | ⟨x, q1, q2⟩)
    · exact q hs
    · obtain ⟨m, ⟨o, _, _, e, _⟩, _⟩ := T.loc; rw [q] at ha; rw [e] at ha; cases ha
    · obtain ⟨v, o, e, _⟩ := T.cex x a q1 q2; rw [e] at ha; cases ha
  · intro q; obtain ⟨o, e⟩ := T.RA a q; rw [e] at ha; cases ha
  · cases e : F.h0 a with
    | none => rfl
    | some o => obtain ⟨o', e', _⟩ := T.keep a o e; rw [e'] at ha; cases ha
  · cases e : B.get? a with
    | none => rfl
    | some o => have := T.base a o e; rw [this] at ha; cases ha

theorem mu_upd {a b : Addr} {ob : Ob} : mu F (upd σ a ob) b ↔ (b = a ∨ mu F σ b) := by
  unfold mu upd
  by_cases e : b = a
  · simp [e]
  · simp [e]

theorem Step.newOwn {h h' : Heap} {a : Addr} {ob : Ob} (hk : ∀ b o, h.get? b = some o → h'.get? b = some o) (ha : h.get? a = none) : Step (mu F σ) F.R h (mu F (upd σ a ob)) F.R h' :=
  ⟨⟨fun b o e _ => ⟨o, hk b o e, .inl rfl⟩, fun b o e x => (mu_upd.mp x).elim (fun q => by rw [q, ha] at e; cases e) id, fun _ _ _ x => x⟩, fun b o e => ⟨o, hk b o e⟩, fun _ x => mu_upd.mpr (.inr x)⟩

/-- a new list of this frame -/
theorem St.newOwn {h' : Heap} {t : Nat} {a : Addr} {ob : Ob} (T : St B F ρ σ s) (hk : ∀ b o, s.heap.get? b = some o → h'.get? b = some o) (ha : s.heap.get? a = none)
    (hob : DenOb (mu F (upd σ a ob)) F.R h' ob a) : St B F ρ (upd σ a ob) { s with heap := h', toks := t } := by
  have S := Step.newOwn (F := F) (σ := σ) (ob := ob) hk ha
  have T' := T.ext (t := t) hk
  obtain ⟨f1, f2, f3, f4, f5⟩ := T.fresh ha
  refine ⟨T'.base, T'.frames, T'.keep, ?_, T'.cex, ?_, T'.RA, T'.sh⟩
  · obtain ⟨m, hn, hv⟩ := T.loc
    refine ⟨m, hn.keeps hk, fun x V e => ?_⟩
    obtain ⟨v, hv, hd⟩ := hv x V e
    exact ⟨v, hv.imp id (fun ⟨a, c, b, d⟩ => ⟨a, c, b, d.keeps hk⟩), hd.step S⟩
  · intro b ob' e
    unfold upd at e
    by_cases q : b = a
    · simp only [q, if_true, Option.some.injEq] at e; subst e; subst q
      exact ⟨f4, f5, f2, hob⟩
    · simp only [q, if_false] at e
      obtain ⟨h1, h2, h3, h4⟩ := T.led b ob' e
      exact ⟨h1, h2, h3, h4.step S fun o e => hk _ _ e⟩

theorem get_none_size (h : Heap) (k : Nat) : h.get? (h.objs.size + k) = none := Heap.get?_none_of_le (Nat.le_add_right _ _)
theorem get_none_size0 (h : Heap) : h.get? h.objs.size = none := Heap.get?_none_of_le (Nat.le_refl _)

theorem push_ext {h : Heap} {o : Obj} : ∀ b o', h.get? b = some o' → (h.push o).get? b = some o' := fun _ _ e => Heap.get?_push_of_some _ e

-- displays
theorem Ev.tup {es : List Expr} {k : Nat} {p : Pos} (h : EvL prog w B F es ρ σ X fun vs σ₁ => vs.length ≤ 10 ∧ Q (.tup vs) σ₁) : Ev prog w B F (.Tuple es k p) ρ σ X Q := fun s T => by
  refine wpAny_Tuple (wpAny_mono (h p s T) (fun us s₁ ⟨Vs, σ₁, T₁, S₁, D₁, hl, h₁⟩ => ?_) fun _ _ x => x)
  have hlen : ∀ {Vs : List V} {us : List Value}, DenL (mu F σ₁) F.R s₁.heap Vs us → us.length = Vs.length := by
    intro Vs
    induction Vs with
    | nil => intro us d; simp only [DenL] at d; simp [d]
    | cons v r ih => intro us d; simp only [DenL] at d; obtain ⟨u, us', rfl, _, d2⟩ := d; simp [ih d2]
  have fz := get_none_size0 s₁.heap
  obtain ⟨f1, f2, _⟩ := T₁.fresh fz
  refine ⟨by rw [hlen D₁]; exact Nat.le_trans hl (by rw [sizeLine]; decide), .tup Vs, σ₁, T₁.ext push_ext, S₁.trans (Step.ext push_ext), ?_, h₁⟩
  simp only [Den]
  exact ⟨_, us, rfl, ⟨_, Heap.get?_push_size _ rfl, rfl, 0, rfl⟩, f1, f2, D₁.step (Step.ext push_ext)⟩

theorem denL_len {D R : Addr → Prop} {h : Heap} : ∀ {Vs : List V} {us : List Value}, DenL D R h Vs us → us.length = Vs.length
  | [], us, d => by simp only [DenL] at d; simp [d]
  | v :: r, us, d => by simp only [DenL] at d; obtain ⟨u, us', rfl, _, d2⟩ := d; simp [denL_len d2]

theorem Ev.lst {es : List Expr} {p : Pos} (h : EvL prog w B F es ρ σ X fun vs σ₁ => vs.length ≤ 10 ∧ ∃ xs, intsOf vs = some xs ∧ Q (.lst xs) σ₁) : Ev prog w B F (.List es p) ρ σ X Q := fun s T => by
  refine wpAny_List (wpAny_mono (h p s T) (fun us s₁ ⟨Vs, σ₁, T₁, S₁, D₁, hl, xs, hx, h₁⟩ => ?_) fun _ _ x => x)
  have fz := get_none_size0 s₁.heap
  obtain ⟨f1, f2, _⟩ := T₁.fresh fz
  refine ⟨by rw [denL_len D₁]; exact Nat.le_trans hl (by rw [sizeLine]; decide), .lst xs, σ₁, T₁.ext push_ext, S₁.trans (Step.ext push_ext), ?_, h₁⟩
  simp only [Den]
  exact ⟨_, us, rfl, ⟨_, Heap.get?_push_size _ rfl, rfl, 0, rfl⟩, intsOf_are hx D₁, f1, f2⟩
theorem Ev.lstO {es : List Expr} {p : Pos} (h : EvL prog w B F es ρ σ X fun vs σ₁ => vs.length ≤ 10 ∧ ∃ xs, intsOf vs = some xs ∧ ∀ a, σ₁ a = none → Q (.own a) (upd σ₁ a (.li xs))) : Ev prog w B F (.List es p) ρ σ X Q := fun s T => by
  refine wpAny_List (wpAny_mono (h p s T) (fun us s₁ ⟨Vs, σ₁, T₁, S₁, D₁, hl, xs, hx, h₁⟩ => ?_) fun _ _ x => x)
  have fz := get_none_size0 s₁.heap
  obtain ⟨f1, f2, f3, _⟩ := T₁.fresh fz
  refine ⟨by rw [denL_len D₁]; exact Nat.le_trans hl (by rw [sizeLine]; decide), .own s₁.heap.objs.size, _, T₁.newOwn (ob := .li xs) push_ext fz ⟨us, 0, Heap.get?_push_size _ rfl, intsOf_are hx D₁⟩, S₁.trans (Step.newOwn push_ext fz), by simp [Den], h₁ _ f3⟩
theorem Ev.lvO {es : List Expr} {p : Pos} (h : EvL prog w B F es ρ σ X fun vs σ₁ => vs.length ≤ 10 ∧ ∀ a, σ₁ a = none → Q (.own a) (upd σ₁ a (.lv vs))) : Ev prog w B F (.List es p) ρ σ X Q := fun s T => by
  refine wpAny_List (wpAny_mono (h p s T) (fun us s₁ ⟨Vs, σ₁, T₁, S₁, D₁, hl, h₁⟩ => ?_) fun _ _ x => x)
  have fz := get_none_size0 s₁.heap
  obtain ⟨f1, f2, f3, _⟩ := T₁.fresh fz
  refine ⟨by rw [denL_len D₁]; exact Nat.le_trans hl (by rw [sizeLine]; decide), .own s₁.heap.objs.size, _, T₁.newOwn (ob := .lv Vs) push_ext fz ⟨us, 0, Heap.get?_push_size _ rfl, D₁.step (Step.newOwn push_ext fz)⟩, S₁.trans (Step.newOwn push_ext fz), by simp [Den], h₁ _ f3⟩

-- items
theorem op_idx {x y : Expr} {V : V} {xs : List Int} {i : Int} (r : Rd σ V xs) (h0 : 0 ≤ i) (h1 : i < xs.length) (h2 : xs.length < 2 ^ 62) (h : Q (.int (xs.getD i.toNat 0)) σ)
    (hs : ∀ l k u, subscripted y false (.ref l) (.int k u) = operate [.ref l, .int k u] (getItem (.ref l) (.int k u)) := by intro _ _ _; with_unfolding_all rfl) :
    Op2 prog w B F (subscriptTail x y) V (.int i) ρ σ X Q := fun u v s T a b => by
  obtain ⟨t, rfl⟩ := den_int b
  obtain ⟨l, items, rfl, hl, hi⟩ := Rd.list T a r
  exact item_anyK hl hi h0 h1 (by lia) (fun t => done0 T .i h) (hs _ _ _)
theorem op_idxn {x y : Expr} {V : V} {xs : List Int} {i : Int} (r : Rd σ V xs) (h0 : i < 0) (h1 : -(xs.length : Int) ≤ i) (h2 : xs.length < 2 ^ 62) (h : Q (.int (xs.getD (i + xs.length).toNat 0)) σ)
    (hs : ∀ l k u, subscripted y false (.ref l) (.int k u) = operate [.ref l, .int k u] (getItem (.ref l) (.int k u)) := by intro _ _ _; with_unfolding_all rfl) :
    Op2 prog w B F (subscriptTail x y) V (.int i) ρ σ X Q := fun u v s T a b => by
  obtain ⟨t, rfl⟩ := den_int b
  obtain ⟨l, items, rfl, hl, hi⟩ := Rd.list T a r
  have hlen := hi.length
  have hj : (i + xs.length).toNat < xs.length := by lia
  obtain ⟨tk, hg⟩ := hi.get (i + xs.length).toNat (xs.getD (i + xs.length).toNat 0) (by rw [List.getD_eq_getElem?_getD, List.getElem?_eq_getElem hj]; rfl)
  exact tail_any hl.typeIs slot_list_getitem.lookup (wpAny_getItem_list_neg hl h0 (by rw [List.size_toArray, hlen]; exact h1) (by lia) (by rw [List.size_toArray, hlen, List.getElem?_toArray]; exact hg) (done0 T .i h)) (hs _ _ _)
theorem denL_get {D R : Addr → Prop} {h : Heap} : ∀ {Vs : List V} {us : List Value} {j : Nat} {V : V}, DenL D R h Vs us → Vs[j]? = some V → ∃ u, us[j]? = some u ∧ Den D R h V u
  | [], us, j, V, d, e => by simp at e
  | v :: r, us, j, V, d, e => by
    simp only [DenL] at d
    obtain ⟨u, us', rfl, d1, d2⟩ := d
    cases j with
    | zero => simp only [List.getElem?_cons_zero, Option.some.injEq] at e ⊢; subst e; exact ⟨u, rfl, d1⟩
    | succ j => simp only [List.getElem?_cons_succ] at e ⊢; exact denL_get d2 e
theorem op_idxt {x y : Expr} {vs : List V} {V : V} {i : Int} (h0 : 0 ≤ i) (h1 : i < 100) (hv : vs[i.toNat]? = some V) (h : Q V σ)
    (hs : ∀ l k u, subscripted y false (.ref l) (.int k u) = operate [.ref l, .int k u] (getItem (.ref l) (.int k u)) := by intro _ _ _; with_unfolding_all rfl) :
    Op2 prog w B F (subscriptTail x y) (.tup vs) (.int i) ρ σ X Q := fun u v s T a b => by
  obtain ⟨t, rfl⟩ := den_int b
  simp only [Den] at a
  obtain ⟨l, items, rfl, hl, _, _, hi⟩ := a
  obtain ⟨u, hu, du⟩ := denL_get hi hv
  have hj : i.toNat < items.length := (List.getElem?_eq_some_iff.mp hu).1
  exact item_tupleT hl (by lia) (by lia) (seqIndex_of h0 (by lia)) hu (done0 T du h) (hs _ _ _)
theorem op_idxv {x y : Expr} {b : Addr} {vs : List V} {V : V} {i : Int} (hb : σ b = some (.lv vs)) (h0 : 0 ≤ i) (h1 : i < 100) (hv : vs[i.toNat]? = some V) (h : Q V σ)
    (hs : ∀ l k u, subscripted y false (.ref l) (.int k u) = operate [.ref l, .int k u] (getItem (.ref l) (.int k u)) := by intro _ _ _; with_unfolding_all rfl) :
    Op2 prog w B F (subscriptTail x y) (.own b) (.int i) ρ σ X Q := fun u v s T a b => by
  obtain ⟨t, rfl⟩ := den_int b
  simp only [Den] at a
  subst a
  obtain ⟨_, _, _, items, n, ha, hi⟩ := T.led _ _ hb
  obtain ⟨u, hu, du⟩ := denL_get hi hv
  have hl : s.heap.IsList _ (List.toArray items) := ⟨_, ha, rfl, n, rfl⟩
  exact tail_any hl.typeIs slot_list_getitem.lookup (wpAny_getItem_list hl h0 (by lia) (by simpa using hu) (done0 T du h)) (hs _ _ _)

-- slices
end
inductive GotP (B : Heap) (F : FC) (ρ : Rho) (σ : Led) (h : Heap) (Q : Option Int → Led → Prop) (v : Value) (s' : Shared) : Prop
  | mk (k : Option Int) (σ' : Led) (T : St B F ρ σ' s') (S : Step (mu F σ) F.R h (mu F σ') F.R s'.heap) (p : IsPart v k) (q : Q k σ')
variable (prog : Program) (w : World) (B : Heap)
noncomputable def EvP (F : FC) (e : Option Expr) (ρ : Rho) (σ : Led) (X : Addr → Prop) (Q : Option Int → Led → Prop) : Prop :=
  ∀ s, St B F ρ σ s → wpAny (model prog w) F.A (evalPart e F.env)
    (GotP B F ρ σ s.heap Q)
    (Xs B (F.env :: F.outer) F.h0 F.s0 X) s
section
variable {prog : Program} {w : World} {B : Heap} {K : Frag} {F : FC} {ρ : Rho} {σ : Led} {s : Shared} {X : Addr → Prop} {Q : V → Led → Prop} {P : Bool → Led → Prop}
theorem EvP.no {Q : Option Int → Led → Prop} (h : Q none σ) : EvP prog w B F none ρ σ X Q := fun s T => by
  rw [evalPart_none]; exact wpAny_pure ⟨none, σ, T, Step.refl .., .none, h⟩
theorem EvP.so {Q : Option Int → Led → Prop} {e : Expr} (h : Ev prog w B F e ρ σ X fun V σ₁ => ∃ i, V = .int i ∧ Q (some i) σ₁) : EvP prog w B F (some e) ρ σ X Q := fun s T => by
  rw [evalPart_some]
  refine wpAny_mono (h s T) (fun v s₁ ⟨V, σ₁, T₁, S₁, D₁, i, e, q⟩ => ?_) fun _ _ x => x
  subst e
  obtain ⟨t, rfl⟩ := den_int D₁
  exact ⟨_, σ₁, T₁, S₁, .int i t, q⟩

theorem Ev.slice {value : Expr} {lo hi : Option Expr} {p p' : Pos}
    (h : Ev prog w B F value ρ σ X fun V σ₁ => EvP prog w B F lo ρ σ₁ X fun a σ₂ => EvP prog w B F hi ρ σ₂ X fun b σ₃ => ∃ xs, Rd σ₃ V xs ∧ xs.length < 2 ^ 20 ∧
      Q (.lst ((xs.drop (kms_lo a xs.length)).take (kms_hi b xs.length - kms_lo a xs.length))) σ₃)
    (ht : ∀ o r, letTemporaryGo value o r = pure () := by intro _ _; rfl) :
    Ev prog w B F (.Subscript value (.Slice lo hi none p) p') ρ σ X Q := fun s T => by
  refine wpAny_Subscript_list_slice (wpAny_mono (h s T) (fun u s₁ ⟨V, σ₁, T₁, S₁, D₁, h₁⟩ => wpAny_mono (h₁ s₁ T₁) (fun vl s₂ ⟨a, σ₂, T₂, S₂, P₂, h₂⟩ => wpAny_mono (h₂ s₂ T₂) (fun vu s₃ ⟨b, σ₃, T₃, S₃, P₃, xs, r, hz, h₃⟩ => ?_) fun _ _ x => x) fun _ _ x => x) fun _ _ x => x) ht
  obtain ⟨l, items, rfl, hl, hi⟩ := Rd.list T₃ ((D₁.step S₂).step S₃) r
  have hlen := hi.length
  refine ⟨l, _, a, b, rfl, hl, by rw [List.size_toArray, hlen, sizeLine]; lia, P₂, P₃, ?_⟩
  have f0 : s₃.heap.get? (s₃.heap.objs.size + 1) = none := get_none_size _ 1
  obtain ⟨f1, f2, _⟩ := T₃.fresh f0
  have hk : ∀ c o, s₃.heap.get? c = some o → ((s₃.heap.push { cls := .type "slice", data := .fields #[vl, vu, .none] }).push { cls := .type "list", data := .seq (slicePick (List.toArray items) a b none) }).get? c = some o := fun c o e => push_ext _ _ (push_ext _ _ e)
  refine ⟨_, σ₃, T₃.ext hk, ((S₁.trans S₂).trans S₃).trans (Step.ext hk), ?_, h₃⟩
  have hz := kssn_any (lo := a) (hi := b) hi
  simp only [Den]
  refine ⟨_, (slicePick (List.toArray items) a b none).toList, rfl, ⟨_, Heap.get?_push_at (by rw [Heap.size_push]) rfl, rfl, 0, rfl⟩, hz, f1, f2⟩
end
end Mine
end

-- part cE
section
open PySem PySem.W PyProof.Rows PySem.Calls
namespace Mine
section
variable {prog : Program} {w : World} {B : Heap} {K : Frag} {F : FC} {ρ : Rho} {σ : Led} {s : Shared} {X : Addr → Prop} {Q : V → Led → Prop} {P : Bool → Led → Prop} {d : Nat}
  {N : Rho → Led → Prop} {Rt : V → Led → Prop} {E : Value → Shared → Prop} {A : Around} {M : Model}

theorem funFrames_chg {h h' base : Heap} (k : ∀ b o, h.get? b = some o → (∀ vs, o.data ≠ .fields vs) → ∃ o', h'.get? b = some o' ∧ ∀ vs, o'.data ≠ .fields vs) : ∀ {l : List Env}, h.FunFrames base l → h'.FunFrames base l
  | [], _ => trivial
  | env :: rest, hl => by
    obtain ⟨hk, ⟨L, o, hf, hn, ho, hd⟩, hr⟩ := hl
    obtain ⟨o', ho', hd'⟩ := k L o ho hd
    exact ⟨hk, ⟨L, o', hf, hn, ho', hd'⟩, funFrames_chg k hr⟩

def Ki (F : FC) (x : Str) : Prop := F.env.kindOf x = some .local ∨ (F.env.kindOf x = some .cell ∧ ∃ c, F.env.cells.lookup x = some c)

theorem ns_get {h : Heap} {L : Addr} {m : Str → Option Value} (n : h.Ns L m) : ∃ o es ep, h.get? L = some o ∧ o.data = .dict es ep := let ⟨o, es, ep, a, b, _⟩ := n; ⟨o, es, ep, a, b⟩

theorem St.store (O : FOk B d F) (T : St B F ρ σ s) {x : Str} {V : V} {v : Value} (hk : Ki F x) (D : Den (mu F σ) F.R s.heap V v) {Q : Unit → Shared → Prop}
    (h : ∀ s', St B F (setv ρ x V) σ s' → Step (mu F σ) F.R s.heap (mu F σ) F.R s'.heap → Q () s') : wpAny M A (storeName F.env x v) Q E s := by
  obtain ⟨m, hn, hv⟩ := T.loc
  obtain ⟨oL, esL, epL, hL, hLd⟩ := ns_get hn
  rcases hk with hk | ⟨hk, c, hc⟩
  · refine wpAny_storeName_local hk hn (fun h' hn' hs => ?_) (by rw [O.hk]; rfl)
    obtain ⟨oL', esL', epL', hL', hLd'⟩ := ns_get hn'
    have S : Step (mu F σ) F.R s.heap (mu F σ) F.R h' := ⟨⟨fun b o e nd => ⟨o, (hs.2 b (fun q => nd (.inr (.inl q)))).trans e, .inl rfl⟩, fun _ _ _ x => x, fun _ _ _ x => x⟩, fun b o e => by
      by_cases q : b = F.env.locals
      · exact ⟨_, q ▸ hL'⟩
      · exact ⟨o, (hs.2 b q).trans e⟩, fun _ x => x⟩
    refine h _ ⟨?_, ?_, ?_, ⟨_, hn', ?_⟩, ?_, ?_, ?_, ?_⟩ S
    · intro b o e
      refine (hs.2 b (fun q => ?_)).trans (T.base b o e)
      subst q
      rw [O.BL] at e; cases e
    · refine funFrames_chg (fun b o e nf => ?_) T.frames
      by_cases q : b = F.env.locals
      · subst q; exact ⟨oL', hL', fun vs z => by rw [hLd'] at z; cases z⟩
      · exact ⟨o, (hs.2 b q).trans e, nf⟩
    · intro b o e
      obtain ⟨o', e', q⟩ := T.keep b o e
      exact ⟨o', (hs.2 b (fun z => by rw [z, O.h0L] at e; cases e)).trans e', q⟩
    · intro y W e
      unfold setv at e
      by_cases q : y = x
      · simp only [q, if_true, Option.some.injEq] at e; subst e; subst q
        exact ⟨v, .inl ⟨hk, by simp⟩, D.step S⟩
      · simp only [q, if_false] at e
        obtain ⟨u, hu, hd⟩ := hv y W e
        refine ⟨u, ?_, hd.step S⟩
        rcases hu with ⟨a, b⟩ | ⟨a, c, b, b'⟩
        · exact .inl ⟨a, by simp [q, b]⟩
        · refine .inr ⟨a, c, b, b'.sameBut hs (fun z => ?_)⟩
          obtain ⟨oc, ec, dc⟩ := b'
          rw [z, hL] at ec; cases ec; rw [hLd] at dc; cases dc
    · intro y c a b
      obtain ⟨u, b'⟩ := T.cex y c a b
      refine ⟨u, b'.sameBut hs (fun z => ?_)⟩
      obtain ⟨oc, ec, dc⟩ := b'
      rw [z, hL] at ec; cases ec; rw [hLd] at dc; cases dc
    · intro a ob e
      obtain ⟨h1, h2, h3, h4⟩ := T.led a ob e
      refine ⟨h1, h2, h3, h4.step S fun o eo => (hs.2 a (fun z => ?_)).trans eo⟩
      rw [z] at h3; exact h3 O.RL
    · intro b e
      obtain ⟨o, q⟩ := T.RA b e
      by_cases z : b = F.env.locals
      · subst z; exact ⟨_, hL'⟩
      · exact ⟨o, (hs.2 b z).trans q⟩
    · obtain ⟨h1, t, e⟩ := T.sh; exact ⟨h', s.toks + 1, by rw [e]⟩
  · obtain ⟨v0, hcell⟩ := T.cex x c hk hc
    refine wpAny_storeName_cell O.hk hk hc hcell (fun h' hc' hs => ?_)
    obtain ⟨oc0, ec0, dc0⟩ := hcell
    obtain ⟨oc', ec', dc'⟩ := id hc'
    have cL : F.env.locals ≠ c := fun q => by rw [← q, hL] at ec0; cases ec0; rw [hLd] at dc0; cases dc0
    have S : Step (mu F σ) F.R s.heap (mu F σ) F.R h' := ⟨⟨fun b o e nd => ⟨o, (hs.2 b (fun q => nd (.inr (.inr ⟨x, hk, q ▸ hc⟩)))).trans e, .inl rfl⟩, fun _ _ _ x => x, fun _ _ _ x => x⟩, fun b o e => by
      by_cases q : b = c
      · exact ⟨_, q ▸ ec'⟩
      · exact ⟨o, (hs.2 b q).trans e⟩, fun _ x => x⟩
    have hz := O.h0c x c hk hc
    refine h _ ⟨?_, ?_, ?_, ⟨m, hn.sameBut hs cL, ?_⟩, ?_, ?_, ?_, ?_⟩ S
    · intro b o e
      exact (hs.2 b (fun q => by subst q; rw [hz.2] at e; cases e)).trans (T.base b o e)
    · refine funFrames_chg (fun b o e nf => ?_) T.frames
      by_cases q : b = c
      · subst q; exact ⟨oc', ec', fun vs z => by rw [dc'] at z; cases z⟩
      · exact ⟨o, (hs.2 b q).trans e, nf⟩
    · intro b o e
      obtain ⟨o', e', q⟩ := T.keep b o e
      exact ⟨o', (hs.2 b (fun z => by rw [z, hz.1] at e; cases e)).trans e', q⟩
    · intro y W e
      unfold setv at e
      by_cases q : y = x
      · simp only [q, if_true, Option.some.injEq] at e; subst e; subst q
        exact ⟨v, .inr ⟨.inl hk, c, hc, hc'⟩, D.step S⟩
      · simp only [q, if_false] at e
        obtain ⟨u, hu, hd⟩ := hv y W e
        refine ⟨u, ?_, hd.step S⟩
        rcases hu with ⟨a, b⟩ | ⟨a, c', b, b'⟩
        · exact .inl ⟨a, b⟩
        · exact .inr ⟨a, c', b, b'.sameBut hs (fun z => q (O.cinj y x c (z ▸ b) hc))⟩
    · intro y c1 a b
      by_cases z : c1 = c
      · subst z; exact ⟨_, hc'⟩
      · obtain ⟨u, b'⟩ := T.cex y c1 a b
        exact ⟨u, b'.sameBut hs z⟩
    · intro a ob e
      obtain ⟨h1, h2, h3, h4⟩ := T.led a ob e
      refine ⟨h1, h2, h3, h4.step S fun o eo => (hs.2 a (fun z => ?_)).trans eo⟩
      subst z
      cases ob with
      | li xs => obtain ⟨items, n, q, _⟩ := h4; rw [ec0] at q; cases q; cases dc0
      | lv xs => obtain ⟨items, n, q, _⟩ := h4; rw [ec0] at q; cases q; cases dc0
      | tb l => obtain ⟨ps, q, _⟩ := h4; rw [ec0] at q; cases q; cases dc0
    · intro b e
      obtain ⟨o, q⟩ := T.RA b e
      by_cases z : b = c
      · subst z; exact ⟨_, ec'⟩
      · exact ⟨o, (hs.2 b z).trans q⟩
    · obtain ⟨h1, t, e⟩ := T.sh; exact ⟨h', s.toks, by rw [e]⟩

-- statements
theorem Ex.nil (h : N ρ σ) : Ex prog w B F [] ρ σ X N Rt := fun s T => wpAny_execs_nil ⟨ρ, σ, T, Step.refl .., h⟩
theorem Ex.cons {st : Stmt} {rest : List Stmt} (h : Ex1 prog w B F st ρ σ X (fun ρ₁ σ₁ => Ex prog w B F rest ρ₁ σ₁ X N Rt) Rt) : Ex prog w B F (st :: rest) ρ σ X N Rt := fun s T => by
  refine wpAny_execs_cons (wpAny_mono (h s T) (fun f s₁ h₁ => ?_) fun _ _ x => x)
  cases f with
  | next =>
    obtain ⟨ρ₁, σ₁, T₁, S₁, h₁⟩ := h₁
    refine wpAny_mono (h₁ s₁ T₁) (fun f s₂ h₂ => ?_) fun _ _ x => x
    cases f with
    | next => obtain ⟨ρ₂, σ₂, T₂, S₂, h₂⟩ := h₂; exact ⟨ρ₂, σ₂, T₂, S₁.trans S₂, h₂⟩
    | ret v => obtain ⟨ρ₂, V, σ₂, T₂, S₂, D₂, h₂⟩ := h₂; exact ⟨ρ₂, V, σ₂, T₂, S₁.trans S₂, D₂, h₂⟩
    | _ => exact h₂
  | ret v => exact h₁
  | _ => exact h₁
theorem Ex1.mono {st : Stmt} {N' : Rho → Led → Prop} {Rt' : V → Led → Prop} (h : Ex1 prog w B F st ρ σ X N Rt) (hn : ∀ ρ σ, N ρ σ → N' ρ σ) (hr : ∀ V σ, Rt V σ → Rt' V σ) : Ex1 prog w B F st ρ σ X N' Rt' := fun s T =>
  wpAny_mono (h s T) (fun f s₁ h₁ => by
    cases f with
    | next => obtain ⟨ρ₂, σ₂, T₂, S₂, h₂⟩ := h₁; exact ⟨ρ₂, σ₂, T₂, S₂, hn _ _ h₂⟩
    | ret v => obtain ⟨ρ₂, V, σ₂, T₂, S₂, D₂, h₂⟩ := h₁; exact ⟨ρ₂, V, σ₂, T₂, S₂, D₂, hr _ _ h₂⟩
    | _ => exact h₁) fun _ _ x => x
theorem Ex.mono {st : List Stmt} {N' : Rho → Led → Prop} {Rt' : V → Led → Prop} (h : Ex prog w B F st ρ σ X N Rt) (hn : ∀ ρ σ, N ρ σ → N' ρ σ) (hr : ∀ V σ, Rt V σ → Rt' V σ) : Ex prog w B F st ρ σ X N' Rt' := fun s T =>
  wpAny_mono (h s T) (fun f s₁ h₁ => by
    cases f with
    | next => obtain ⟨ρ₂, σ₂, T₂, S₂, h₂⟩ := h₁; exact ⟨ρ₂, σ₂, T₂, S₂, hn _ _ h₂⟩
    | ret v => obtain ⟨ρ₂, V, σ₂, T₂, S₂, D₂, h₂⟩ := h₁; exact ⟨ρ₂, V, σ₂, T₂, S₂, D₂, hr _ _ h₂⟩
    | _ => exact h₁) fun _ _ x => x

theorem Ex1.ret {e : Expr} {p : Pos} (h : Ev prog w B F e ρ σ X Rt) : Ex1 prog w B F (.Return (some e) p) ρ σ X N Rt := fun s T =>
  wpAny_Return_some (wpAny_mono (h s T) (fun v s₁ ⟨V, σ₁, T₁, S₁, D₁, h₁⟩ => ⟨ρ, V, σ₁, T₁, S₁, D₁, h₁⟩) fun _ _ x => x)
theorem Ex1.asg (O : FOk B d F) {x : Str} {p p' : Pos} {e : Expr} (h : Ev prog w B F e ρ σ X fun V σ₁ => N (setv ρ x V) σ₁) (hk : Ki F x := by exact Or.inl (by rfl))
    (hs : swapsWith e (some (.Name x p')) p.line F.env = pure false := by rfl) : Ex1 prog w B F (.Assign [.Name x p'] e p) ρ σ X N Rt := fun s T => by
  refine wpAny_Assign_Name (wpAny_mono (h s T) (fun v s₁ ⟨V, σ₁, T₁, S₁, D₁, h₁⟩ => ?_) fun _ _ x => x) hs
  exact T₁.store O hk D₁ fun s' T' S' => ⟨_, σ₁, T', S₁.trans S', h₁⟩
theorem Ex1.aug (O : FOk B d F) {x : Str} {p p' : Pos} {e : Expr} {op : Operator} {V0 : V} (hx : ρ x = some V0) (h : Ev prog w B F e ρ σ X fun V σ₁ => Op2 prog w B F (inplaceOp op) V0 V ρ σ₁ X fun U σ₂ => N (setv ρ x U) σ₂) (hk : Ki F x := by exact Or.inl (by rfl)) :
    Ex1 prog w B F (.AugAssign (.Name x p') op e p) ρ σ X N Rt := fun s T => by
  refine wpAny_AugAssign_Name ?_
  have step : ∀ u, Den (mu F σ) F.R s.heap V0 u → wpAny (model prog w) F.A (eval e F.env) (fun v s₂ => wpAny (model prog w) F.A (inplaceOp op u v) (fun r s₃ => wpAny (model prog w) F.A (storeName F.env x r) (fun _ => Lv B F σ s.heap N Rt .next) (Xs B (F.env :: F.outer) F.h0 F.s0 X) s₃) (Xs B (F.env :: F.outer) F.h0 F.s0 X) s₂) (Xs B (F.env :: F.outer) F.h0 F.s0 X) s := fun u du => by
    refine wpAny_mono (h s T) (fun v s₁ ⟨V, σ₁, T₁, S₁, D₁, h₁⟩ => ?_) fun _ _ x => x
    refine wpAny_mono (h₁ u v s₁ T₁ (du.step S₁) D₁) (fun r s₂ ⟨U, σ₂, T₂, S₂, D₂, h₂⟩ => ?_) fun _ _ x => x
    exact T₂.store O hk D₂ fun s' T' S' => ⟨_, σ₂, T', (S₁.trans S₂).trans S', h₂⟩
  obtain ⟨m, hn, hv⟩ := T.loc
  obtain ⟨u, hu, hd⟩ := hv x V0 hx
  rcases hu with ⟨hk, hm⟩ | ⟨hk | hk, c, hl, hcell⟩
  · exact wpAny_loadName_local O.hk hk hn hm (step u hd)
  · exact wpAny_loadName_cell O.hk hk hl hcell (step u hd)
  · rcases ‹Ki F x› with q | ⟨q, _⟩ <;> rw [q] at hk <;> cases hk
theorem Ex1.ife {e : Expr} {a b : List Stmt} {p : Pos} (h : Tst prog w B F e ρ σ X fun t σ₁ => if t = true then Ex prog w B F a ρ σ₁ X N Rt else Ex prog w B F b ρ σ₁ X N Rt) :
    Ex1 prog w B F (.If e a b p) ρ σ X N Rt := fun s T => by
  refine wpAny_If (wpAny_mono (h s T) (fun t s₁ ⟨σ₁, T₁, S₁, h₁⟩ => ?_) fun _ _ x => x)
  have go : ∀ {l : List Stmt}, Ex prog w B F l ρ σ₁ X N Rt → wpAny (model prog w) F.A (execs l F.env) (Lv B F σ s.heap N Rt) (Xs B (F.env :: F.outer) F.h0 F.s0 X) s₁ := fun q =>
    wpAny_mono (q s₁ T₁) (fun f s₂ h₂ => by
      cases f with
      | next => obtain ⟨ρ₂, σ₂, T₂, S₂, h₂⟩ := h₂; exact ⟨ρ₂, σ₂, T₂, S₁.trans S₂, h₂⟩
      | ret v => obtain ⟨ρ₂, V, σ₂, T₂, S₂, D₂, h₂⟩ := h₂; exact ⟨ρ₂, V, σ₂, T₂, S₁.trans S₂, D₂, h₂⟩
      | _ => exact h₂) fun _ _ x => x
  cases t with
  | false => simp only [Bool.false_eq_true, if_false] at h₁ ⊢; exact go h₁
  | true => simp only [if_true] at h₁ ⊢; exact go h₁
end
end Mine
end

-- part cF
section
open PySem PySem.W PyProof.Rows PySem.Calls
namespace Mine
section
variable {prog : Program} {w : World} {B : Heap} {K : Frag} {F : FC} {ρ : Rho} {σ : Led} {s : Shared} {X : Addr → Prop} {Q : V → Led → Prop} {P : Bool → Led → Prop} {d : Nat}
  {N : Rho → Led → Prop} {Rt : V → Led → Prop} {E : Value → Shared → Prop} {A : Around} {M : Model}

-- built-in calls
theorem OpN.of1 {f : List Value → Sem Value} {a : V} (h : Op1 prog w B F (fun u => f [u]) a ρ σ X Q) : OpN prog w B F f [a] ρ σ X Q := fun us s T D => by
  simp only [DenL] at D; obtain ⟨u, _, rfl, D, rfl⟩ := D; exact h u s T D
theorem OpN.of2 {f : List Value → Sem Value} {a b : V} (h : Op2 prog w B F (fun u v => f [u, v]) a b ρ σ X Q) : OpN prog w B F f [a, b] ρ σ X Q := fun us s T D => by
  simp only [DenL] at D; obtain ⟨u, _, rfl, D, v, _, rfl, D', rfl⟩ := D; exact h u v s T D D'

theorem bl_len {V : V} {xs : List Int} (r : Rd σ V xs) (hz : xs.length < 2 ^ 62) (h : Q (.int xs.length) σ) : OpN prog w B F (fun us => call (.builtin "len") us) [V] ρ σ X Q := .of1 fun u s T a => by
  obtain ⟨l, items, rfl, hl, hi⟩ := Rd.list T a r
  have := hi.length
  exact Calls.call_len_list hl (by rw [List.size_toArray]; lia) (doneT T (by simp [Den, this]) h)
theorem bl_abs {x : Int} (h : Q (.int (if x < 0 then -x else x)) σ) : OpN prog w B F (fun us => call (.builtin "abs") us) [.int x] ρ σ X Q := .of1 fun u s T a => by
  obtain ⟨t, rfl⟩ := den_int a
  exact call_abs_int fun u tk => doneT T .i h
theorem bl_max (O : FOk B d F) {x y : Int} (h : Q (.int (if y > x then y else x)) σ) : OpN prog w B F (fun us => call (.builtin "max") us) [.int x, .int y] ρ σ X Q := .of2 fun u v s T a b => by
  obtain ⟨t, rfl⟩ := den_int a
  obtain ⟨t', rfl⟩ := den_int b
  exact max_two_ints O.hh fun h' tk hk => done T hk (by split <;> simp [Den]) h
theorem bl_min (O : FOk B d F) {x y : Int} (h : Q (.int (if y < x then y else x)) σ) : OpN prog w B F (fun us => call (.builtin "min") us) [.int x, .int y] ρ σ X Q := .of2 fun u v s T a b => by
  obtain ⟨t, rfl⟩ := den_int a
  obtain ⟨t', rfl⟩ := den_int b
  exact min_two_ints O.hh fun h' tk hk => done T hk (by split <;> simp [Den]) h

theorem Ev.callB {fe : Expr} {e : Expr} {rest : List Expr} {p : Pos}
    (h : Ev prog w B F fe ρ σ X fun vf σ₁ => ∃ id, vf = .raw (.builtin id) ∧ EvL prog w B F (e :: rest) ρ σ₁ X fun vs σ₂ => OpN prog w B F (fun us => call (.builtin id) us) vs ρ σ₂ X Q)
    (he : starEach (e :: rest) F.env = (false, eval e F.env) :: starEach rest F.env := by rfl)
    (hplain : (backTo p (starEach rest F.env)).any (·.1) = false := by rfl)
    (hc : eval (.Call fe (e :: rest) [] p) F.env = (do callWith p (← eval fe F.env) [] (backTo p (starEach (e :: rest) F.env)) (backToKw p (keywordEach [] F.env))) := by rfl) :
    Ev prog w B F (.Call fe (e :: rest) [] p) ρ σ X Q := fun s T => by
  refine Call_ (wpAny_mono (h s T) (fun v s₁ ⟨V, σ₁, T₁, S₁, D₁, id, eV, h₁⟩ => ?_) fun _ _ x => x) hc
  subst eV
  simp only [Den] at D₁
  subst D₁
  refine callWith_builtin1 (wpAny_mono (h₁ p s₁ T₁) (fun vs s₂ ⟨Vs, σ₂, T₂, S₂, D₂, h₂⟩ => ?_) fun _ _ x => x) he hplain
  exact wpAny_mono (h₂ vs s₂ T₂ D₂) (fun _ _ ⟨V, σ', T', S', D', q⟩ => ⟨V, σ', T', (S₁.trans S₂).trans S', D', q⟩) fun _ _ x => x

def FnK (K : Frag) (q : Addr) : Prop := ∃ oc od fd sl, K.lookup q = some ⟨oc, od, .func fd, sl⟩
theorem FnK.at (G : GOk B K) {q : Addr} (h : FnK K q) (T : St B F ρ σ s) : FnAt q s.heap := let ⟨oc, od, fd, sl, e⟩ := h; ⟨oc, od, fd, sl, T.base _ _ (G.kin _ _ e)⟩

theorem Ev.callF (G : GOk B K) {fe : Expr} {e : Expr} {rest : List Expr} {p : Pos}
    (h : Ev prog w B F fe ρ σ X fun vf σ₁ => ∃ q, vf = .fn q ∧ FnK K q ∧ EvL prog w B F (e :: rest) ρ σ₁ X fun vs σ₂ => OpN prog w B F (fun us => call (.ref q) us) vs ρ σ₂ X Q)
    (he : starEach (e :: rest) F.env = (false, eval e F.env) :: starEach rest F.env := by rfl)
    (hplain : (backTo p (starEach rest F.env)).any (·.1) = false := by rfl)
    (hc : eval (.Call fe (e :: rest) [] p) F.env = (do callWith p (← eval fe F.env) [] (backTo p (starEach (e :: rest) F.env)) (backToKw p (keywordEach [] F.env))) := by rfl) :
    Ev prog w B F (.Call fe (e :: rest) [] p) ρ σ X Q := fun s T => by
  refine Call_ (wpAny_mono (h s T) (fun v s₁ ⟨V, σ₁, T₁, S₁, D₁, q, eV, hq, h₁⟩ => ?_) fun _ _ x => x) hc
  subst eV
  simp only [Den] at D₁
  subst D₁
  refine callWith_F (hq.at G T₁) (wpAny_mono (h₁ p s₁ T₁) (fun vs s₂ ⟨Vs, σ₂, T₂, S₂, D₂, h₂⟩ => ⟨hq.at G T₂, ?_⟩) fun _ _ x => x) he hplain
  exact wpAny_mono (h₂ vs s₂ T₂ D₂) (fun _ _ ⟨V, σ', T', S', D', q⟩ => ⟨V, σ', T', (S₁.trans S₂).trans S', D', q⟩) fun _ _ x => x

theorem Ev.bitlen {o : Expr} {ap p : Pos} {pl : Sem Bool} (h : Ev prog w B F o ρ σ X fun V σ₁ => ∃ i, V = .int i ∧ Q (.int (Builtin.Int.intBits i)) σ₁)
    (he : eval (.Call (.Attribute o "bit_length" ap) [] [] p) F.env = (do
      let ov ← eval o F.env
      standAt ap.atName
      let (f, first) ← holding [ov] (getMethod ov "bit_length" pl)
      callWith p f first (backTo p (starEach [] F.env)) []) := by rfl) :
    Ev prog w B F (.Call (.Attribute o "bit_length" ap) [] [] p) ρ σ X Q := fun s T => by
  refine MethodCall_ (wpAny_mono (h s T) (fun v s₁ ⟨V, σ₁, T₁, S₁, D₁, i, eV, h₁⟩ => ?_) fun _ _ x => x) he
  subst eV
  obtain ⟨t, rfl⟩ := den_int D₁
  refine getMethod_int_bit_length (callWith_method0 (call_int_bit_length ?_))
  obtain ⟨V, σ', a, b, c, d⟩ := doneT (t := s₁.toks + 1) T₁ (.i (t := s₁.toks)) h₁
  exact ⟨V, σ', a, S₁.trans b, c, d⟩

-- one list of the frame gets another content
theorem St.setOwn {h' : Heap} {t : Nat} {a : Addr} {ob ob' : Ob} (T : St B F ρ σ s) (ha : σ a = some ob) (hs : Heap.SameBut a s.heap h') (hne : ∃ o, h'.get? a = some o ∧ ((∀ vs, o.data ≠ .fields vs) ∨ ∃ o0 vs, s.heap.get? a = some o0 ∧ o0.data = .fields vs))
    (hob : Step (mu F σ) F.R s.heap (mu F (upd σ a ob')) F.R h' → DenOb (mu F (upd σ a ob')) F.R h' ob' a) :
    St B F ρ (upd σ a ob') { s with heap := h', toks := t } ∧ Step (mu F σ) F.R s.heap (mu F (upd σ a ob')) F.R h' := by
  have hma : mu F σ a := .inl (by rw [ha]; simp)
  have S : Step (mu F σ) F.R s.heap (mu F (upd σ a ob')) F.R h' :=
    ⟨⟨fun b o e nd => ⟨o, (hs.2 b (fun q => nd (q ▸ hma))).trans e, .inl rfl⟩, fun b o e x => (mu_upd.mp x).elim (fun q => q ▸ hma) id, fun _ _ _ x => x⟩, fun b o e => by
      by_cases q : b = a
      · subst q; exact ⟨_, hne.choose_spec.1⟩
      · exact ⟨o, (hs.2 b q).trans e⟩, fun _ x => mu_upd.mpr (.inr x)⟩
  obtain ⟨g1, g2, g3, g4⟩ := T.led a ob ha
  obtain ⟨oa, ea, la⟩ : ∃ o, s.heap.get? a = some o ∧ ((∃ x n, o.data = .seq x n) ∨ ∃ x, o.data = .fields x) := by
    cases ob with
    | li xs => obtain ⟨items, n, q, _⟩ := g4; exact ⟨_, q, .inl ⟨_, n, rfl⟩⟩
    | lv xs => obtain ⟨items, n, q, _⟩ := g4; exact ⟨_, q, .inl ⟨_, n, rfl⟩⟩
    | tb l => obtain ⟨ps, q, _⟩ := g4; exact ⟨_, q, .inr ⟨_, rfl⟩⟩
  obtain ⟨m, hn, hv⟩ := T.loc
  obtain ⟨oL, esL, epL, hL, hLd⟩ := ns_get hn
  have aL : F.env.locals ≠ a := fun q => by rw [← q, hL] at ea; cases ea; rcases la with ⟨x, n, z⟩ | ⟨x, z⟩ <;> (rw [hLd] at z; cases z)
  have ca : ∀ c v, s.heap.IsCell c v → c ≠ a := fun c v ⟨o, e, dd⟩ q => by rw [q, ea] at e; cases e; rcases la with ⟨x, n, z⟩ | ⟨x, z⟩ <;> (rw [dd] at z; cases z)
  refine ⟨⟨fun b o e => (hs.2 b (fun q => by rw [q, g2] at e; cases e)).trans (T.base b o e), ?_, ?_, ⟨m, hn.sameBut hs aL, ?_⟩, ?_, ?_, ?_, ?_⟩, S⟩
  · refine funFrames_chg (fun b o e nf => ?_) T.frames
    by_cases q : b = a
    · subst q
      obtain ⟨o1, e1, q1⟩ := hne
      rcases q1 with q1 | ⟨o0, vs, e0, d0⟩
      · exact ⟨o1, e1, q1⟩
      · rw [e] at e0; cases e0; exact absurd d0 (nf vs)
    · exact ⟨o, (hs.2 b q).trans e, nf⟩
  · intro b o e
    obtain ⟨o', e', q⟩ := T.keep b o e
    exact ⟨o', (hs.2 b (fun z => by rw [z, g1] at e; cases e)).trans e', q⟩
  · intro y W e
    obtain ⟨u, hu, hd⟩ := hv y W e
    refine ⟨u, hu.imp id (fun ⟨a, c, b, b'⟩ => ⟨a, c, b, b'.sameBut hs (ca _ _ b')⟩), hd.step S⟩
  · intro y c p q
    obtain ⟨u, b'⟩ := T.cex y c p q
    exact ⟨u, b'.sameBut hs (ca _ _ b')⟩
  · intro b ob1 e
    unfold upd at e
    by_cases q : b = a
    · simp only [q, if_true, Option.some.injEq] at e; subst e; subst q
      exact ⟨g1, g2, g3, hob S⟩
    · simp only [q, if_false] at e
      obtain ⟨h1, h2, h3, h4⟩ := T.led b ob1 e
      exact ⟨h1, h2, h3, h4.step S fun o e => (hs.2 b q).trans e⟩
  · intro b e
    obtain ⟨o, q⟩ := T.RA b e
    by_cases z : b = a
    · subst z; exact ⟨_, hne.choose_spec.1⟩
    · exact ⟨o, (hs.2 b z).trans q⟩
  · obtain ⟨h1, t1, e⟩ := T.sh; exact ⟨h', t, by rw [e]⟩

theorem ints_push {x : Int} {u : Tok} : ∀ {vs : List Value} {ns : List Int}, IntsAre vs ns → IntsAre (vs ++ [.int x u]) (ns ++ [x])
  | _, _, .nil => .cons x u .nil
  | _, _, .cons n t r => .cons n t (ints_push r)

theorem denL_snoc {D R : Addr → Prop} {h : Heap} {V : V} {u : Value} (hd : Den D R h V u) : ∀ {Vs : List Mine.V} {us : List Value}, DenL D R h Vs us → DenL D R h (Vs ++ [V]) (us ++ [u])
  | [], us, d => by simp only [DenL] at d; subst d; simp only [List.nil_append, DenL]; exact ⟨u, [], rfl, hd, rfl⟩
  | v :: r, us, d => by
    simp only [DenL] at d; obtain ⟨u', us', rfl, d1, d2⟩ := d
    simp only [List.cons_append, DenL]
    exact ⟨u', _, rfl, d1, denL_snoc hd d2⟩

theorem swN {e : Expr} (h : swapsWith e none 0 F.env = pure false) : True := trivial

theorem Ex1.append (O : FOk B d F) {x : Str} {np ap p sp : Pos} {e : Expr} {a : Addr} {pl : Sem Bool} (hx : ρ x = some (.own a)) (ha0 : ∃ ob, σ a = some ob ∧ ∀ l, ob ≠ .tb l)
    (h : Ev prog w B F e ρ σ X fun V σ₁ => ∃ xs, σ₁ a = some (.li xs) ∧ xs.length < 2 ^ 20 ∧ ∃ i, V = .int i ∧ N ρ (upd σ₁ a (.li (xs ++ [i]))))
    (he : eval (.Call (.Attribute (.Name x np) "append" ap) [e] [] p) F.env = (do
      let ov ← eval (.Name x np) F.env
      standAt ap.atName
      let (f, first) ← holding [ov] (getMethod ov "append" pl)
      callWith p f first (backTo p (starEach [e] F.env)) []) := by rfl)
    (h1 : starEach [e] F.env = (false, eval e F.env) :: starEach [] F.env := by rfl)
    (hi : interactive F.env = false := by rfl) (hs : swapsWith (.Call (.Attribute (.Name x np) "append" ap) [e] [] p) Option.none sp.line F.env = pure false := by rfl)
    (hd : (x == ("__debug__" : Str)) = false := by decide) (hcd : (x == ("__classdict__" : Str)) = false := by decide) :
    Ex1 prog w B F (.Expr (.Call (.Attribute (.Name x np) "append" ap) [e] [] p) sp) ρ σ X N Rt := fun s T => by
  refine wpAny_Expr ?_ hi hs
  refine MethodCall_ (wpAny_mono (Ev.loc (prog := prog) (w := w) (X := X) (σ := σ) (Q := fun V σ' => V = .own a ∧ σ' = σ) O hx ⟨rfl, rfl⟩ hd hcd s T) (fun v s₁ ⟨V, σ₁, T₁, S₁, D₁, eV, eσ⟩ => ?_) fun _ _ x => x) he
  subst eV; subst eσ
  simp only [Den] at D₁
  subst D₁
  obtain ⟨ob, ho, htb⟩ := ha0
  obtain ⟨oa, ea, ca, da⟩ : ∃ o, s₁.heap.get? a = some o ∧ o.cls = .type "list" ∧ o.dict = none := by
    obtain ⟨_, _, _, g4⟩ := T₁.led a ob ho
    cases ob with
    | li xs => obtain ⟨items, n, q, _⟩ := g4; exact ⟨_, q, rfl, rfl⟩
    | lv xs => obtain ⟨items, n, q, _⟩ := g4; exact ⟨_, q, rfl, rfl⟩
    | tb l => exact absurd rfl (htb l)
  refine getMethod_list_append ea ca da ?_
  refine callWith_method1 (wpAny_items_cons (wpAny_mono (h s₁ T₁) (fun u s₂ ⟨V, σ₂, T₂, S₂, D₂, xs, hσ, hz, i, eV, h₂⟩ => wpAny_items_nil ?_) fun _ _ x => x) h1) h1 rfl
  subst eV
  obtain ⟨t, rfl⟩ := den_int D₂
  obtain ⟨_, _, _, items, n, hg, hI⟩ := T₂.led a _ hσ
  have hlen := hI.length
  refine append_at (hsz := by rw [List.size_toArray, sizeLine]; lia) hg fun h' hs' hg' => ?_
  obtain ⟨T', S'⟩ := T₂.setOwn (ob' := .li (xs ++ [i])) (t := s₂.toks) hσ hs' ⟨_, hg', .inl fun vs q => by cases q⟩ fun _ => ⟨items ++ [.int i t], n + 1, by rw [hg']; simp, ints_push hI⟩
  exact ⟨ρ, _, T', (S₁.trans S₂).trans S', h₂⟩
end
end Mine
end

-- part cG
section
open PySem PySem.W PyProof.Rows PySem.Calls
namespace Mine

noncomputable def sets : Rho → List Str → List V → Rho
  | r, x :: xs, v :: vs => sets (setv r x v) xs vs
  | r, _, _ => r

inductive Stores (F : FC) : List (Value → Sem Unit) → List Str → Prop
  | nil : Stores F [] []
  | cons {t ts x xs} (h : ∀ (v : Value) (M : Model) (A : Around) (E : Value → Shared → Prop) (s : Shared) (Q : Unit → Shared → Prop), wpAny M A (storeName F.env x v) Q E s → wpAny M A (t v) Q E s) (r : Stores F ts xs) : Stores F (t :: ts) (x :: xs)

theorem Stores.bind (F : FC) : ∀ xs : List Str, Stores F (xs.map fun n => bindName F.env n) xs
  | [] => .nil
  | _ :: r => .cons (fun _ _ _ _ _ _ h => wpAny_bindName h) (Stores.bind F r)

section
variable {prog : Program} {w : World} {B : Heap} {K : Frag} {F : FC} {ρ : Rho} {σ : Led} {s : Shared} {X : Addr → Prop} {Q : V → Led → Prop} {P : Bool → Led → Prop} {d : Nat}
  {N : Rho → Led → Prop} {Rt : V → Led → Prop} {E : Value → Shared → Prop} {A : Around} {M : Model}

theorem stores_all (O : FOk B d F) {ts : List (Value → Sem Unit)} {xs : List Str} (st : Stores F ts xs) : ∀ {Vs : List V} {us : List Value} {ρ : Rho} {s : Shared} {Q : Unit → Shared → Prop}, (∀ x ∈ xs, Ki F x) → Vs.length = xs.length →
    St B F ρ σ s → DenL (mu F σ) F.R s.heap Vs us → (∀ s', St B F (sets ρ xs Vs) σ s' → Step (mu F σ) F.R s.heap (mu F σ) F.R s'.heap → Q () s') → wpAny M A (assignInOrder ts us) Q E s := by
  induction st with
  | nil =>
    intro Vs us ρ s Q hk hl T D h
    cases Vs with
    | nil => exact wpAny_pure (h s T (Step.refl ..))
    | cons v r => exact absurd hl (Nat.succ_ne_zero _)
  | @cons t ts x xs ht r ih =>
    intro Vs us ρ s Q hk hl T D h
    cases Vs with
    | nil => exact absurd hl.symm (Nat.succ_ne_zero _)
    | cons V Vs =>
      simp only [DenL] at D
      obtain ⟨u, us', rfl, D1, D2⟩ := D
      refine wpAny_bind (wpAny_holding (ht u _ _ _ _ _ (T.store O (hk x (.head _)) D1 fun s' T' S' => ?_)))
      exact ih (fun y hy => hk y (.tail _ hy)) (Nat.succ.inj hl) T' (D2.step S') fun s'' T'' S'' => h s'' T'' (S'.trans S'')

theorem Ex1.asgT (O : FOk B d F) {elts : List Expr} {k : Nat} {tp p : Pos} {value : Expr} (names : List Str) (h : Ev prog w B F value ρ σ X fun V σ₁ => ∃ vs, V = .tup vs ∧ vs.length = names.length ∧ N (sets ρ names vs) σ₁)
    (hk : ∀ x ∈ names, Ki F x) (hst : Stores F ((assignEach elts F.env).map (·.2)) names) (hlen : (assignEach elts F.env).length = names.length := by rfl) (hstar : (assignEach elts F.env).findIdx? (·.1) = none := by rfl)
    (hs : swapsWithSole [.Tuple elts k tp] value p.line F.env = pure false := by rfl)
    (hw : swappedStores [.Tuple elts k tp] value F.env = pure none := by rfl) :
    Ex1 prog w B F (.Assign [.Tuple elts k tp] value p) ρ σ X N Rt := fun s T => by
  refine Assign_Tuple (wpAny_mono (h s T) (fun v s₁ ⟨V, σ₁, T₁, S₁, D₁, vs, eV, hl, h₁⟩ => ?_) fun _ _ x => x) hs hw
  subst eV
  simp only [Den] at D₁
  obtain ⟨a, items, rfl, ht, hd, hr, hi⟩ := D₁
  rw [assign_Tuple]
  refine wpAny_bind (wpAny_standAt ?_)
  have hil := denL_len hi
  refine unpack_tuple O.hh ht (by rw [hlen, List.size_toArray, hil, hl]) hstar fun h' he => ?_
  have hk' : ∀ b o, s₁.heap.get? b = some o → h'.get? b = some o := fun b o e => he b o (Nat.ne_of_lt (Heap.lt_size e)) e
  exact stores_all O (s := { s₁ with heap := h' }) hst hk hl (T₁.ext (t := s₁.toks) hk') (hi.step (Step.ext hk')) fun s' T' S' => ⟨_, σ₁, T', (S₁.trans (Step.ext hk')).trans S', h₁⟩

theorem Ex1.asgTs (O : FOk B d F) {elts : List Expr} {k : Nat} {tp p : Pos} {value : Expr} {names : List Str}
    (hw : swappedStores [.Tuple elts k tp] value F.env = pure (some names))
    (h : Ev prog w B F value ρ σ X fun V σ₁ => ∃ vs, V = .tup vs ∧ vs.length = names.length ∧ N (sets ρ names.reverse vs.reverse) σ₁)
    (hk : ∀ x ∈ names, Ki F x)
    (hs : swapsWithSole [.Tuple elts k tp] value p.line F.env = pure false := by rfl) :
    Ex1 prog w B F (.Assign [.Tuple elts k tp] value p) ρ σ X N Rt := fun s T => by
  refine Assign_Tuple_swapped (wpAny_mono (h s T) (fun v s₁ ⟨V, σ₁, T₁, S₁, D₁, vs, eV, hl, h₁⟩ => ?_) fun _ _ x => x) hs hw
  subst eV
  simp only [Den] at D₁
  obtain ⟨a, items, rfl, ht, hd, hr, hi⟩ := D₁
  have hil := denL_len hi
  have e : names.length = (List.toArray items).size := by rw [List.size_toArray, hil, hl]
  rw [e]
  refine unpackItems_tuple O.hh ht fun h' he => ?_
  have hk' : ∀ b o, s₁.heap.get? b = some o → h'.get? b = some o := fun b o e => he b o (Nat.ne_of_lt (Heap.lt_size e)) e
  have hrev : ∀ {Vs : List Mine.V} {us : List Value} {D R : Addr → Prop} {h : Heap}, DenL D R h Vs us → DenL D R h Vs.reverse us.reverse := by
    intro Vs
    induction Vs with
    | nil => intro us D R h d; simp only [DenL] at d; subst d; simp [DenL]
    | cons v r ih => intro us D R h d; simp only [DenL] at d; obtain ⟨u, us', rfl, d1, d2⟩ := d; rw [List.reverse_cons, List.reverse_cons]; exact denL_snoc d1 (ih d2)
  exact stores_all O (s := { s₁ with heap := h' }) (Stores.bind F names.reverse) (fun x hx => hk x (by simpa using hx)) (by simpa using hl) (T₁.ext (t := s₁.toks) hk') (hrev (hi.step (Step.ext hk'))) fun s' T' S' => ⟨_, σ₁, T', (S₁.trans (Step.ext hk')).trans S', h₁⟩

theorem Ex1.expr {e : Expr} {p : Pos} (h : Ev prog w B F e ρ σ X fun V σ₁ => V = .none ∧ N ρ σ₁) (hi : interactive F.env = false := by rfl) (hs : swapsWith e Option.none p.line F.env = pure false := by rfl) :
    Ex1 prog w B F (.Expr e p) ρ σ X N Rt := fun s T => by
  refine wpAny_Expr (wpAny_mono (h s T) (fun v s₁ ⟨V, σ₁, T₁, S₁, D₁, eV, h₁⟩ => ?_) fun _ _ x => x) hi hs
  subst eV
  simp only [Den] at D₁
  subst D₁
  exact ⟨ρ, σ₁, T₁, S₁, h₁⟩

theorem Ex1.item (O : FOk B d F) {x : Str} {np p' p : Pos} {i e : Expr} {a : Addr} (hx : ρ x = some (.own a))
    (h : Ev prog w B F e ρ σ X fun V σ₁ => ∃ v, V = .int v ∧ Ev prog w B F i ρ σ₁ X fun I σ₂ => ∃ k xs, I = .int k ∧ σ₂ a = some (.li xs) ∧ 0 ≤ k ∧ k < xs.length ∧ xs.length < 2 ^ 20 ∧ N ρ (upd σ₂ a (.li (xs.set k.toNat v))))
    (hd : (x == ("__debug__" : Str)) = false := by decide) (hcd : (x == ("__classdict__" : Str)) = false := by decide)
    (hs : swapsWith e (some (.Subscript (.Name x np) i p')) p.line F.env = pure false := by rfl) :
    Ex1 prog w B F (.Assign [.Subscript (.Name x np) i p'] e p) ρ σ X N Rt := fun s T => by
  refine wpAny_Assign_Subscript (wpAny_mono (h s T) (fun v s₁ ⟨V, σ₁, T₁, S₁, D₁, vi, eV, h₁⟩ => ?_) fun _ _ x => x) hs
  subst eV
  obtain ⟨t, rfl⟩ := den_int D₁
  refine wpAny_mono (Ev.loc (prog := prog) (w := w) (X := X) (σ := σ₁) (Q := fun V σ' => V = .own a ∧ σ' = σ₁) O hx ⟨rfl, rfl⟩ hd hcd s₁ T₁) (fun ov s₂ ⟨V, σ₂, T₂, S₂, D₂, eV, eσ⟩ => ?_) fun _ _ x => x
  subst eV; subst eσ
  simp only [Den] at D₂
  subst D₂
  refine wpAny_mono (h₁ s₂ T₂) (fun iv s₃ ⟨I, σ₃, T₃, S₃, D₃, k, xs, eI, hσ, h0, hk, hz, h₃⟩ => ?_) fun _ _ x => x
  subst eI
  obtain ⟨t', rfl⟩ := den_int D₃
  obtain ⟨_, _, _, items, n, hg, hI⟩ := T₃.led a _ hσ
  have hlen := hI.length
  refine ki_setAt hg h0 (by lia) (by rw [List.size_toArray]; lia) ?_
  have q := PySem.IsL.update hg (·.setIfInBounds k.toNat (Value.int vi t))
  have e1 : (List.toArray items).setIfInBounds k.toNat (Value.int vi t) = List.toArray (items.set k.toNat (Value.int vi t)) := by
    apply Array.toList_inj.mp
    simp
  rw [e1] at q
  obtain ⟨T', S'⟩ := T₃.setOwn (ob' := .li (xs.set k.toNat vi)) (t := s₃.toks) hσ (Heap.SameBut.update ..) ⟨_, q, .inl fun vs z => by cases z⟩ fun _ => ⟨_, _, q, ints_set hI _⟩
  exact ⟨ρ, _, T', ((S₁.trans S₂).trans S₃).trans S', h₃⟩

-- lists made
theorem foldl_one (c : Value) (n : Nat) : List.foldl (fun x1 x2 => x1 ++ x2) #[] (List.replicate n #[c]) = List.toArray (List.replicate n c) := by
  have : ∀ (n : Nat) (acc : Array Value), List.foldl (fun x1 x2 => x1 ++ x2) acc (List.replicate n #[c]) = acc ++ List.toArray (List.replicate n c) := by
    intro n
    induction n with
    | zero => intro acc; simp
    | succ n ih => intro acc; rw [List.replicate_succ, List.foldl_cons, ih, List.replicate_succ]; apply Array.toList_inj.mp; simp
  simpa using this n #[]
theorem ints_rep (c : Int) (t : Tok) : ∀ n : Nat, IntsAre (List.replicate n (Value.int c t)) (List.replicate n c)
  | 0 => .nil
  | n + 1 => by rw [List.replicate_succ, List.replicate_succ]; exact .cons c t (ints_rep c t n)

theorem op_repO {a : Addr} {c n : Int} (ha : σ a = some (.li [c])) (hn : n < 2 ^ 20) (hn' : -(2 ^ 20) < n) (h : ∀ b, σ b = none → Q (.own b) (upd σ b (.li (List.replicate n.toNat c)))) : Op2 prog w B F (binaryOp .Mult) (.own a) (.int n) ρ σ X Q := fun u v s T p q => by
  obtain ⟨t, rfl⟩ := den_int q
  simp only [Den] at p
  subst p
  obtain ⟨_, _, _, items, k, hg, hI⟩ := T.led a _ ha
  cases hI with
  | cons c tk r =>
  cases r
  have fz := get_none_size0 s.heap
  obtain ⟨f1, f2, f3, _⟩ := T.fresh fz
  refine wpAny_binaryOp_repeat_ref (T := "list") (U := "int") (by decide) ⟨_, hg, rfl⟩ (fun s' => typeIs_int s' n t) noFill_list_mul PySem.F.fills_int_mul PySem.F.slot_int_rmul repeat_list PySem.F.slot_int_index.lookup
    (call_meets PySem.F.slot_int_rmul (typeIs_int s n t) PySem.F.entry_int_rmul (PySem.F.args_int_rmul_2 _ _) (int___rmul___int_list n t a _ k)
      ⟨hg, rfl, ⟨_, hg, rfl⟩, call_meets PySem.F.slot_list_mul ⟨_, hg, rfl⟩ PySem.F.entry_list_mul (PySem.F.args_list_mul_2 _ _)
        (AutoListH.list___mul___list_int_3 a _ k n t (by simp [Builtin.List.listFitsIndex]; lia) (by simp; lia) (by simp [Builtin.List.listTooLong, sizeLine]; lia))
        ⟨hg, ?_⟩⟩)
  have e : (if (List.toArray [Value.int c tk]).isEmpty = true then 0 else n.toNat) = n.toNat := by simp
  rw [e, foldl_one]
  refine ⟨.own s.heap.objs.size, _, T.newOwn (ob := .li (List.replicate n.toNat c)) push_ext fz ⟨_, 0, Heap.get?_push_size _ rfl, ints_rep c tk _⟩, Step.newOwn push_ext fz, by simp [Den], h _ f3⟩

theorem op_addO {a b : V} {xs ys : List Int} (ra : Rd σ a xs) (rb : Rd σ b ys) (hz : xs.length + ys.length < 2 ^ 20) (h : ∀ c, σ c = none → Q (.own c) (upd σ c (.li (xs ++ ys)))) : Op2 prog w B F (binaryOp .Add) a b ρ σ X Q := fun u v s T p q => by
  obtain ⟨l, its, rfl, hl, hi⟩ := Rd.list T p ra
  obtain ⟨l2, its2, rfl, hl2, hi2⟩ := Rd.list T q rb
  have n1 := hi.length
  have n2 := hi2.length
  have fz := get_none_size0 s.heap
  obtain ⟨f1, f2, f3, _⟩ := T.fresh fz
  obtain ⟨⟨cls, dd, data, sl⟩, ho, hc, n, hd⟩ := id hl
  obtain ⟨⟨cls2, dd2, data2, sl2⟩, ho2, hc2, n2', hd2⟩ := id hl2
  simp only at hc hd hc2 hd2
  subst hc hd hc2 hd2
  have e : its.toArray ++ its2.toArray = (its ++ its2).toArray := by simp
  refine concat_meets ⟨_, ho, rfl⟩ ⟨_, ho2, rfl⟩ noFill_list_add seq_list_add PySem.F.slot_list_add PySem.F.entry_list_add (PySem.F.args_list_add_2 _ _) (list_addW l l2 its.toArray its2.toArray n n2' dd dd2 sl sl2 (by simp [sizeLine]; lia)) ⟨ho, ho2, ?_⟩
  rw [e]
  refine ⟨.own s.heap.objs.size, _, T.newOwn (ob := .li (xs ++ ys)) push_ext fz ⟨_, 0, Heap.get?_push_size _ rfl, hi.append hi2⟩, Step.newOwn push_ext fz, by simp [Den], h _ f3⟩

/-- xs[::-1] -/
theorem Ev.rev {value st : Expr} {p p' : Pos} (h : Ev prog w B F value ρ σ X fun V σ₁ => Ev prog w B F st ρ σ₁ X fun U σ₂ => U = .int (-1) ∧ ∃ xs, Rd σ₂ V xs ∧ xs.length < 2 ^ 20 ∧ Q (.lst xs.reverse) σ₂)
    (ht : ∀ o r, letTemporaryGo value o r = pure () := by intro _ _; rfl) :
    Ev prog w B F (.Subscript value (.Slice none none (some st) p) p') ρ σ X Q := fun s T => by
  refine wpAny_Subscript_Slice_step list_getitem_lookup (wpAny_mono (h s T) (fun u s₁ ⟨V, σ₁, T₁, S₁, D₁, h₁⟩ => ?_) fun _ _ x => x) ht
  refine wpAny_Slice ?_
  rw [evalPart_none, evalPart_some]
  refine wpAny_pure (wpAny_pure (wpAny_mono (h₁ s₁ T₁) (fun v s₂ ⟨U, σ₂, T₂, S₂, D₂, eU, xs, r, hz, h₂⟩ => ?_) fun _ _ x => x))
  subst eU
  obtain ⟨t, rfl⟩ := den_int D₂
  obtain ⟨l, items, rfl, hl, hi⟩ := Rd.list T₂ (D₁.step S₂) r
  have hlen := hi.length
  refine ⟨(hl.push _).typeIs, wpAny_getItem_list_slice (hl.push _) (Heap.IsSliceOf.new ..) .none .none (.int (-1) t) (by decide) ?_ (by rw [List.size_toArray, sizeLine]; lia)⟩
  rw [krv_pick]
  have f0 : s₂.heap.get? (s₂.heap.objs.size + 1) = none := get_none_size _ 1
  obtain ⟨f1, f2, _⟩ := T₂.fresh f0
  refine ⟨.lst xs.reverse, σ₂, T₂.ext (fun b o e => push_ext _ _ (push_ext _ _ e)), (S₁.trans S₂).trans (Step.ext (fun b o e => push_ext _ _ (push_ext _ _ e))), ?_, h₂⟩
  simp only [Den]
  exact ⟨_, items.reverse, rfl, ⟨_, Heap.get?_push_size _ rfl, rfl, 0, rfl⟩, hi.reverse, by rw [Heap.size_push]; exact f1, by rw [Heap.size_push]; exact f2⟩
end
end Mine
end

-- part cH
section
open PySem PySem.W PyProof.Rows PySem.Calls
namespace Mine

/-- an object that no value of ours is about -/
inductive Alien (h : Heap) (I : Addr) : Prop
  | mk (o : Obj) (T : String) (vs : Array Value) (e : h.get? I = some o) (c : o.cls = .type T) (n1 : T ≠ "list") (n2 : T ≠ "tuple") (n3 : T ≠ "dict") (d : o.data = .fields vs)

section
variable {prog : Program} {w : World} {B : Heap} {K : Frag} {F : FC} {ρ : Rho} {σ : Led} {s : Shared} {X : Addr → Prop} {Q : V → Led → Prop} {P : Bool → Led → Prop} {d : Nat}
  {N : Rho → Led → Prop} {Rt : V → Led → Prop} {E : Value → Shared → Prop} {A : Around} {M : Model}

mutual
theorem Den.avoid {D R W : Addr → Prop} {h : Heap} (a : ∀ b, W b → Alien h b) : ∀ {V : V} {v : Value}, Den D R h V v → Den (fun b => D b ∨ W b) R h V v
  | .none, _, x => by simpa only [Den] using x
  | .bool _, _, x => by simpa only [Den] using x
  | .int _, _, x => by simpa only [Den] using x
  | .str _, _, x => by simpa only [Den] using x
  | .own _, _, x => by simpa only [Den] using x
  | .fn _, _, x => by simpa only [Den] using x
  | .raw _, _, x => by simpa only [Den] using x
  | .lst _, _, x => by
    simp only [Den] at x ⊢
    obtain ⟨l, items, rfl, hl, hi, hd, hr⟩ := x
    refine ⟨l, items, rfl, hl, hi, fun q => q.elim hd fun q => ?_, hr⟩
    obtain ⟨o, T, vs, e, c, n1, n2, n3, _⟩ := a l q
    obtain ⟨o', e', c', _⟩ := hl
    rw [e] at e'; cases e'; rw [c] at c'; cases c'; exact n1 rfl
  | .par _, _, x => by
    simp only [Den] at x ⊢
    obtain ⟨l, items, rfl, hl, hi, hd⟩ := x
    refine ⟨l, items, rfl, hl, hi, fun q => q.elim hd fun q => ?_⟩
    obtain ⟨o, T, vs, e, c, n1, n2, n3, _⟩ := a l q
    obtain ⟨o', e', c', _⟩ := hl
    rw [e] at e'; cases e'; rw [c] at c'; cases c'; exact n1 rfl
  | .tup vs, _, x => by
    simp only [Den] at x ⊢
    obtain ⟨l, items, rfl, hl, hd, hr, hv⟩ := x
    refine ⟨l, items, rfl, hl, fun q => q.elim hd fun q => ?_, hr, DenL.avoid a hv⟩
    obtain ⟨o, T, vs, e, c, n1, n2, n3, _⟩ := a l q
    obtain ⟨o', e', c', _⟩ := hl
    rw [e] at e'; cases e'; rw [c] at c'; cases c'; exact n2 rfl
  | .inst C es, _, x => by
    simp only [Den] at x ⊢
    obtain ⟨l, ox, dx, items, n, rfl, ha, he, hdx, h1, h2, h3, h4, hv⟩ := x
    refine ⟨l, ox, dx, items, n, rfl, ha, he, hdx, fun q => q.elim h1 fun q => ?_, h2, fun q => q.elim h3 fun q => ?_, h4, DenE.avoid a hv⟩
    · obtain ⟨o, T, vs, e, c, n1, n2, n3, _⟩ := a l q
      rw [ha] at e; cases e; rw [he] at c; cases c
    · obtain ⟨o, T, vs, e, c, n1, n2, n3, _⟩ := a dx q
      rw [hdx] at e; cases e; simp only [Value.type.injEq] at c; exact n3 c.symm
theorem DenL.avoid {D R W : Addr → Prop} {h : Heap} (a : ∀ b, W b → Alien h b) : ∀ {Vs : List V} {vs : List Value}, DenL D R h Vs vs → DenL (fun b => D b ∨ W b) R h Vs vs
  | [], _, x => by simpa only [DenL] using x
  | V :: Vs, _, x => by
    simp only [DenL] at x ⊢
    obtain ⟨u, us, rfl, h1, h2⟩ := x
    exact ⟨u, us, rfl, Den.avoid a h1, DenL.avoid a h2⟩
theorem DenE.avoid {D R W : Addr → Prop} {h : Heap} (a : ∀ b, W b → Alien h b) : ∀ {Vs : List (Str × V)} {vs : List DictEntry}, DenE D R h Vs vs → DenE (fun b => D b ∨ W b) R h Vs vs
  | [], _, x => by simpa only [DenE] using x
  | (k, V) :: Vs, _, x => by
    simp only [DenE] at x ⊢
    obtain ⟨hs, t, u, us, rfl, h1, h2⟩ := x
    exact ⟨hs, t, u, us, rfl, Den.avoid a h1, DenE.avoid a h2⟩
end

mutual
theorem Den.sub {D D' R R' : Addr → Prop} {h : Heap} (k : ∀ b, D' b → D b) (k' : ∀ b, R' b → R b) : ∀ {V : V} {v : Value}, Den D R h V v → Den D' R' h V v
  | .none, _, x => by simpa only [Den] using x
  | .bool _, _, x => by simpa only [Den] using x
  | .int _, _, x => by simpa only [Den] using x
  | .str _, _, x => by simpa only [Den] using x
  | .own _, _, x => by simpa only [Den] using x
  | .fn _, _, x => by simpa only [Den] using x
  | .raw _, _, x => by simpa only [Den] using x
  | .lst _, _, x => by
    simp only [Den] at x ⊢
    obtain ⟨l, items, rfl, hl, hi, hd, hr⟩ := x
    exact ⟨l, items, rfl, hl, hi, fun q => hd (k _ q), fun q => hr (k' _ q)⟩
  | .par _, _, x => by
    simp only [Den] at x ⊢
    obtain ⟨l, items, rfl, hl, hi, hd⟩ := x
    exact ⟨l, items, rfl, hl, hi, fun q => hd (k _ q)⟩
  | .tup vs, _, x => by
    simp only [Den] at x ⊢
    obtain ⟨l, items, rfl, hl, hd, hr, hv⟩ := x
    exact ⟨l, items, rfl, hl, fun q => hd (k _ q), fun q => hr (k' _ q), DenL.sub k k' hv⟩
  | .inst C es, _, x => by
    simp only [Den] at x ⊢
    obtain ⟨l, ox, dx, items, n, rfl, ha, he, hdx, h1, h2, h3, h4, hv⟩ := x
    exact ⟨l, ox, dx, items, n, rfl, ha, he, hdx, fun q => h1 (k _ q), fun q => h2 (k' _ q), fun q => h3 (k _ q), fun q => h4 (k' _ q), DenE.sub k k' hv⟩
theorem DenL.sub {D D' R R' : Addr → Prop} {h : Heap} (k : ∀ b, D' b → D b) (k' : ∀ b, R' b → R b) : ∀ {Vs : List V} {vs : List Value}, DenL D R h Vs vs → DenL D' R' h Vs vs
  | [], _, x => by simpa only [DenL] using x
  | V :: Vs, _, x => by
    simp only [DenL] at x ⊢
    obtain ⟨u, us, rfl, h1, h2⟩ := x
    exact ⟨u, us, rfl, Den.sub k k' h1, DenL.sub k k' h2⟩
theorem DenE.sub {D D' R R' : Addr → Prop} {h : Heap} (k : ∀ b, D' b → D b) (k' : ∀ b, R' b → R b) : ∀ {Vs : List (Str × V)} {vs : List DictEntry}, DenE D R h Vs vs → DenE D' R' h Vs vs
  | [], _, x => by simpa only [DenE] using x
  | (k1, V) :: Vs, _, x => by
    simp only [DenE] at x ⊢
    obtain ⟨hs, t, u, us, rfl, h1, h2⟩ := x
    exact ⟨hs, t, u, us, rfl, Den.sub k k' h1, DenE.sub k k' h2⟩
end

theorem alien_step {D R W : Addr → Prop} {h h' : Heap} (hk : ∀ b o, ¬ W b → h.get? b = some o → h'.get? b = some o) : Stp (fun b => D b ∨ W b) R h (fun b => D b ∨ W b) R h' :=
  ⟨fun b o e nd => ⟨o, hk b o (fun q => nd (.inr q)) e, .inl rfl⟩, fun _ _ _ x => x, fun _ _ _ x => x⟩
theorem Den.alien {D R W : Addr → Prop} {h h' : Heap} {V : V} {v : Value} (x : Den D R h V v) (a : ∀ b, W b → Alien h b) (hk : ∀ b o, ¬ W b → h.get? b = some o → h'.get? b = some o) : Den D R h' V v :=
  ((x.avoid a).stp (alien_step hk)).sub (fun _ q => .inl q) fun _ q => q
theorem DenL.alien {D R W : Addr → Prop} {h h' : Heap} {V : List V} {v : List Value} (x : DenL D R h V v) (a : ∀ b, W b → Alien h b) (hk : ∀ b o, ¬ W b → h.get? b = some o → h'.get? b = some o) : DenL D R h' V v :=
  ((x.avoid a).stp (alien_step hk)).sub (fun _ q => .inl q) fun _ q => q

theorem St.alien {W : Addr → Prop} {h' : Heap} {t : Nat} (T : St B F ρ σ s) (a : ∀ b, W b → Alien s.heap b ∧ ¬ F.R b ∧ F.h0 b = none ∧ B.get? b = none) (hk : ∀ b o, ¬ W b → s.heap.get? b = some o → h'.get? b = some o) :
    St B F ρ σ { s with heap := h', toks := t } := by
  have al : ∀ b, W b → Alien s.heap b := fun b q => (a b q).1
  obtain ⟨m, hn, hv⟩ := T.loc
  obtain ⟨oL, esL, epL, hL, hLd⟩ := ns_get hn
  have nW : ∀ b o, s.heap.get? b = some o → (∀ vs, o.data ≠ .fields vs) → ¬ W b := fun b o e nf q => by
    obtain ⟨o', T', vs, e', _, _, _, _, dd⟩ := al b q
    rw [e] at e'; cases e'; exact nf _ dd
  have cell : ∀ c v, s.heap.IsCell c v → h'.IsCell c v := fun c v ⟨o, e, dd⟩ => ⟨o, hk c o (nW c o e fun vs q => by rw [dd] at q; cases q) e, dd⟩
  refine ⟨fun b o e => hk b o (fun q => by rw [(a b q).2.2.2] at e; cases e) (T.base b o e), ?_, ?_, ⟨m, ?_, ?_⟩, ?_, ?_, ?_, ?_⟩
  · exact funFrames_chg (fun b o e nf => ⟨o, hk b o (nW b o e nf) e, nf⟩) T.frames
  · intro b o e
    obtain ⟨o', e', q⟩ := T.keep b o e
    exact ⟨o', hk b o' (fun z => by rw [(a b z).2.2.1] at e; cases e) e', q⟩
  · obtain ⟨o, es, ep, e, dd, r⟩ := hn
    exact ⟨o, es, ep, hk _ o (nW _ o e fun vs q => by rw [dd] at q; cases q) e, dd, r⟩
  · intro y V e
    obtain ⟨u, hu, hd⟩ := hv y V e
    exact ⟨u, hu.imp id (fun ⟨a, c, b, b'⟩ => ⟨a, c, b, cell _ _ b'⟩), hd.alien al hk⟩
  · intro y c p q
    obtain ⟨u, b'⟩ := T.cex y c p q
    exact ⟨u, cell _ _ b'⟩
  · intro b ob e
    obtain ⟨h1, h2, h3, h4⟩ := T.led b ob e
    refine ⟨h1, h2, h3, ?_⟩
    cases ob with
    | li xs => obtain ⟨items, n, q, r⟩ := h4; exact ⟨items, n, hk b _ (nW b _ q fun vs z => by cases z) q, r⟩
    | lv xs => obtain ⟨items, n, q, r⟩ := h4; exact ⟨items, n, hk b _ (nW b _ q fun vs z => by cases z) q, r.alien al hk⟩
    | tb l =>
      obtain ⟨ps, q, r⟩ := h4
      refine ⟨ps, hk b _ (fun z => ?_) q, r⟩
      obtain ⟨o', T', vs, e', c', _⟩ := al b z
      rw [q] at e'; cases e'; cases c'
  · intro b e
    obtain ⟨o, q⟩ := T.RA b e
    exact ⟨o, hk b o (fun z => (a b z).2.1 e) q⟩
  · obtain ⟨h1, t1, e⟩ := T.sh; exact ⟨h', t, by rw [e]⟩

theorem xs_false {fr : List Env} {h0 : PH} {s0 : Shared} {v : Value} {s' : Shared} {X : Prop} (h : Xs B fr h0 s0 (fun _ => False) v s') : X := by
  obtain ⟨_, _, _, _, f, _⟩ := h; exact f.elim

def Loop (prog : Program) (w : World) (B : Heap) (F : FC) (xs : List Str) (body : List Stmt) (n : Nat) (f : Nat → List V) (ρ : Rho) (σ : Led) (N : Rho → Led → Prop) (Rt : V → Led → Prop) : Prop :=
  ∃ J : Nat → Rho → Led → Prop, J 0 ρ σ ∧ (∀ i ρ' σ', i < n → J i ρ' σ' → Ex prog w B F body (sets ρ' xs (f i)) σ' (fun _ => False) (fun ρ'' σ'' => J (i + 1) ρ'' σ'') Rt) ∧ ∀ ρ' σ', J n ρ' σ' → N ρ' σ'

/-- a loop over one name, before a turn -/
inductive CoreI (B : Heap) (F : FC) (σ : Led) (hs : Heap) (It : Nat → Heap → Prop) (J : Nat → Rho → Led → Prop) (n : Nat) (I : Addr) (pr : Addr → Prop) : Nat → Shared → Prop
  | mk {i : Nat} {ρ' : Rho} {σ' : Led} {s' : Shared} (T : St B F ρ' σ' s') (S : Step (mu F σ) F.R hs (mu F σ') F.R s'.heap) (it : It i s'.heap) (hJ : J i ρ' σ') (hi : i ≤ n) (nI : ¬ mu F σ' I)
    (npr : ∀ b, pr b → (∃ o, s'.heap.get? b = some o) ∧ ¬ mu F σ' b) : CoreI B F σ hs It J n I pr (n + 1 - i) s'
theorem for_core (O : FOk B d F) {x : Str} {px : Pos} {body : List Stmt} {I : Addr} {n : Nat} {f : Nat → List V} {fp : List Addr} {P : Nat → Value → Prop} {It : Nat → Heap → Prop} {s₂ : Shared} {hs : Heap} {σ₁ : Led}
    (hk : Ki F x) (T : St B F ρ σ₁ s₂) (S0 : Step (mu F σ) F.R hs (mu F σ₁) F.R s₂.heap) (hI : hs.get? I = none) (hI2 : ¬ F.R I ∧ F.h0 I = none ∧ B.get? I = none ∧ ¬ mu F σ₁ I)
    (Wk : Walks prog w F.A I fp [I] n P It) (hP : ∀ i v, i < n → P i v → ∃ t j, v = .int j t ∧ f i = [.int j]) (h0 : It 0 s₂.heap) (al : ∀ i h, It i h → Alien h I)
    (pr : Addr → Prop) (hpr : ∀ b, pr b → (∃ o, s₂.heap.get? b = some o) ∧ ¬ mu F σ₁ b)
    (stab : ∀ i h h' D, It i h → Stp D F.R h D F.R h' → ¬ D I → (∀ b, pr b → ¬ D b) → It i h')
    (hL : Loop prog w B F [x] body n f ρ σ₁ N Rt) :
    codeAny (model prog w) F.A (.forLoop (.Name x px) (.ref I) body [] F.env) (fun r s' => match r with | .ok fl => Lv B F σ hs N Rt fl s' | .error e => cameBackBy (model prog w) F.A F.env (Xs B (F.env :: F.outer) F.h0 F.s0 X) e s') s₂ := by
  obtain ⟨J, j0, jt, jn⟩ := hL
  refine codeAny_forLoop (CoreI B F σ hs It J n I pr) ?_ (n + 1) (.mk (i := 0) T S0 h0 j0 (Nat.zero_le _) hI2.2.2.2 hpr)
  rintro k s' ⟨T', S', it, hJ, hi, nI, npr⟩
  rename_i i ρ' σ'
  have hal := al i _ it
  have ha : ∀ b, b = I → Alien s'.heap b ∧ ¬ F.R b ∧ F.h0 b = none ∧ B.get? b = none := fun b q => q ▸ ⟨hal, hI2.1, hI2.2.1, hI2.2.2.1⟩
  have chg : ∀ h' : Heap, (∀ b o, b ∉ [I] → s'.heap.get? b = some o → h'.get? b = some o) → Step (mu F σ) F.R hs (mu F σ') F.R h' := fun h' q =>
    ⟨⟨fun b o e nd => by
      obtain ⟨o', e', z⟩ := S'.keep b o e nd
      exact ⟨o', q b o' (fun y => by simp only [List.mem_singleton] at y; rw [y, hI] at e; cases e) e', z⟩, S'.dom, S'.res⟩, fun b o e => by
      obtain ⟨o', e'⟩ := S'.live b o e
      exact ⟨o', q b o' (fun y => by simp only [List.mem_singleton] at y; rw [y, hI] at e; cases e) e'⟩, S'.grow⟩
  by_cases hlt : i < n
  · refine Wk.item i s' _ _ hlt it fun v h' tk hv it' hk' => ?_
    have T1 := T'.alien (W := fun b => b = I) (t := tk) ha fun b o nb e => hk' b o (by simpa using nb) e
    obtain ⟨t, j, rfl, hf⟩ := hP i v hlt hv
    refine wpAny_assign_Name (T1.store O hk .i fun s3 T3 S3 => ?_)
    have hs3 : Step (mu F σ') F.R h' (mu F σ') F.R s3.heap := S3
    have it3 : It (i + 1) s3.heap := stab _ _ _ _ it' hs3.toStp nI fun b q => (npr b q).2
    have hb := jt i ρ' σ' hlt hJ
    rw [hf] at hb
    refine wpAny_mono (hb s3 T3) (fun fl s4 h4 => ?_) fun _ _ q => xs_false q
    have S3' : Step (mu F σ) F.R hs (mu F σ') F.R s3.heap := (chg h' hk').trans hs3
    have alive3 : ∃ o, s3.heap.get? I = some o := by obtain ⟨o, _, _, e, _⟩ := al _ _ it3; exact ⟨o, e⟩
    have prh : ∀ b, pr b → ∃ o, s3.heap.get? b = some o := fun b q => by
      obtain ⟨⟨o, e⟩, nb⟩ := npr b q
      have e2 : h'.get? b = some o ∨ b = I := by
        by_cases z : b = I
        · exact .inr z
        · exact .inl (hk' b o (by simpa using z) e)
      rcases e2 with e2 | rfl
      · obtain ⟨o', e', _⟩ := hs3.keep b o e2 nb; exact ⟨o', e'⟩
      · exact alive3
    cases fl with
    | next =>
      obtain ⟨ρ4, σ4, T4, S4, j4⟩ := h4
      have nI4 : ¬ mu F σ4 I := by obtain ⟨o, e⟩ := alive3; exact S4.undom e nI
      have npr4 : ∀ b, pr b → (∃ o, s4.heap.get? b = some o) ∧ ¬ mu F σ4 b := fun b q => by
        obtain ⟨o, e⟩ := prh b q
        obtain ⟨o', e', _⟩ := S4.keep b o e (npr b q).2
        exact ⟨⟨o', e'⟩, S4.undom e (npr b q).2⟩
      have S4w : Stp (fun b => mu F σ' b ∨ mu F σ4 b) F.R s3.heap (fun b => mu F σ' b ∨ mu F σ4 b) F.R s4.heap :=
        ⟨fun b o e nd => S4.keep b o e fun q => nd (.inl q), fun _ _ _ x => x, fun _ _ _ x => x⟩
      exact ⟨n + 1 - (i + 1), by lia, .mk (i := i + 1) T4 (S3'.trans S4) (stab _ _ _ _ it3 S4w (fun q => q.elim nI nI4) (fun b q z => z.elim (npr b q).2 (npr4 b q).2)) j4 (by lia) nI4 npr4⟩
    | ret v =>
      obtain ⟨ρ4, V, σ4, T4, S4, D4, j4⟩ := h4
      exact ⟨ρ4, V, σ4, T4, S3'.trans S4, D4, j4⟩
    | brk => exact h4.elim
    | cont => exact h4.elim
  · have e : i = n := by lia
    subst e
    refine Wk.done s' _ _ it fun h' tk hk' => wpAny_execs_nil ?_
    exact ⟨ρ', σ', T'.alien (W := fun b => b = I) (t := tk) ha fun b o nb e => hk' b o (by simpa using nb) e, chg h' hk', jn _ _ hJ⟩
end
end Mine
end

-- part cI
section
open PySem PySem.W PyProof.Rows PySem.Calls
namespace Mine
section
variable {prog : Program} {w : World} {B : Heap} {K : Frag} {F : FC} {ρ : Rho} {σ : Led} {s : Shared} {X : Addr → Prop} {Q : V → Led → Prop} {P : Bool → Led → Prop} {d : Nat}
  {N : Rho → Led → Prop} {Rt : V → Led → Prop} {E : Value → Shared → Prop} {A : Around} {M : Model}

theorem evalT {T : String} {fe e : Expr} {rest : List Expr} {p : Pos} {Kk : List V → Led → Prop} {Q' : Value → Shared → Prop}
    (h : Ev prog w B F fe ρ σ X fun vf σ₁ => vf = .raw (.type T) ∧ EvL prog w B F (e :: rest) ρ σ₁ X Kk) (T0 : St B F ρ σ s)
    (k : ∀ vs us σ₂ s₂, Kk vs σ₂ → St B F ρ σ₂ s₂ → Step (mu F σ) F.R s.heap (mu F σ₂) F.R s₂.heap → DenL (mu F σ₂) F.R s₂.heap vs us → wpAny (model prog w) F.A (call (.type T) us) Q' (Xs B (F.env :: F.outer) F.h0 F.s0 X) s₂)
    (he : starEach (e :: rest) F.env = (false, eval e F.env) :: starEach rest F.env := by rfl)
    (hplain : (backTo p (starEach rest F.env)).any (·.1) = false := by rfl)
    (hc : eval (.Call fe (e :: rest) [] p) F.env = (do callWith p (← eval fe F.env) [] (backTo p (starEach (e :: rest) F.env)) (backToKw p (keywordEach [] F.env))) := by rfl) :
    wpAny (model prog w) F.A (eval (.Call fe (e :: rest) [] p) F.env) Q' (Xs B (F.env :: F.outer) F.h0 F.s0 X) s := by
  refine Call_ (wpAny_mono (h s T0) (fun v s₁ ⟨V, σ₁, T₁, S₁, D₁, eV, h₁⟩ => ?_) fun _ _ x => x) hc
  subst eV
  simp only [Den] at D₁
  subst D₁
  exact callWith_type1 (wpAny_mono (h₁ p s₁ T₁) (fun vs s₂ ⟨Vs, σ₂, T₂, S₂, D₂, h₂⟩ => k _ _ _ _ h₂ T₂ (S₁.trans S₂) D₂) fun _ _ x => x) he hplain

theorem alien_of {h : Heap} {I : Addr} {o : Obj} {T : String} {vs : Array Value} (e : h.get? I = some o) (c : o.cls = .type T) (dd : o.data = .fields vs) (n : (T == "list" || T == "tuple" || T == "dict") = false := by decide) : Alien h I := by
  simp only [Bool.or_eq_false_iff, beq_eq_false_iff_ne] at n
  exact ⟨o, T, vs, e, c, n.1.1, n.1.2, n.2, dd⟩

theorem range_run (O : FOk B d F) {x : Str} {px : Pos} {body : List Stmt} {r : Addr} {a b c : Int} {t u v : Tok} {n : Nat} {s₁ s₂ : Shared} {σ₁ : Led} (hk : Ki F x)
    (T : St B F ρ σ₁ s₁) (S0 : Step (mu F σ) F.R s.heap (mu F σ₁) F.R s₁.heap) (hx : ∀ b o, s₁.heap.get? b = some o → s₂.heap.get? b = some o) (es : ∃ t, s₂ = { s₁ with heap := s₂.heap, toks := t }) (hr : IsRange s₂.heap r a b c t u v) (hsm : Builtin.Range.small a b c = true)
    (hn : Builtin.Range.rangeSize a b c = n) (hL : Loop prog w B F [x] body n (fun i => [.int (a + i * c)]) ρ σ₁ N Rt) :
    wpAny (model prog w) F.A (pyIter (.ref r)) (fun it s₂ => codeAny (model prog w) F.A (.forLoop (.Name x px) it body [] F.env) (fun r s' => match r with | .ok fl => Lv B F σ s.heap N Rt fl s' | .error e => cameBackBy (model prog w) F.A F.env (Xs B (F.env :: F.outer) F.h0 F.s0 X) e s') s₂)
      (Xs B (F.env :: F.outer) F.h0 F.s0 X) s₂ := by
  refine wpAny_pyIter_range hr hsm ?_
  obtain ⟨tk, es⟩ := es
  have T2 : St B F ρ σ₁ s₂ := by rw [es]; exact T.ext hx
  have S2 : Step (mu F σ) F.R s.heap (mu F σ₁) F.R s₂.heap := S0.trans (Step.ext hx)
  have f0 := get_none_size0 s₂.heap
  obtain ⟨f1, f2, f3, f4, f5⟩ := T2.fresh f0
  have hsI : s.heap.get? s₂.heap.objs.size = none := by
    cases q : s.heap.get? s₂.heap.objs.size with
    | none => rfl
    | some o => obtain ⟨o', e'⟩ := S2.live _ o q; rw [f0] at e'; cases e'
  have hpush : ∀ q o, s₂.heap.get? q = some o → (s₂.heap.push { cls := .type "range_iterator", data := .fields #[rawInt a, rawInt (Builtin.Range.rangeSize a b c), rawInt c] }).get? q = some o := push_ext
  have hIt : IsRangeIter (s₂.heap.push { cls := .type "range_iterator", data := .fields #[rawInt a, rawInt (Builtin.Range.rangeSize a b c), rawInt c] }) s₂.heap.objs.size (a + ((0 : Nat) : Int) * c) ((n : Int) - ((0 : Nat) : Int)) c := by
    have := Heap.get?_push_size s₂.heap (o := { cls := .type "range_iterator", data := .fields #[rawInt a, rawInt (Builtin.Range.rangeSize a b c), rawInt c] }) rfl
    rw [hn] at this ⊢
    simpa [IsRangeIter] using this
  exact for_core (s₂ := { s₂ with heap := _ }) (P := fun i v => ∃ t, v = .int (a + i * c) t) (n := n) (f := fun i => [.int (a + i * c)]) (It := fun i h => IsRangeIter h s₂.heap.objs.size (a + (i : Nat) * c) ((n : Int) - (i : Nat)) c) O hk (T2.ext (t := s₂.toks) hpush) (S2.trans (Step.ext hpush)) hsI ⟨f2, f4, f5, f1⟩ (Walks.range O.hh s₂.heap.objs.size a c n) (fun i v _ ⟨t, e⟩ => ⟨t, _, e, rfl⟩) hIt (fun i h e => alien_of e rfl rfl) (fun _ => False) (fun _ q => q.elim) (fun i h h' D e S nD _ => S.exact e nD f2) hL

/-- for x in range(b) -/
theorem Ex1.forR1 (O : FOk B d F) {x : Str} {px p p' : Pos} {fe e : Expr} {body : List Stmt}
    (h : Ev prog w B F fe ρ σ X fun vf σ₁ => vf = .raw (.type "range") ∧ EvL prog w B F [e] ρ σ₁ X fun vs σ₂ => ∃ b, vs = [.int b] ∧ b < 2 ^ 62 ∧ -(2 ^ 62) ≤ b ∧ Loop prog w B F [x] body b.toNat (fun i => [.int i]) ρ σ₂ N Rt)
    (hk : Ki F x := by exact Or.inl (by rfl)) (he : starEach [e] F.env = (false, eval e F.env) :: starEach [] F.env := by rfl)
    (hc : eval (.Call fe [e] [] p) F.env = (do callWith p (← eval fe F.env) [] (backTo p (starEach [e] F.env)) (backToKw p (keywordEach [] F.env))) := by rfl)
    (hs : ∀ x, foldedSetIterable (.Call fe [e] [] p) F.env x = pure x := by intro _; rfl) :
    Ex1 prog w B F (.For (.Name x px) (.Call fe [e] [] p) body [] p') ρ σ X N Rt := fun s T => by
  refine wpAny_For (evalT h T (fun vs us σ₂ s₂ hK T2 S2 D2 => ?_) he rfl hc) hs
  obtain ⟨b, rfl, b1, b2, hL⟩ := hK
  simp only [DenL] at D2
  obtain ⟨u, _, rfl, D2, rfl⟩ := D2
  obtain ⟨t, rfl⟩ := den_int D2
  refine call_range_1 ?_
  have hz : Builtin.Range.rangeSize 0 b 1 = (b.toNat : Int) := by rw [rangeSize_one]; split <;> lia
  refine range_run (a := 0) (b := b) (c := 1) (n := b.toNat) (s := s) O hk T2 S2 (push_ext) ⟨_, rfl⟩ (Heap.get?_push_size _ rfl) (small_one (by decide) (by decide) b2 b1) hz ?_
  simpa using hL
/-- for x in range(a, b) -/
theorem Ex1.forR2 (O : FOk B d F) {x : Str} {px p p' : Pos} {fe e e2 : Expr} {body : List Stmt}
    (h : Ev prog w B F fe ρ σ X fun vf σ₁ => vf = .raw (.type "range") ∧ EvL prog w B F [e, e2] ρ σ₁ X fun vs σ₂ => ∃ a b, vs = [.int a, .int b] ∧ a < 2 ^ 62 ∧ -(2 ^ 62) ≤ a ∧ b < 2 ^ 62 ∧ -(2 ^ 62) ≤ b ∧ Loop prog w B F [x] body (b - a).toNat (fun i => [.int (a + i)]) ρ σ₂ N Rt)
    (hk : Ki F x := by exact Or.inl (by rfl)) (he : starEach [e, e2] F.env = (false, eval e F.env) :: starEach [e2] F.env := by rfl) (hpl : (backTo p (starEach [e2] F.env)).any (·.1) = false := by rfl)
    (hc : eval (.Call fe [e, e2] [] p) F.env = (do callWith p (← eval fe F.env) [] (backTo p (starEach [e, e2] F.env)) (backToKw p (keywordEach [] F.env))) := by rfl)
    (hs : ∀ x, foldedSetIterable (.Call fe [e, e2] [] p) F.env x = pure x := by intro _; rfl) :
    Ex1 prog w B F (.For (.Name x px) (.Call fe [e, e2] [] p) body [] p') ρ σ X N Rt := fun s T => by
  refine wpAny_For (evalT h T (fun vs us σ₂ s₂ hK T2 S2 D2 => ?_) he hpl hc) hs
  obtain ⟨a, b, rfl, a1, a2, b1, b2, hL⟩ := hK
  simp only [DenL] at D2
  obtain ⟨u, _, rfl, D2, u2, _, rfl, D3, rfl⟩ := D2
  obtain ⟨t, rfl⟩ := den_int D2
  obtain ⟨t2, rfl⟩ := den_int D3
  refine call_range_2 ?_
  have hz : Builtin.Range.rangeSize a b 1 = ((b - a).toNat : Int) := by rw [rangeSize_one]; split <;> lia
  refine range_run (a := a) (b := b) (c := 1) (n := (b - a).toNat) (s := s) O hk T2 S2 (push_ext) ⟨_, rfl⟩ (Heap.get?_push_size _ rfl) (small_one a2 a1 b2 b1) hz ?_
  simpa using hL
/-- for x in range(a, -1, -1) -/
theorem Ex1.forR3 (O : FOk B d F) {x : Str} {px p p' : Pos} {fe e e2 e3 : Expr} {body : List Stmt}
    (h : Ev prog w B F fe ρ σ X fun vf σ₁ => vf = .raw (.type "range") ∧ EvL prog w B F [e, e2, e3] ρ σ₁ X fun vs σ₂ => ∃ a, vs = [.int a, .int (-1), .int (-1)] ∧ a < 2 ^ 62 ∧ -1 ≤ a ∧ Loop prog w B F [x] body (a + 1).toNat (fun i => [.int (a - i)]) ρ σ₂ N Rt)
    (hk : Ki F x := by exact Or.inl (by rfl)) (he : starEach [e, e2, e3] F.env = (false, eval e F.env) :: starEach [e2, e3] F.env := by rfl) (hpl : (backTo p (starEach [e2, e3] F.env)).any (·.1) = false := by rfl)
    (hc : eval (.Call fe [e, e2, e3] [] p) F.env = (do callWith p (← eval fe F.env) [] (backTo p (starEach [e, e2, e3] F.env)) (backToKw p (keywordEach [] F.env))) := by rfl)
    (hs : ∀ x, foldedSetIterable (.Call fe [e, e2, e3] [] p) F.env x = pure x := by intro _; rfl) :
    Ex1 prog w B F (.For (.Name x px) (.Call fe [e, e2, e3] [] p) body [] p') ρ σ X N Rt := fun s T => by
  refine wpAny_For (evalT h T (fun vs us σ₂ s₂ hK T2 S2 D2 => ?_) he hpl hc) hs
  obtain ⟨a, rfl, a1, a2, hL⟩ := hK
  simp only [DenL] at D2
  obtain ⟨u, _, rfl, D2, u2, _, rfl, D3, u3, _, rfl, D4, rfl⟩ := D2
  obtain ⟨t, rfl⟩ := den_int D2
  obtain ⟨t2, rfl⟩ := den_int D3
  obtain ⟨t3, rfl⟩ := den_int D4
  refine call_range_3 (by decide) ?_ (.inl (PyProof.noPylong_small (by decide)))
  have hz : Builtin.Range.rangeSize a (-1) (-1) = ((a + 1).toNat : Int) := by
    unfold Builtin.Range.rangeSize
    simp only [show ¬ ((-1 : Int) > 0) by decide, if_false]
    have e1 : -(-1 : Int) = 1 := by decide
    rw [e1, Int.ediv_one]
    split <;> lia
  have hsm : Builtin.Range.small a (-1) (-1) = true := by
    unfold Builtin.Range.small
    rw [hz]
    simp only [Builtin.Range.rangeFitsLong, Bool.and_eq_true, Bool.or_eq_true, decide_eq_true_eq, beq_iff_eq, show ¬ ((-1 : Int) > 0) by decide, if_false]
    lia
  refine range_run (a := a) (b := -1) (c := -1) (n := (a + 1).toNat) (s := s) O hk T2 S2 (push_ext) ⟨_, rfl⟩ (Heap.get?_push_size _ rfl) hsm hz ?_
  have e : (fun i : Nat => [V.int (a + (i : Int) * -1)]) = fun i : Nat => [V.int (a - i)] := by funext i; congr 2; lia
  rw [e]; exact hL

def RdF : V → List Int → Prop
  | .lst xs, ys => xs = ys
  | .par xs, ys => xs = ys
  | _, _ => False
theorem RdF.list {V : V} {v : Value} {xs : List Int} {D R : Addr → Prop} {h : Heap} (hd : Den D R h V v) (r : RdF V xs) : ∃ a items, v = .ref a ∧ h.IsList a (List.toArray items) ∧ IntsAre items xs ∧ ¬ D a := by
  cases V with
  | lst ys => simp only [RdF] at r; subst r; simp only [Den] at hd; obtain ⟨a, items, e, hl, hi, hd, _⟩ := hd; exact ⟨a, items, e, hl, hi, hd⟩
  | par ys => simp only [RdF] at r; subst r; simp only [Den] at hd; obtain ⟨a, items, e, hl, hi, hd⟩ := hd; exact ⟨a, items, e, hl, hi, hd⟩
  | _ => simp [RdF] at r

/-- for x in xs -/
theorem Ex1.forL (O : FOk B d F) {x : Str} {px p' : Pos} {e : Expr} {body : List Stmt}
    (h : Ev prog w B F e ρ σ X fun V σ₁ => ∃ xs, RdF V xs ∧ Loop prog w B F [x] body xs.length (fun i => [.int (xs.getD i 0)]) ρ σ₁ N Rt)
    (hk : Ki F x := by exact Or.inl (by rfl))
    (hs : ∀ x, foldedSetIterable e F.env x = pure x := by intro _; rfl) :
    Ex1 prog w B F (.For (.Name x px) e body [] p') ρ σ X N Rt := fun s T => by
  refine wpAny_For (wpAny_mono (h s T) (fun v s₂ ⟨V, σ₁, T2, S2, D2, xs, r, hL⟩ => ?_) fun _ _ q => q) hs
  obtain ⟨ax, items, rfl, hl, hi, nD⟩ := RdF.list D2 r
  have hlen := hi.length
  refine wpAny_pyIter_list hl ?_
  have f0 := get_none_size0 s₂.heap
  obtain ⟨f1, f2, f3, f4, f5⟩ := T2.fresh f0
  have hsI : s.heap.get? s₂.heap.objs.size = none := by
    cases q : s.heap.get? s₂.heap.objs.size with
    | none => rfl
    | some o => obtain ⟨o', e'⟩ := S2.live _ o q; rw [f0] at e'; cases e'
  have hne : ax ≠ s₂.heap.objs.size := fun q => by obtain ⟨o, e, _⟩ := hl; rw [q, f0] at e; cases e
  have hpush : ∀ b o, s₂.heap.get? b = some o → (s₂.heap.push { cls := .type "list_iterator", data := .fields #[.ref ax, .int 0 0] }).get? b = some o := push_ext
  have ez : (List.toArray items).size = xs.length := by simp [hlen]
  have hW : Walks prog w F.A s₂.heap.objs.size [s₂.heap.objs.size, ax] [s₂.heap.objs.size] xs.length (fun i v => (List.toArray items)[i]? = some v) (fun i h => h.IsListIter s₂.heap.objs.size ax i ∧ h.IsList ax (List.toArray items)) := by
    rw [← ez]; exact Walks.list O.hh s₂.heap.objs.size ax hne (List.toArray items)
  have hIt : (s₂.heap.push { cls := .type "list_iterator", data := .fields #[.ref ax, .int 0 0] }).IsListIter s₂.heap.objs.size ax 0 ∧ (s₂.heap.push { cls := .type "list_iterator", data := .fields #[.ref ax, .int 0 0] }).IsList ax (List.toArray items) := ⟨⟨_, Heap.get?_push_size _ rfl, rfl, rfl⟩, hl.push _⟩
  refine for_core (s₂ := { s₂ with heap := _ }) (f := fun i => [.int (xs.getD i 0)]) O hk (T2.ext (t := s₂.toks) hpush) (S2.trans (Step.ext hpush)) hsI ⟨f2, f4, f5, f1⟩ hW (fun i v hiv e => ?_) hIt (fun i h e => ?_) (fun b => b = ax) (fun b q => ?_) (fun i h h' D e S nD npr => ?_) hL
  · have hj := hi.get i (xs.getD i 0) (by rw [List.getD_eq_getElem?_getD, List.getElem?_eq_getElem hiv]; rfl)
    obtain ⟨t, ht⟩ := hj
    rw [List.getElem?_toArray, ht] at e
    exact ⟨t, _, (Option.some.inj e).symm, rfl⟩
  · obtain ⟨⟨o, e1, e2, e3⟩, _⟩ := e; exact alien_of e1 e2 e3
  · subst q; obtain ⟨o, e, _⟩ := hl; exact ⟨⟨o, hpush _ _ e⟩, nD⟩
  · obtain ⟨⟨o, e1, e2, e3⟩, e4⟩ := e
    exact ⟨⟨o, S.exact e1 nD f2, e2, e3⟩, S.list e4 (npr ax rfl)⟩

/-- for x in reversed(xs) -/
theorem Ex1.forRev (O : FOk B d F) {x : Str} {px p p' : Pos} {fe e : Expr} {body : List Stmt}
    (h : Ev prog w B F fe ρ σ X fun vf σ₁ => vf = .raw (.type "reversed") ∧ EvL prog w B F [e] ρ σ₁ X fun vs σ₂ => ∃ V xs, vs = [V] ∧ RdF V xs ∧ Loop prog w B F [x] body xs.length (fun i => [.int (xs.getD (xs.length - 1 - i) 0)]) ρ σ₂ N Rt)
    (hk : Ki F x := by exact Or.inl (by rfl)) (he : starEach [e] F.env = (false, eval e F.env) :: starEach [] F.env := by rfl)
    (hc : eval (.Call fe [e] [] p) F.env = (do callWith p (← eval fe F.env) [] (backTo p (starEach [e] F.env)) (backToKw p (keywordEach [] F.env))) := by rfl)
    (hs : ∀ x, foldedSetIterable (.Call fe [e] [] p) F.env x = pure x := by intro _; rfl) :
    Ex1 prog w B F (.For (.Name x px) (.Call fe [e] [] p) body [] p') ρ σ X N Rt := fun s T => by
  refine wpAny_For (evalT h T (fun vs us σ₁ s₂ hK T2 S2 D2 => ?_) he rfl hc) hs
  obtain ⟨V, xs, rfl, r, hL⟩ := hK
  simp only [DenL] at D2
  obtain ⟨u, _, rfl, D2, rfl⟩ := D2
  obtain ⟨ax, items, rfl, hl, hi, nD⟩ := RdF.list D2 r
  have hlen := hi.length
  refine call_reversed_list hl ?_
  have f0 := get_none_size0 s₂.heap
  obtain ⟨f1, f2, f3, f4, f5⟩ := T2.fresh f0
  have hsI : s.heap.get? s₂.heap.objs.size = none := by
    cases q : s.heap.get? s₂.heap.objs.size with
    | none => rfl
    | some o => obtain ⟨o', e'⟩ := S2.live _ o q; rw [f0] at e'; cases e'
  have hne : ax ≠ s₂.heap.objs.size := fun q => by obtain ⟨o, e, _⟩ := hl; rw [q, f0] at e; cases e
  have hri : (s₂.heap.push (revObj ax (((List.toArray items).size : Int) - 1))).IsRevIter s₂.heap.objs.size ax (((List.toArray items).size : Int) - 1) := ⟨_, Heap.get?_push_size _ rfl, rfl, rfl⟩
  refine wpAny_pyIter_revIter hri ?_
  have hpush : ∀ b o, s₂.heap.get? b = some o → (s₂.heap.push (revObj ax (((List.toArray items).size : Int) - 1))).get? b = some o := push_ext
  have ez : (List.toArray items).size = xs.length := by simp [hlen]
  have hW : Walks prog w F.A s₂.heap.objs.size [s₂.heap.objs.size, ax] [s₂.heap.objs.size] xs.length (fun i v => (List.toArray items)[xs.length - 1 - i]? = some v) (fun i h => i ≤ xs.length ∧ h.IsRevIter s₂.heap.objs.size ax ((xs.length : Int) - 1 - (i : Int)) ∧ h.IsList ax (List.toArray items)) := by
    rw [← ez]; exact Walks.listRev O.hh s₂.heap.objs.size ax hne (List.toArray items)
  have hIt : 0 ≤ xs.length ∧ (s₂.heap.push (revObj ax (((List.toArray items).size : Int) - 1))).IsRevIter s₂.heap.objs.size ax ((xs.length : Int) - 1 - ((0 : Nat) : Int)) ∧ (s₂.heap.push (revObj ax (((List.toArray items).size : Int) - 1))).IsList ax (List.toArray items) := by
    refine ⟨Nat.zero_le _, ?_, hl.push _⟩
    have := hri
    rw [ez] at this ⊢
    simpa using this
  refine for_core (s₂ := { s₂ with heap := _ }) (f := fun i => [.int (xs.getD (xs.length - 1 - i) 0)]) O hk (T2.ext (t := s₂.toks) hpush) (S2.trans (Step.ext hpush)) hsI ⟨f2, f4, f5, f1⟩ hW (fun i v hiv e => ?_) hIt (fun i h e => ?_) (fun b => b = ax) (fun b q => ?_) (fun i h h' D e S nD npr => ?_) hL
  · have hj := hi.get (xs.length - 1 - i) (xs.getD (xs.length - 1 - i) 0) (by rw [List.getD_eq_getElem?_getD, List.getElem?_eq_getElem (by lia)]; rfl)
    obtain ⟨t, ht⟩ := hj
    rw [List.getElem?_toArray, ht] at e
    exact ⟨t, _, (Option.some.inj e).symm, rfl⟩
  · obtain ⟨_, ⟨o, e1, e2, e3⟩, _⟩ := e; exact alien_of e1 e2 e3
  · subst q; obtain ⟨o, e, _⟩ := hl; exact ⟨⟨o, hpush _ _ e⟩, nD⟩
  · obtain ⟨e0, ⟨o, e1, e2, e3⟩, e4⟩ := e
    exact ⟨e0, ⟨o, S.exact e1 nD f2, e2, e3⟩, S.list e4 (npr ax rfl)⟩

/-- while -/
theorem Ex1.whi {test : Expr} {body : List Stmt} {p : Pos} (J : Nat → Rho → Led → Prop) (n : Nat) (h0 : J n ρ σ)
    (turn : ∀ n ρ' σ', J n ρ' σ' → Tst prog w B F test ρ' σ' (fun _ => False) fun b σ₁ => if b = true then Ex prog w B F body ρ' σ₁ (fun _ => False) (fun ρ₂ σ₂ => ∃ m, m < n ∧ J m ρ₂ σ₂) Rt else N ρ' σ₁) :
    Ex1 prog w B F (.While test body [] p) ρ σ X N Rt := fun s T => by
  refine wpAny_While (codeAny_whileLoop (fun k s' => GotN B F σ s.heap (J k) s') ?_ n ⟨ρ, σ, T, Step.refl .., h0⟩)
  rintro k s' ⟨ρ', σ', T', S', hJ⟩
  refine wpAny_mono (turn k ρ' σ' hJ s' T') (fun b s₁ ⟨σ₁, T₁, S₁, h₁⟩ => ?_) fun _ _ q => xs_false q
  cases b with
  | false =>
    simp only [Bool.false_eq_true, if_false] at h₁ ⊢
    exact wpAny_execs_nil ⟨ρ', σ₁, T₁, S'.trans S₁, h₁⟩
  | true =>
    simp only [if_true] at h₁ ⊢
    refine wpAny_mono (h₁ s₁ T₁) (fun fl s₂ h₂ => ?_) fun _ _ q => xs_false q
    cases fl with
    | next => obtain ⟨ρ₂, σ₂, T₂, S₂, m, hm, hJ₂⟩ := h₂; exact ⟨m, hm, ρ₂, σ₂, T₂, (S'.trans S₁).trans S₂, hJ₂⟩
    | ret v => obtain ⟨ρ₂, V, σ₂, T₂, S₂, D₂, h₂⟩ := h₂; exact ⟨ρ₂, V, σ₂, T₂, (S'.trans S₁).trans S₂, D₂, h₂⟩
    | brk => exact h₂.elim
    | cont => exact h₂.elim
end
end Mine
end

-- part cJ
section
open PySem PySem.W PyProof.Rows PySem.Calls
namespace Mine
section
variable {prog : Program} {w : World} {B : Heap} {K : Frag} {F : FC} {ρ : Rho} {σ : Led} {s : Shared} {X : Addr → Prop} {Q : V → Led → Prop} {P : Bool → Led → Prop} {d : Nat}
  {N : Rho → Led → Prop} {Rt : V → Led → Prop} {E : Value → Shared → Prop} {A : Around} {M : Model}

/-- a loop over enumerate(..), before a turn -/
inductive EnumI (B : Heap) (F : FC) (σ : Led) (h0 : Heap) (en it l : Addr) (items : List Value) (J : Nat → Rho → Led → Prop) (n : Nat) : Nat → Shared → Prop
  | mk {i : Nat} {ρ' : Rho} {σ' : Led} {old : Value} {s' : Shared} (T : St B F ρ' σ' s') (S : Step (mu F σ) F.R h0 (mu F σ') F.R s'.heap) (iE : IsEnum s'.heap en it (i : Int) old) (iI : s'.heap.IsListIter it l i)
    (iL : s'.heap.IsList l (List.toArray items)) (hJ : J i ρ' σ') (hi : i ≤ n) (nE : ¬ mu F σ' en) (nI : ¬ mu F σ' it) (nL : ¬ mu F σ' l) : EnumI B F σ h0 en it l items J n (n + 1 - i) s'
theorem Ex1.forE (O : FOk B d F) {xi xv : Str} {pi pv pt p p' : Pos} {tk1 : Nat} {fe e : Expr} {body : List Stmt}
    (h : Ev prog w B F fe ρ σ X fun vf σ₁ => vf = .raw (.type "enumerate") ∧ EvL prog w B F [e] ρ σ₁ X fun vs σ₂ => ∃ V xs, vs = [V] ∧ RdF V xs ∧ Loop prog w B F [xi, xv] body xs.length (fun i => [.int i, .int (xs.getD i 0)]) ρ σ₂ N Rt)
    (hki : Ki F xi := by exact Or.inl (by rfl)) (hkv : Ki F xv := by exact Or.inl (by rfl)) (he : starEach [e] F.env = (false, eval e F.env) :: starEach [] F.env := by rfl)
    (hc : eval (.Call fe [e] [] p) F.env = (do callWith p (← eval fe F.env) [] (backTo p (starEach [e] F.env)) (backToKw p (keywordEach [] F.env))) := by rfl)
    (hs : ∀ x, foldedSetIterable (.Call fe [e] [] p) F.env x = pure x := by intro _; rfl) :
    Ex1 prog w B F (.For (.Tuple [.Name xi pi, .Name xv pv] tk1 pt) (.Call fe [e] [] p) body [] p') ρ σ X N Rt := fun s T => by
  refine wpAny_For (evalT h T (fun vs us σ₁ s₂ hK T2 S2 D2 => ?_) he rfl hc) hs
  obtain ⟨V, xs, rfl, r, hL⟩ := hK
  simp only [DenL] at D2
  obtain ⟨u, _, rfl, D2, rfl⟩ := D2
  obtain ⟨l, items, rfl, hl, hi, nD⟩ := RdF.list D2 r
  have hlen := hi.length
  refine call_enumerate_list hl fun h1 hE hIt hz hk1 => ?_
  have f0 := get_none_size0 s₂.heap
  have f0' := get_none_size s₂.heap 1
  obtain ⟨f1, f2, f3, f4, f5⟩ := T2.fresh f0
  obtain ⟨g1, g2, g3, g4, g5⟩ := T2.fresh f0'
  generalize hit : s₂.heap.objs.size = it at *
  generalize hen : it + 1 = en at *
  have hsI : ∀ b, s₂.heap.get? b = none → s.heap.get? b = none := fun b f0 => by
    cases q : s.heap.get? b with
    | none => rfl
    | some o => obtain ⟨o', e'⟩ := S2.live _ o q; rw [f0] at e'; cases e'
  have hlit : l ≠ it := fun q => by obtain ⟨o, e, _⟩ := hl; rw [q, f0] at e; cases e
  have hlen' : l ≠ en := fun q => by obtain ⟨o, e, _⟩ := hl; rw [q, f0'] at e; cases e
  have hne : en ≠ it := fun q => by rw [← hen] at q; exact absurd q (Nat.succ_ne_self it)
  have T3 : St B F ρ σ₁ { s₂ with heap := h1 } := T2.ext (t := s₂.toks) hk1
  refine wpAny_pyIter_enum (s := { s₂ with heap := h1 }) hE ?_
  obtain ⟨J, j0, jt, jn⟩ := hL
  refine codeAny_forLoop_any (EnumI B F σ s.heap en it l items J xs.length) ?_ (xs.length + 1)
    (.mk (i := 0) T3 (S2.trans (Step.ext hk1)) hE hIt (let ⟨o, e, r⟩ := hl; ⟨o, hk1 _ _ e, r⟩) j0 (Nat.zero_le _) g1 f1 nD)
  rintro k s' ⟨T', S', iE, iI, iL, hJ, hi', nE, nI, nL⟩
  rename_i i ρ' σ' old
  have alE : Alien s'.heap en := alien_of iE rfl rfl
  have alI : Alien s'.heap it := by obtain ⟨o, e1, e2, e3⟩ := id iI; exact alien_of e1 e2 e3
  by_cases hlt : i < xs.length
  · have hj := hi.get i (xs.getD i 0) (by rw [List.getD_eq_getElem?_getD, List.getElem?_eq_getElem hlt]; rfl)
    obtain ⟨t, ht⟩ := hj
    have hv : (List.toArray items)[i]? = some (.int (xs.getD i 0) t) := by rw [List.getElem?_toArray]; exact ht
    refine wpAny_pyNext_enum_item iE iI iL hv hne fun ha heo hia hta hza hka => ?_
    have Ta := T'.alien (W := fun b => b = en ∨ b = it) (t := s'.toks + 1) (h' := ha) (fun b q => q.elim (fun q => q ▸ ⟨alE, g2, g4, g5⟩) fun q => q ▸ ⟨alI, f2, f4, f5⟩) (fun b o nb e => hka b o (fun q => nb (.inl q)) (fun q => nb (.inr q)) e)
    have Sa : Step (mu F σ) F.R s.heap (mu F σ') F.R ha := ⟨⟨fun b o e nd => by
        obtain ⟨o', e', z⟩ := S'.keep b o e nd
        exact ⟨o', hka b o' (fun q => by rw [q, hsI _ f0'] at e; cases e) (fun q => by rw [q, hsI _ f0] at e; cases e) e', z⟩, S'.dom, S'.res⟩, fun b o e => by
        obtain ⟨o', e'⟩ := S'.live b o e
        exact ⟨o', hka b o' (fun q => by rw [q, hsI _ f0'] at e; cases e) (fun q => by rw [q, hsI _ f0] at e; cases e) e'⟩, S'.grow⟩
    refine wpAny_letOwnedTupleGo_enum heo fun hb heb hsb => ?_
    replace hsb : Heap.SameBut en ha hb := hsb
    have Tb := Ta.alien (W := fun b => b = en) (t := s'.toks + 1) (h' := hb) (fun b q => q ▸ ⟨alien_of heo rfl rfl, g2, g4, g5⟩) (fun b o nb e => (hsb.2 b nb).trans e)
    have Sb : Step (mu F σ) F.R s.heap (mu F σ') F.R hb := ⟨⟨fun b o e nd => by
        obtain ⟨o', e', z⟩ := Sa.keep b o e nd
        exact ⟨o', (hsb.2 b (fun q => by rw [q, hsI _ f0'] at e; cases e)).trans e', z⟩, Sa.dom, Sa.res⟩, fun b o e => by
        obtain ⟨o', e'⟩ := Sa.live b o e
        exact ⟨o', (hsb.2 b (fun q => by rw [q, hsI _ f0'] at e; cases e)).trans e'⟩, Sa.grow⟩
    have htb : hb.IsTuple s'.heap.objs.size #[.int i s'.toks, .int (xs.getD i 0) t] := ⟨_, (hsb.2 _ (Nat.ne_of_gt (Heap.lt_size iE))).trans hta, rfl, _, rfl⟩
    refine wpAny_assign_Tuple O.hh htb rfl rfl fun hc' hxc => ?_
    replace hxc : Heap.ExtBut hb.objs.size hb hc' := hxc
    have kc : ∀ b o, hb.get? b = some o → hc'.get? b = some o := fun b o e => hxc b o (Nat.ne_of_lt (Heap.lt_size e)) e
    have iIb : hb.IsListIter it l (i + 1) := by obtain ⟨o, e, r⟩ := hia; exact ⟨o, (hsb.2 _ (Ne.symm hne)).trans e, r⟩
    have iLb : hb.IsList l (List.toArray items) := by obtain ⟨o, e, r⟩ := iL; exact ⟨o, (hsb.2 _ hlen').trans (hka _ _ hlen' hlit e), r⟩
    refine stores_all O (s := { s' with heap := hc', toks := _ }) (ts := (assignEach [.Name xi pi, .Name xv pv] F.env).map (·.2)) (xs := [xi, xv]) (Vs := [.int i, .int (xs.getD i 0)]) (us := [.int i s'.toks, .int (xs.getD i 0) t])
      (.cons (fun _ _ _ _ _ _ h => assign_Name h) (.cons (fun _ _ _ _ _ _ h => assign_Name h) .nil)) (fun x hx => by
        rcases List.mem_cons.mp hx with rfl | hx
        · exact hki
        · rcases List.mem_cons.mp hx with rfl | hx
          · exact hkv
          · cases hx) rfl (Tb.ext kc) (by simp only [DenL, Den]; exact ⟨_, _, rfl, ⟨_, rfl⟩, _, _, rfl, ⟨_, rfl⟩, rfl⟩) fun s3 T3 S3 => ?_
    replace S3 : Step (mu F σ') F.R hc' (mu F σ') F.R s3.heap := S3
    have S3' : Step (mu F σ) F.R s.heap (mu F σ') F.R s3.heap := (Sb.trans (Step.ext kc)).trans S3
    have iE3 : IsEnum s3.heap en it ((i : Int) + 1) (.int (xs.getD i 0) t) := S3.exact (kc _ _ heb) nE g2
    have iI3 : s3.heap.IsListIter it l (i + 1) := by obtain ⟨o, e, r⟩ := iIb; exact ⟨o, S3.exact (kc _ _ e) nI f2, r⟩
    have iL3 : s3.heap.IsList l (List.toArray items) := S3.list (by obtain ⟨o, e, r⟩ := iLb; exact ⟨o, kc _ _ e, r⟩) nL
    refine wpAny_mono (jt i ρ' σ' hlt hJ s3 T3) (fun fl s4 h4 => ?_) fun _ _ q => xs_false q
    cases fl with
    | next =>
      obtain ⟨ρ4, σ4, T4, S4, j4⟩ := h4
      obtain ⟨oI, eI, _⟩ := id iI3
      obtain ⟨oL, eL, _⟩ := id iL3
      refine ⟨xs.length + 1 - (i + 1), by lia, .mk (i := i + 1) (old := .int (xs.getD i 0) t) T4 (S3'.trans S4) ?_ ?_ (S4.list iL3 nL) j4 (by lia) (S4.undom iE3 nE) (S4.undom eI nI) (S4.undom eL nL)⟩
      · have : ((i + 1 : Nat) : Int) = (i : Int) + 1 := Int.natCast_succ i
        rw [this]; exact S4.exact iE3 nE g2
      · obtain ⟨o, e, r⟩ := iI3; exact ⟨o, S4.exact e nI f2, r⟩
    | ret v =>
      obtain ⟨ρ4, V, σ4, T4, S4, D4, j4⟩ := h4
      exact ⟨ρ4, V, σ4, T4, S3'.trans S4, D4, j4⟩
    | brk => exact h4.elim
    | cont => exact h4.elim
  · have ei : i = xs.length := by lia
    have hv : (List.toArray items)[i]? = none := by rw [List.getElem?_toArray]; exact List.getElem?_eq_none (by lia)
    refine wpAny_pyNext_enum_end O.hh iE iI iL hv fun ha hka => wpAny_execs_nil ?_
    replace hka : Heap.ExtBut it s'.heap ha := hka
    refine ⟨ρ', σ', T'.alien (W := fun b => b = it) (t := s'.toks) (h' := ha) (fun b q => q ▸ ⟨alI, f2, f4, f5⟩) (fun b o nb e => hka b o nb e), ?_, jn _ _ (ei ▸ hJ)⟩
    exact ⟨⟨fun b o e nd => by
        obtain ⟨o', e', z⟩ := S'.keep b o e nd
        exact ⟨o', hka b o' (fun q => by rw [q, hsI _ f0] at e; cases e) e', z⟩, S'.dom, S'.res⟩, fun b o e => by
        obtain ⟨o', e'⟩ := S'.live b o e
        exact ⟨o', hka b o' (fun q => by rw [q, hsI _ f0] at e; cases e) e'⟩, S'.grow⟩
end
end Mine
end

-- part cK
section
open PySem PySem.W PyProof.Rows PySem.Calls
namespace Mine

mutual
noncomputable def fz : V → Bool
  | .par _ => false
  | .own _ => false
  | .tup vs => fzL vs
  | .inst _ es => fzE es
  | _ => true
noncomputable def fzL : List V → Bool
  | [] => true
  | v :: r => fz v && fzL r
noncomputable def fzE : List (Str × V) → Bool
  | [] => true
  | (_, v) :: r => fz v && fzE r
end
noncomputable def fzOb : Ob → Bool
  | .li _ => true
  | .lv vs => fzL vs
  | .tb _ => true

noncomputable def dm (σ : Led) : Addr → Prop := fun a => σ a ≠ none

mutual
theorem Den.conv {D R D' R' : Addr → Prop} {h : Heap} (k : ∀ b, D' b → D b) (k' : ∀ b, R' b → R b ∨ D b) : ∀ {V : V} {v : Value}, Den D R h V v → Den D' R' h V v
  | .none, _, x => by simpa only [Den] using x
  | .bool _, _, x => by simpa only [Den] using x
  | .int _, _, x => by simpa only [Den] using x
  | .str _, _, x => by simpa only [Den] using x
  | .own _, _, x => by simpa only [Den] using x
  | .fn _, _, x => by simpa only [Den] using x
  | .raw _, _, x => by simpa only [Den] using x
  | .lst _, _, x => by
    simp only [Den] at x ⊢
    obtain ⟨l, items, rfl, hl, hi, hd, hr⟩ := x
    exact ⟨l, items, rfl, hl, hi, fun q => hd (k _ q), fun q => (k' _ q).elim hr hd⟩
  | .par _, _, x => by
    simp only [Den] at x ⊢
    obtain ⟨l, items, rfl, hl, hi, hd⟩ := x
    exact ⟨l, items, rfl, hl, hi, fun q => hd (k _ q)⟩
  | .tup vs, _, x => by
    simp only [Den] at x ⊢
    obtain ⟨l, items, rfl, hl, hd, hr, hv⟩ := x
    exact ⟨l, items, rfl, hl, fun q => hd (k _ q), fun q => (k' _ q).elim hr hd, DenL.conv k k' hv⟩
  | .inst C es, _, x => by
    simp only [Den] at x ⊢
    obtain ⟨l, ox, dx, items, n, rfl, ha, he, hdx, h1, h2, h3, h4, hv⟩ := x
    exact ⟨l, ox, dx, items, n, rfl, ha, he, hdx, fun q => h1 (k _ q), fun q => (k' _ q).elim h2 h1, fun q => h3 (k _ q), fun q => (k' _ q).elim h4 h3, DenE.conv k k' hv⟩
theorem DenL.conv {D R D' R' : Addr → Prop} {h : Heap} (k : ∀ b, D' b → D b) (k' : ∀ b, R' b → R b ∨ D b) : ∀ {Vs : List V} {vs : List Value}, DenL D R h Vs vs → DenL D' R' h Vs vs
  | [], _, x => by simpa only [DenL] using x
  | V :: Vs, _, x => by
    simp only [DenL] at x ⊢
    obtain ⟨u, us, rfl, h1, h2⟩ := x
    exact ⟨u, us, rfl, Den.conv k k' h1, DenL.conv k k' h2⟩
theorem DenE.conv {D R D' R' : Addr → Prop} {h : Heap} (k : ∀ b, D' b → D b) (k' : ∀ b, R' b → R b ∨ D b) : ∀ {Vs : List (Str × V)} {vs : List DictEntry}, DenE D R h Vs vs → DenE D' R' h Vs vs
  | [], _, x => by simpa only [DenE] using x
  | (k1, V) :: Vs, _, x => by
    simp only [DenE] at x ⊢
    obtain ⟨hs, t, u, us, rfl, h1, h2⟩ := x
    exact ⟨hs, t, u, us, rfl, Den.conv k k' h1, DenE.conv k k' h2⟩
end

mutual
theorem Den.fz {D R D' R' : Addr → Prop} {h : Heap} (k : ∀ b, D' b → D b ∨ R b) (k' : ∀ b, R' b → R b ∨ D b) : ∀ {V : V} {v : Value}, fz V = true → Den D R h V v → Den D' R' h V v
  | .none, _, _, x => by simpa only [Den] using x
  | .bool _, _, _, x => by simpa only [Den] using x
  | .int _, _, _, x => by simpa only [Den] using x
  | .str _, _, _, x => by simpa only [Den] using x
  | .own _, _, _, x => by simpa only [Den] using x
  | .fn _, _, _, x => by simpa only [Den] using x
  | .raw _, _, _, x => by simpa only [Den] using x
  | .lst _, _, _, x => by
    simp only [Den] at x ⊢
    obtain ⟨l, items, rfl, hl, hi, hd, hr⟩ := x
    exact ⟨l, items, rfl, hl, hi, fun q => (k _ q).elim hd hr, fun q => (k' _ q).elim hr hd⟩
  | .par _, _, f, x => by simp [Mine.fz] at f
  | .tup vs, _, f, x => by
    simp only [Den] at x ⊢
    simp only [Mine.fz] at f
    obtain ⟨l, items, rfl, hl, hd, hr, hv⟩ := x
    exact ⟨l, items, rfl, hl, fun q => (k _ q).elim hd hr, fun q => (k' _ q).elim hr hd, DenL.fz k k' f hv⟩
  | .inst C es, _, f, x => by
    simp only [Den] at x ⊢
    simp only [Mine.fz] at f
    obtain ⟨l, ox, dx, items, n, rfl, ha, he, hdx, h1, h2, h3, h4, hv⟩ := x
    exact ⟨l, ox, dx, items, n, rfl, ha, he, hdx, fun q => (k _ q).elim h1 h2, fun q => (k' _ q).elim h2 h1, fun q => (k _ q).elim h3 h4, fun q => (k' _ q).elim h4 h3, DenE.fz k k' f hv⟩
theorem DenL.fz {D R D' R' : Addr → Prop} {h : Heap} (k : ∀ b, D' b → D b ∨ R b) (k' : ∀ b, R' b → R b ∨ D b) : ∀ {Vs : List V} {vs : List Value}, fzL Vs = true → DenL D R h Vs vs → DenL D' R' h Vs vs
  | [], _, _, x => by simpa only [DenL] using x
  | V :: Vs, _, f, x => by
    simp only [DenL] at x ⊢
    simp only [fzL, Bool.and_eq_true] at f
    obtain ⟨u, us, rfl, h1, h2⟩ := x
    exact ⟨u, us, rfl, Den.fz k k' f.1 h1, DenL.fz k k' f.2 h2⟩
theorem DenE.fz {D R D' R' : Addr → Prop} {h : Heap} (k : ∀ b, D' b → D b ∨ R b) (k' : ∀ b, R' b → R b ∨ D b) : ∀ {Vs : List (Str × V)} {vs : List DictEntry}, fzE Vs = true → DenE D R h Vs vs → DenE D' R' h Vs vs
  | [], _, _, x => by simpa only [DenE] using x
  | (k1, V) :: Vs, _, f, x => by
    simp only [DenE] at x ⊢
    simp only [fzE, Bool.and_eq_true] at f
    obtain ⟨hs, t, u, us, rfl, h1, h2⟩ := x
    exact ⟨hs, t, u, us, rfl, Den.fz k k' f.1 h1, DenE.fz k k' f.2 h2⟩
end

noncomputable def PH0 (h : Heap) (σ : Led) : PH := fun b => match σ b with | none => h.get? b | some _ => none
theorem ph0_none {h : Heap} {σ : Led} {b : Addr} (e : σ b = none) : PH0 h σ b = h.get? b := by unfold PH0; rw [e]
theorem ph0_some {h : Heap} {σ : Led} {b : Addr} {o : Obj} (e : PH0 h σ b = some o) : σ b = none ∧ h.get? b = some o := by
  unfold PH0 at e
  split at e
  · exact ⟨by assumption, e⟩
  · cases e

structure AOk (d : Nat) (A : Around) (outer : List Env) : Prop where
  hh : A.handled = none
  hfr : A.frames = some outer
  hd : A.depth + d + 1 < recursionLimit
  hu : A.units + 10 * d + 100 < cLine

structure StG (B : Heap) (outer : List Env) (R : Addr → Prop) (σ : Led) (s : Shared) : Prop where
  base : B.StaysIn s.heap
  frames : s.heap.FunFrames B outer
  Rfr : ∀ b, frs outer b → R b
  RA : ∀ b, R b → ∃ o, s.heap.get? b = some o
  led : ∀ a ob, σ a = some ob → B.get? a = none ∧ ¬ R a ∧ DenOb (dm σ) R s.heap ob a

section
variable (prog : Program) (w : World) (B : Heap)
inductive PostO (outer : List Env) (R : Addr → Prop) (σ : Led) (s : Shared) (Q : V → Led → Prop) (v : Value) (s' : Shared) : Prop
  | mk (V : V) (σ' : Led) (q : Q V σ') (hz : fz V = true) (hd : Den (dm σ) R s'.heap V v) (hl : ∀ a, dm σ a → ∃ ob, σ' a = some ob ∧ fzOb ob = true ∧ DenOb (dm σ) R s'.heap ob a)
    (kp : KeepF (frs outer) (PH0 s.heap σ) s'.heap) (hb : B.StaysIn s'.heap) (sh : ∃ h t, s' = { s with heap := h, toks := t })
noncomputable def PostG (outer : List Env) (R : Addr → Prop) (σ : Led) (s : Shared) (Q : V → Led → Prop) (X : Addr → Prop) (r : Result) (s' : Shared) : Prop :=
  match r with
  | .ok (.ret v) => PostO B outer R σ s Q v s'
  | .ok _ => False
  | .error v => Xs B outer (PH0 s.heap σ) s X v s'
/-- what the function at f does -/
noncomputable def CallG (d : Nat) (f : Addr) (args : List V) (σ : Led) (Q : V → Led → Prop) (X : Addr → Prop) : Prop :=
  ∀ A outer R s vals, AOk d A outer → StG B outer R σ s → DenL (dm σ) R s.heap args vals →
    codeAny (model prog w) A (.call (.ref f) ⟨vals, []⟩) (PostG B outer R σ s Q X) s
end

theorem mono_xs {B : Heap} {fr : List Env} {h0 : PH} {s0 : Shared} {X X' : Addr → Prop} {v : Value} {s' : Shared} (k : ∀ C, X C → X' C) (h : Xs B fr h0 s0 X v s') : Xs B fr h0 s0 X' v s' := by
  obtain ⟨e, C, Bx, a, b, c, x1, x2, x3, x4, x5, x6, x7⟩ := h; exact ⟨e, C, Bx, a, k _ b, c, x1, x2, x3, x4, x5, x6, x7⟩

section
variable {prog : Program} {w : World} {B : Heap} {K : Frag} {F : FC} {ρ : Rho} {σ σv : Led} {s : Shared} {X X' : Addr → Prop} {Q : V → Led → Prop} {d : Nat}
  {N : Rho → Led → Prop} {Rt : V → Led → Prop} {E : Value → Shared → Prop} {A : Around} {M : Model}

theorem CallG.mono {f : Addr} {args : List V} {Q Q' : V → Led → Prop} (h : CallG prog w B d f args σ Q X) (hq : ∀ V σ', Q V σ' → Q' V σ') (hx : ∀ C, X C → X' C) : CallG prog w B d f args σ Q' X' :=
  fun A outer R s vals a b c => codeAny_mono (h A outer R s vals a b c) fun r s' p => by
    cases r with
    | error v => exact mono_xs hx p
    | ok fl => cases fl with
      | ret v => obtain ⟨V, σ', q, r1, r2, r3, r4, r5, r6⟩ := p; exact ⟨V, σ', hq _ _ q, r1, r2, r3, r4, r5, r6⟩
      | _ => exact p

/-- an exception leaves a frame -/
theorem leave_xs {env : Env} {outer : List Env} {h0 : PH} {s0 s' : Shared} {v : Value} {Q : Unit → Shared → Prop} (h : Xs B (env :: outer) h0 s0 X v s') (hfr : A.frames = some (env :: outer)) (hf : env.frame = some L) (h0L : h0 L = none)
    (k : ∀ s'', Xs B outer h0 s0 X v s'' → Q () s'') : wpAny M A (leaving env v) Q E s' := by
  obtain ⟨e, C, Bx, rfl, hX, ⟨hh, tt, rfl⟩, x1, x2, x3, x4, x5, x6, x7⟩ := h
  have fin : ∀ h', Heap.Left Bx (env :: outer) e (.ref C) hh h' → Q () { s0 with heap := h', toks := tt } := fun h' ⟨y1, y2, y3, y4⟩ => by
    refine k _ ⟨e, C, Bx, rfl, hX, ⟨h', tt, rfl⟩, x1, y1, x3, y2.2.2, fun b o q nf => ?_, fun b o q => ?_, .inr y3⟩
    · refine x5 b o q fun z => nf ?_
      unfold frs at z ⊢
      rw [List.filterMap_cons, hf] at z
      rcases List.mem_cons.mp z with rfl | z
      · rw [h0L] at q; cases q
      · exact z
    · obtain ⟨o', e', z⟩ := x6 b o q
      by_cases hb : frs outer b
      · have hm : b ∈ (env :: outer).filterMap (·.frame) := by rw [List.filterMap_cons, hf]; exact List.mem_cons_of_mem _ hb
        obtain ⟨_, o2, e2, nf⟩ := x4.mem hm
        rw [e'] at e2; cases e2
        obtain ⟨sl, e3⟩ := y4 b _ e' nf
        refine ⟨_, e3, .inr ⟨hb, sl, ?_⟩⟩
        rcases z with rfl | ⟨_, sl', rfl⟩ <;> rfl
      · have hb' : ¬ frs (env :: outer) b := fun z => hb (by
          unfold frs at z ⊢
          rw [List.filterMap_cons, hf] at z
          rcases List.mem_cons.mp z with rfl | z
          · rw [h0L] at q; cases q
          · exact z)
        exact ⟨o, y1 b o (x5 b o q hb'), .inl rfl⟩
  rcases x7 with ⟨oe, vs, e1, e2, e3, e4⟩ | x7
  · exact wpAny_leaving_first hfr x4 hf e1 x2 x3 e3 e4 fun h' hl => fin h' (e2 ▸ hl)
  · exact wpAny_leaving_next hfr x4 hf x7 x2 x3 fun h' hl => fin h' hl
end
end Mine
end

-- part cL
section
open PySem PySem.W PyProof.Rows PySem.Calls
namespace Mine

noncomputable def rho0 (names : List Str) (args : List V) : Rho := sets (fun _ => none) names args
noncomputable def mkF (A : Around) (env : Env) (outer : List Env) (h0 : PH) (R : Addr → Prop) (s0 : Shared) : FC := ⟨A, env, outer, h0, R, s0⟩
/-- what goes back to the caller -/
noncomputable def Bk (σv : Led) (Q : V → Led → Prop) (V : V) (σ' : Led) : Prop :=
  (∀ a ob, σv a ≠ none → σ' a = some ob → fzOb ob = true) ∧ ∃ V', Q V' σ' ∧ fz V' = true ∧ (V' = V ∨ ∃ a xs, V = .own a ∧ σv a = none ∧ σ' a = some (.li xs) ∧ V' = .lst xs)

section
variable {prog : Program} {w : World} {B : Heap} {K : Frag} {F : FC} {ρ : Rho} {σ σv : Led} {s : Shared} {X X' : Addr → Prop} {Q : V → Led → Prop} {d : Nat}
  {N : Rho → Led → Prop} {Rt : V → Led → Prop} {E : Value → Shared → Prop} {A : Around} {M : Model}

theorem sets_lookup {D R : Addr → Prop} {h : Heap} : ∀ {names : List Str} {Vs : List V} {us : List Value} {r : Rho} {x : Str} {V : V}, Vs.length = names.length → DenL D R h Vs us → sets r names Vs x = some V →
    (∃ v, (names.zip us).reverse.lookup x = some v ∧ Den D R h V v) ∨ ((names.zip us).reverse.lookup x = none ∧ r x = some V)
  | [], Vs, us, r, x, V, hl, D, e => by
    cases Vs with
    | nil => exact .inr ⟨rfl, e⟩
    | cons v r => simp at hl
  | n :: names, Vs, us, r, x, V, hl, D, e => by
    cases Vs with
    | nil => simp at hl
    | cons W Vs =>
      simp only [DenL] at D
      obtain ⟨u, us', rfl, D1, D2⟩ := D
      simp only [sets] at e
      rw [List.zip_cons_cons, List.reverse_cons, List.lookup_append]
      rcases sets_lookup (r := setv r n W) (by simpa using hl) D2 e with ⟨v, e1, d1⟩ | ⟨e1, e2⟩
      · exact .inl ⟨v, by rw [e1]; rfl, d1⟩
      · rw [e1]
        unfold setv at e2
        by_cases q : x = n
        · simp only [q, if_true, Option.some.injEq] at e2
          subst e2; subst q
          exact .inl ⟨u, by simp, D1⟩
        · simp only [q, if_false] at e2
          exact .inr ⟨by simp [q], e2⟩

theorem lookup_mem {x : Str} {v : Value} : ∀ {l : List (Str × Value)}, l.lookup x = some v → (x, v) ∈ l
  | [], e => by cases e
  | p :: r, e => by
    rw [List.lookup_cons] at e
    split at e
    · rename_i q
      have := beq_iff_eq.mp q
      obtain ⟨p1, p2⟩ := p
      simp only at this e
      subst this; cases e; exact .head _
    · exact .tail _ (lookup_mem e)

theorem no_cell {sc : Scope} (h : ∀ x ∈ sc.names, x.2 ≠ .cell) {x : Str} : sc.names.lookup x ≠ some .cell := fun e => by
  have : ∀ l : List (Str × NameKind), (∀ x ∈ l, x.2 ≠ .cell) → l.lookup x ≠ some .cell := by
    intro l
    induction l with
    | nil => intro _ e; cases e
    | cons p r ih =>
      intro hl e
      rw [List.lookup_cons] at e
      split at e
      · exact hl p (.head _) (Option.some.inj e)
      · exact ih (fun y hy => hl y (.tail _ hy)) e
  exact this _ h e

theorem call_fn {name qual : Str} {params : Arguments} {body : List Stmt} {scope : Scope} {dV kV doc pm cdv ct oc : Value} {an od : Option Addr} {osl : Array (Option Value)} {f : Addr} {args : List V} {names : List Str}
    (G : GOk B K) (ho : K.lookup f = some ⟨oc, od, .func (fnOf name qual params body scope dV kV doc pm an cdv ct), osl⟩) (hcd : codeIn K cdv qual = true)
    (hlen : args.length = names.length) (hbind : ∀ us : List Value, us.length = names.length → bindArgs (fnOf name qual params body scope dV kV doc pm an cdv ct) ⟨us, []⟩ = pure (names.zip us))
    (hloc : ∀ x ∈ names, scope.names.lookup x = some .local) (hcell : ∀ x ∈ scope.names, x.2 ≠ .cell)
    (hco : scope.isCoroutine = false) (hgen : scope.isGenerator = false) (hk : scope.kind = .function)
    (h : ∀ A outer h0 R s0 L, FOk B d (mkF A (envOf qual scope L f cdv) outer h0 R s0) → Ex prog w B (mkF A (envOf qual scope L f cdv) outer h0 R s0) body (rho0 names args) σv X (fun _ σ' => Bk σv Q .none σ') (Bk σv Q)) :
    CallG prog w B (d + 1) f args σv Q X := fun A outer R s vals hA hG hD => by
  have hlv : vals.length = names.length := (denL_len hD).trans hlen
  have hloc' : ∀ x ∈ names.zip vals, scope.names.lookup x.1 = some .local := fun x hx => hloc x.1 (List.of_mem_zip hx).1
  refine codeAny_call_def (fd := fnOf name qual params body scope dV kV doc pm an cdv ct) (body := body) (binds := names.zip vals) (by have := hA.hd; lia) (hG.base _ _ (G.kin _ _ ho)) rfl (G.lim.keeps hG.base) ((codeRec_of G.kin hcd).keeps hG.base) rfl (.of_eq (hbind vals hlv)) hcell hloc' (fun h₁ hns hk₁ => ?_) hco hgen hk
  show wpAny (model prog w) (A.deeper (envOf qual scope s.heap.objs.size f cdv)) (execs body (envOf qual scope s.heap.objs.size f cdv)) _ _ _
  generalize hL : s.heap.objs.size = L at *
  have fL : s.heap.get? L = none := hL ▸ get_none_size0 s.heap
  have BL : B.get? L = none := by
    cases q : B.get? L with
    | none => rfl
    | some o => have := hG.base _ _ q; rw [fL] at this; cases this
  let F : FC := mkF (A.deeper (envOf qual scope L f cdv)) (envOf qual scope L f cdv) outer (PH0 s.heap σv) (fun b => R b ∨ b = L) s
  have vL : σv L = none := by
    cases q : σv L with
    | none => rfl
    | some ob =>
      obtain ⟨_, _, q⟩ := hG.led L ob q
      cases ob with
      | li xs => obtain ⟨_, _, e, _⟩ := q; rw [fL] at e; cases e
      | lv xs => obtain ⟨_, _, e, _⟩ := q; rw [fL] at e; cases e
      | tb l => obtain ⟨_, e, _⟩ := q; rw [fL] at e; cases e
  have nc : ∀ x, F.env.kindOf x ≠ some .cell := fun x => no_cell hcell
  have mus : ∀ b, mu F σv b ↔ dm σv b ∨ b = L := fun b => by
    unfold mu dm
    constructor
    · rintro (q | q | ⟨x, q, _⟩)
      · exact .inl q
      · exact .inr q
      · exact absurd q (nc x)
    · rintro (q | q)
      · exact .inl q
      · exact .inr (.inl q)
  have nfr : ¬ frs outer L := fun q => by obtain ⟨o, e⟩ := hG.RA L (hG.Rfr L q); rw [fL] at e; cases e
  have O : FOk B d F := by
    refine ⟨hA.hh, Around.frames_deeper hA.hfr, ?_, ?_, rfl, hk, rfl, rfl, .inr rfl, fun b q => .inl (hG.Rfr b q), ?_, fun x c q => absurd q (nc x), fun x y c q => ?_, BL⟩
    · show A.depth + 1 + d + 1 < recursionLimit
      have := hA.hd; lia
    · show A.units + 3 + 10 * d + 100 < cLine
      have := hA.hu; lia
    · show PH0 s.heap σv L = none
      rw [ph0_none vL]; exact fL
    · have : ([] : List (Str × Addr)).lookup x = some c := q
      cases this
  have S0 : Stp (dm σv) R s.heap (mu F σv) F.R h₁ := by
    refine ⟨fun b o e _ => ⟨o, hk₁ b o e, .inl rfl⟩, fun b o e q => ?_, fun b o e q => ?_⟩
    · rcases (mus b).mp q with q | q
      · exact q
      · rw [q, fL] at e; cases e
    · rcases q with q | q
      · exact q
      · rw [q, fL] at e; cases e
  have hDen : DenL (mu F σv) F.R h₁ args vals := hD.stp S0
  have T0 : St B F (rho0 names args) σv { s with heap := h₁, toks := s.toks + (names.zip vals).length } := by
    refine ⟨fun b o e => hk₁ b o (hG.base b o e), ?_, fun b o e => ⟨o, hk₁ b o (ph0_some e).2, .inl rfl⟩, ⟨_, hns, fun x V e => ?_⟩, fun x c q => absurd q (nc x), fun a ob e => ?_, fun b q => ?_, ⟨_, _, rfl⟩⟩
    · exact .cons (by show scope.kind ≠ .module; rw [hk]; decide) rfl hns BL (funFrames_chg (fun b o e nf => ⟨o, hk₁ b o e, nf⟩) hG.frames)
    · rcases sets_lookup hlen hDen e with ⟨v, e1, d1⟩ | ⟨_, e2⟩
      · refine ⟨v, .inl ⟨?_, e1⟩, d1⟩
        exact hloc' _ (List.mem_reverse.mp (lookup_mem e1))
      · cases e2
    · obtain ⟨g1, g2, g3⟩ := hG.led a ob e
      refine ⟨?_, g1, ?_, ?_⟩
      · show PH0 s.heap σv a = none
        unfold PH0; rw [e]
      · rintro (q | q)
        · exact g2 q
        · rw [q, vL] at e; cases e
      · cases ob with
        | li xs => obtain ⟨items, n, e1, e2⟩ := g3; exact ⟨items, n, hk₁ _ _ e1, e2⟩
        | lv xs => obtain ⟨items, n, e1, e2⟩ := g3; exact ⟨items, n, hk₁ _ _ e1, e2.stp S0⟩
        | tb l => obtain ⟨ps, e1, e2⟩ := g3; exact ⟨ps, hk₁ _ _ e1, e2⟩
    · rcases q with q | q
      · obtain ⟨o, e⟩ := hG.RA b q; exact ⟨o, hk₁ b o e⟩
      · subst q; obtain ⟨o', es', ep', e', _⟩ := ns_get hns; exact ⟨o', e'⟩
  have fin : ∀ (v : Value) (V : V) (ρ' : Rho) (σ' : Led) (s' : Shared), St B F ρ' σ' s' → Step (mu F σv) F.R h₁ (mu F σ') F.R s'.heap → Den (mu F σ') F.R s'.heap V v → Bk σv Q V σ' → PostG B outer R σv s Q X (.ok (.ret v)) s' := by
    intro v V ρ' σ' s' T' S' D' ⟨hob, V', hq, hz, hV⟩
    have gr : ∀ a, dm σv a → σ' a ≠ none := fun a q => by
      rcases S'.grow a ((mus a).mpr (.inl q)) with z | z | ⟨x, z, _⟩
      · exact z
      · have z' : a = L := z
        rw [z'] at q; exact absurd vL q
      · exact absurd z (nc x)
    have dmu : ∀ b, dm σv b → mu F σ' b := fun b q => .inl (gr b q)
    refine ⟨V', σ', hq, hz, ?_, fun a q => ?_, T'.keep, T'.base, T'.sh⟩
    · rcases hV with rfl | ⟨a, xs, rfl, e1, e2, rfl⟩
      · exact D'.sub dmu fun b q => .inl q
      · simp only [Den] at D' ⊢
        obtain ⟨g1, g2, g3, items, n, e3, e4⟩ := T'.led a _ e2
        exact ⟨a, items, D', ⟨_, e3, rfl, n, rfl⟩, e4, fun z => z e1, fun z => g3 (.inl z)⟩
    · cases e : σ' a with
      | none => exact absurd e (gr a q)
      | some ob =>
        obtain ⟨g1, g2, g3, g4⟩ := T'.led a ob e
        refine ⟨ob, rfl, hob a ob q e, ?_⟩
        cases ob with
        | li xs => exact g4
        | lv xs => obtain ⟨items, n, e1, e2⟩ := g4; exact ⟨items, n, e1, e2.sub dmu fun b q => .inl q⟩
        | tb l => exact g4
  refine wpAny_mono (h _ _ _ _ _ _ O _ T0) (fun fl s' hl => ?_) fun v s' hx => leave_xs (A := A.deeper (envOf qual scope L f cdv)) hx (Around.frames_deeper hA.hfr) rfl (by show PH0 s.heap σv L = none; rw [ph0_none vL]; exact fL) fun s'' k => k
  cases fl with
  | next => obtain ⟨ρ', σ', T', S', hb⟩ := hl; exact fin .none .none ρ' σ' s' T' S' (by simp [Den]) hb
  | ret v => obtain ⟨ρ', V, σ', T', S', D', hb⟩ := hl; exact fin v V ρ' σ' s' T' S' D' hb
  | brk => exact hl.elim
  | cont => exact hl.elim
end
end Mine
end

-- part cM
section
open PySem PySem.W PyProof.Rows PySem.Calls
namespace Mine

noncomputable def Arg (σ σv : Led) (V V' : Mine.V) : Prop := V' = V ∨ ∃ xs, V' = .par xs ∧ (RdF V xs ∨ ∃ a, V = .own a ∧ σ a = some (.li xs) ∧ σv a = none)
noncomputable def ArgsOk (σ σv : Led) : List V → List V → Prop
  | [], [] => True
  | a :: r, b :: t => Arg σ σv a b ∧ ArgsOk σ σv r t
  | _, _ => False
noncomputable def mrg (σ σv σ' : Led) : Led := fun a => match σv a with | none => σ a | some _ => σ' a

section
variable {prog : Program} {w : World} {B : Heap} {K : Frag} {F : FC} {ρ : Rho} {σ σv : Led} {s : Shared} {X X' : Addr → Prop} {Q : V → Led → Prop} {d : Nat}
  {N : Rho → Led → Prop} {Rt : V → Led → Prop} {E : Value → Shared → Prop} {A : Around} {M : Model}

theorem args_den {D' R' : Addr → Prop} (T : St B F ρ σ s) (k : ∀ b, D' b → mu F σ b) (kv : ∀ b, D' b → σv b ≠ none) (k' : ∀ b, R' b → F.R b ∨ mu F σ b) : ∀ {as bs : List V} {us : List Value}, ArgsOk σ σv as bs → DenL (mu F σ) F.R s.heap as us → DenL D' R' s.heap bs us
  | [], [], us, _, D => by simpa only [DenL] using D
  | [], _ :: _, _, h, _ => by simp [ArgsOk] at h
  | _ :: _, [], _, h, _ => by simp [ArgsOk] at h
  | a :: as, b :: bs, us, h, D => by
    simp only [ArgsOk] at h
    simp only [DenL] at D ⊢
    obtain ⟨u, us', rfl, D1, D2⟩ := D
    refine ⟨u, us', rfl, ?_, args_den T k kv k' h.2 D2⟩
    rcases h.1 with rfl | ⟨xs, rfl, hr | ⟨c, rfl, e1, e2⟩⟩
    · exact D1.conv k k'
    · obtain ⟨l, items, rfl, hl, hi, nD⟩ := RdF.list D1 hr
      simp only [Den]
      exact ⟨l, items, rfl, hl, hi, fun q => nD (k _ q)⟩
    · simp only [Den] at D1 ⊢
      obtain ⟨_, _, _, items, n, e3, e4⟩ := T.led c _ e1
      exact ⟨c, items, D1, ⟨_, e3, rfl, n, rfl⟩, e4, fun q => kv _ q e2⟩

theorem funFrames_chgm {h h' base : Heap} : ∀ {l : List Env}, (∀ b o, frs l b → h.get? b = some o → (∀ vs, o.data ≠ .fields vs) → ∃ o', h'.get? b = some o' ∧ ∀ vs, o'.data ≠ .fields vs) → h.FunFrames base l → h'.FunFrames base l
  | [], _, _ => trivial
  | env :: rest, k, hl => by
    obtain ⟨hk, ⟨L, o, hf, hn, ho, hd⟩, hr⟩ := hl
    obtain ⟨o', ho', hd'⟩ := k L o (by unfold frs; rw [List.filterMap_cons, hf]; exact .head _) ho hd
    refine ⟨hk, ⟨L, o', hf, hn, ho', hd'⟩, funFrames_chgm (fun b o z => k b o ?_) hr⟩
    unfold frs at z ⊢; rw [List.filterMap_cons, hf]; exact List.mem_cons_of_mem _ z

theorem opn_at (O : FOk B d F) {q : Addr} {args args' : List V} {Q' : V → Led → Prop} {us : List Value} (T : St B F ρ σ s) (D : DenL (mu F σ) F.R s.heap args us)
    (C : ∀ R2 : Addr → Prop, (∀ b, R2 b → F.R b ∨ mu F σ b) → AOk d F.A (F.env :: F.outer) → StG B (F.env :: F.outer) R2 σv s → DenL (dm σv) R2 s.heap args' us →
      codeAny (model prog w) F.A (.call (.ref q) ⟨us, []⟩) (PostG B (F.env :: F.outer) R2 σv s Q' X') s)
    (hv : ∀ a ob, σv a = some ob → σ a = some ob) (hfz : ∀ a ob, σv a = some ob → fzOb ob = true) (ha : ArgsOk σ σv args args') (hX : ∀ C, X' C → X C)
    (k : ∀ V σ', Q' V σ' → Q V (mrg σ σv σ')) : wpAny (model prog w) F.A (call (.ref q) us)
    (Got B F ρ σ s.heap Q)
    (Xs B (F.env :: F.outer) F.h0 F.s0 X) s := by
  have dmm : ∀ b, dm σv b → mu F σ b := fun b z => .inl (by
    cases e : σv b with
    | none => exact absurd e z
    | some ob => rw [hv b ob e]; simp)
  let R2 : Addr → Prop := fun b => F.R b ∨ (mu F σ b ∧ σv b = none)
  have frR : ∀ b, frs (F.env :: F.outer) b → F.R b := fun b z => by
    unfold frs at z
    rw [List.filterMap_cons, O.hf] at z
    rcases List.mem_cons.mp z with rfl | z
    · exact O.RL
    · exact O.Rfr b z
  obtain ⟨m, hn, hvl⟩ := T.loc
  obtain ⟨oL, esL, epL, hL, hLd⟩ := ns_get hn
  have muA : ∀ b, mu F σ b → ∃ o, s.heap.get? b = some o := fun b z => by
    cases e : s.heap.get? b with
    | some o => exact ⟨o, rfl⟩
    | none => exact absurd z (T.fresh e).1
  have hG : StG B (F.env :: F.outer) R2 σv s := by
    refine ⟨T.base, T.frames, fun b z => .inl (frR b z), fun b z => z.elim (T.RA b) fun z => muA b z.1, fun a ob e => ?_⟩
    obtain ⟨g1, g2, g3, g4⟩ := T.led a ob (hv a ob e)
    refine ⟨g2, fun z => z.elim g3 (fun z => by rw [z.2] at e; cases e), ?_⟩
    cases ob with
    | li xs => exact g4
    | lv xs => obtain ⟨items, n, e1, e2⟩ := g4; exact ⟨items, n, e1, e2.conv dmm fun b z => z.imp id fun z => z.1⟩
    | tb l => exact g4
  have hD : DenL (dm σv) R2 s.heap args' us := args_den T dmm (fun b z => z) (fun b z => z.imp id fun z => z.1) ha D
  refine wpAny_call (codeAny_mono (C R2 (fun b z => z.imp id fun z => z.1) ⟨O.hh, O.hfr, O.hd, O.hu⟩ hG hD) fun r s' p => ?_)
  cases r with
  | error v =>
    obtain ⟨e, C, Bx, rfl, hC, ⟨h, t, rfl⟩, x1, x2, x3, x4, x5, x6, x7⟩ := p
    have h0v : ∀ b o, F.h0 b = some o → σv b = none := fun b o z => by
      cases e : σv b with
      | none => rfl
      | some ob => have := (T.led b ob (hv b ob e)).1; rw [this] at z; cases z
    refine ⟨e, C, Bx, rfl, hX C hC, ?_, x1, x2, x3, x4, fun b o z nf => ?_, fun b o z => ?_, x7⟩
    · obtain ⟨h1, t1, e1⟩ := T.sh; exact ⟨h, t, by rw [e1]⟩
    · obtain ⟨o', e', q⟩ := T.keep b o z
      have q' : o' = o := q.elim id fun q => absurd (show frs (F.env :: F.outer) b from by
        unfold frs; rw [List.filterMap_cons, O.hf]; exact List.mem_cons_of_mem _ q.1) nf
      subst q'
      exact x5 b o' (by rw [ph0_none (h0v b _ z)]; exact e') nf
    · obtain ⟨o', e', q⟩ := T.keep b o z
      obtain ⟨o'', e'', q'⟩ := x6 b o' (by rw [ph0_none (h0v b _ z)]; exact e')
      refine ⟨o'', e'', ?_⟩
      rcases q with rfl | ⟨r, sl, rfl⟩
      · exact q'
      · rcases q' with rfl | ⟨r', sl', rfl⟩
        · exact .inr ⟨by unfold frs at r ⊢; rw [List.filterMap_cons, O.hf]; exact List.mem_cons_of_mem _ r, sl, rfl⟩
        · exact .inr ⟨r', sl', rfl⟩
  | ok fl =>
    cases fl with
    | next => exact p.elim
    | brk => exact p.elim
    | cont => exact p.elim
    | ret v =>
      obtain ⟨V, σ', hq, hz, hd, hled, kp, hb, h, t, rfl⟩ := p
      dsimp only at hd hled kp hb ⊢
      have mum : ∀ b, mu F (mrg σ σv σ') b ↔ mu F σ b := fun b => by
        unfold mu mrg
        cases e : σv b with
        | none => simp only
        | some ob =>
          obtain ⟨ob', e', _⟩ := hled b (by show σv b ≠ none; rw [e]; simp)
          simp only [e', hv b ob e]
          constructor <;> (intro _; left; simp)
      have vR : ∀ b, ¬ mu F σ b → σv b = none := fun b nb => by
        cases e : σv b with
        | none => rfl
        | some ob => exact absurd (dmm b (by show σv b ≠ none; rw [e]; simp)) nb
      have S : Step (mu F σ) F.R s.heap (mu F (mrg σ σv σ')) F.R h := by
        refine ⟨⟨fun b o e nb => ?_, fun b o e z => (mum b).mp z, fun _ _ _ z => z⟩, fun b o e => ?_, fun b z => (mum b).mpr z⟩
        · obtain ⟨o', e', q⟩ := kp b o (by rw [ph0_none (vR b nb)]; exact e)
          exact ⟨o', e', q.imp id fun q => ⟨frR b q.1, q.2⟩⟩
        · cases z : σv b with
          | none => obtain ⟨o', e', _⟩ := kp b o (by rw [ph0_none z]; exact e); exact ⟨o', e'⟩
          | some ob =>
            obtain ⟨ob', _, _, q⟩ := hled b (by show σv b ≠ none; rw [z]; simp)
            cases ob' with
            | li xs => obtain ⟨items, n, e1, _⟩ := q; exact ⟨_, e1⟩
            | lv xs => obtain ⟨items, n, e1, _⟩ := q; exact ⟨_, e1⟩
            | tb l => obtain ⟨ps, e1, _⟩ := q; exact ⟨_, e1⟩
      have vnl : ∀ b o, s.heap.get? b = some o → (∀ x n, o.data ≠ .seq x n) → (∀ x, o.data ≠ .fields x) → σv b = none := fun b o e nd nd2 => by
        cases z : σv b with
        | none => rfl
        | some ob =>
          obtain ⟨_, _, _, q⟩ := T.led b ob (hv b ob z)
          cases ob with
          | li xs => obtain ⟨items, n, e1, _⟩ := q; rw [e] at e1; cases e1; exact absurd rfl (nd _ _)
          | lv xs => obtain ⟨items, n, e1, _⟩ := q; rw [e] at e1; cases e1; exact absurd rfl (nd _ _)
          | tb l => obtain ⟨ps, e1, _⟩ := q; rw [e] at e1; cases e1; exact absurd rfl (nd2 _)
      have dat : ∀ b o, s.heap.get? b = some o → (∀ x n, o.data ≠ .seq x n) → (∀ x, o.data ≠ .fields x) → ∃ o', h.get? b = some o' ∧ o'.data = o.data := fun b o e nd nd2 => by
        obtain ⟨o', e', q⟩ := kp b o (by rw [ph0_none (vnl b o e nd nd2)]; exact e)
        rcases q with rfl | ⟨_, sl, rfl⟩
        · exact ⟨_, e', rfl⟩
        · exact ⟨_, e', rfl⟩
      have cellk : ∀ c v, s.heap.IsCell c v → h.IsCell c v := fun c v ⟨o, e, dd⟩ => by
        obtain ⟨o', e', d'⟩ := dat c o e (fun x n q => by rw [dd] at q; cases q) (fun x q => by rw [dd] at q; cases q)
        exact ⟨o', e', d'.trans dd⟩
      have fzD : ∀ {V : Mine.V} {v : Value}, fz V = true → Den (dm σv) R2 h V v → Den (mu F (mrg σ σv σ')) F.R h V v := fun hz hd =>
        hd.fz (fun b z => by
          have z' := (mum b).mp z
          cases e : σv b with
          | none => exact .inr (.inr ⟨z', e⟩)
          | some ob => exact .inl (by show σv b ≠ none; rw [e]; simp)) (fun b z => .inl (.inl z)) hz
      have fzDL : ∀ {V : List Mine.V} {v : List Value}, fzL V = true → DenL (dm σv) R2 h V v → DenL (mu F (mrg σ σv σ')) F.R h V v := fun hz hd =>
        hd.fz (fun b z => by
          have z' := (mum b).mp z
          cases e : σv b with
          | none => exact .inr (.inr ⟨z', e⟩)
          | some ob => exact .inl (by show σv b ≠ none; rw [e]; simp)) (fun b z => .inl (.inl z)) hz
      refine ⟨V, mrg σ σv σ', ⟨hb, ?_, ?_, ⟨m, ?_, fun y W e => ?_⟩, ?_, fun a ob e => ?_, fun b z => ?_, ?_⟩, S, fzD hz hd, k _ _ hq⟩
      · refine funFrames_chgm (fun b o fb e nf => ?_) T.frames
        cases z : σv b with
        | none =>
          obtain ⟨o', e', q⟩ := kp b o (by rw [ph0_none z]; exact e)
          rcases q with rfl | ⟨_, sl, rfl⟩
          · exact ⟨_, e', nf⟩
          · exact ⟨_, e', nf⟩
        | some ob =>
          exact absurd (frR b fb) (T.led b ob (hv b ob z)).2.2.1
      · intro b o z
        obtain ⟨o', e', q⟩ := T.keep b o z
        have hvb : σv b = none := by
          cases e : σv b with
          | none => rfl
          | some ob => have := (T.led b ob (hv b ob e)).1; rw [this] at z; cases z
        obtain ⟨o'', e'', q'⟩ := kp b o' (by rw [ph0_none hvb]; exact e')
        have bL : b ≠ F.env.locals := fun y => by rw [y, O.h0L] at z; cases z
        have frb : frs (F.env :: F.outer) b → frs F.outer b := fun y => by
          unfold frs at y ⊢
          rw [List.filterMap_cons, O.hf] at y
          rcases List.mem_cons.mp y with y | y
          · exact absurd y bL
          · exact y
        refine ⟨o'', e'', ?_⟩
        rcases q with rfl | ⟨r, sl, rfl⟩
        · exact q'.imp id fun q' => ⟨frb q'.1, q'.2⟩
        · rcases q' with rfl | ⟨r', sl', rfl⟩
          · exact .inr ⟨r, sl, rfl⟩
          · exact .inr ⟨r, sl', rfl⟩
      · obtain ⟨o, es, ep, e, dd, r⟩ := hn
        obtain ⟨o', e', d'⟩ := dat _ o e (fun x n q => by rw [dd] at q; cases q) (fun x q => by rw [dd] at q; cases q)
        exact ⟨o', es, ep, e', d'.trans dd, r⟩
      · obtain ⟨u, hu, hd⟩ := hvl y W e
        exact ⟨u, hu.imp id (fun ⟨a, c, b, b'⟩ => ⟨a, c, b, cellk _ _ b'⟩), hd.step S⟩
      · intro y c z1 z2
        obtain ⟨u, b'⟩ := T.cex y c z1 z2
        exact ⟨u, cellk _ _ b'⟩
      · unfold mrg at e
        cases z : σv a with
        | none =>
          rw [z] at e
          obtain ⟨g1, g2, g3, g4⟩ := T.led a ob e
          refine ⟨g1, g2, g3, g4.step S fun o eo => ?_⟩
          obtain ⟨o', e', q⟩ := kp a o (by rw [ph0_none z]; exact eo)
          rcases q with rfl | ⟨q, _⟩
          · exact e'
          · exact absurd (frR a q) g3
        | some ob0 =>
          rw [z] at e
          obtain ⟨g1, g2, g3, _⟩ := T.led a ob0 (hv a ob0 z)
          obtain ⟨ob', e', hz', q⟩ := hled a (by show σv a ≠ none; rw [z]; simp)
          simp only [e', Option.some.injEq] at e
          subst e
          refine ⟨g1, g2, g3, ?_⟩
          cases ob' with
          | li xs => exact q
          | lv xs => obtain ⟨items, n, e1, e2⟩ := q; exact ⟨items, n, e1, fzDL hz' e2⟩
          | tb l => exact q
      · obtain ⟨o, e⟩ := T.RA b z; exact S.live b o e
      · obtain ⟨h1, t1, e1⟩ := T.sh; exact ⟨h, t, by rw [e1]⟩
theorem opn_call (O : FOk B d F) {q : Addr} {args args' : List V} {Q' : V → Led → Prop} (C : CallG prog w B d q args' σv Q' X') (hv : ∀ a ob, σv a = some ob → σ a = some ob) (hfz : ∀ a ob, σv a = some ob → fzOb ob = true) (ha : ArgsOk σ σv args args') (hX : ∀ C, X' C → X C)
    (k : ∀ V σ', Q' V σ' → Q V (mrg σ σv σ')) : OpN prog w B F (fun us => call (.ref q) us) args ρ σ X Q := fun us s T D => opn_at O T D (fun R2 _ a b c => C F.A _ R2 s us a b c) hv hfz ha hX k
end
end Mine
end

-- part cN
section
open PySem PySem.W PyProof.Rows PySem.Calls
namespace Mine
section
variable {prog : Program} {w : World} {B : Heap} {K : Frag} {F : FC} {ρ : Rho} {σ σv : Led} {s : Shared} {X X' : Addr → Prop} {Q : V → Led → Prop} {d : Nat}
  {N : Rho → Led → Prop} {Rt : V → Led → Prop} {E : Value → Shared → Prop} {A : Around} {M : Model}

abbrev bmE : List Value := [.type "Exception", .type "BaseException", .type "object"]

theorem funFrames_hide0 {base h : Heap} {as : List Addr} : ∀ {l : List Env}, h.FunFrames base l → (∀ env ∈ l, ∀ a, env.frame = some a → a ∈ as) → h.FunFrames (hideAll h as) l := funFrames_hide

theorem Ex1.raise (G : GOk B K) (O : FOk B d F) {x : Str} {np cp p1 p : Pos} {k : Nat} {m : Str} {C : Addr} (hx : F.env.kindOf x = some .globalImplicit) (hg : nsIn K mainGlobals x = some (some (.ref C)))
    (q : excIn K C bmE "Exception.__new__" = true) (hX : X C) (hd : (x == ("__debug__" : Str)) = false := by decide)
    (he : starEach [.Constant (.str m) k p1] F.env = (false, eval (.Constant (.str m) k p1) F.env) :: starEach [] F.env := by rfl) :
    Ex1 prog w B F (.Raise (some (.Call (.Name x np) [.Constant (.str m) k p1] [] cp)) none p) ρ σ X N Rt := fun s T => by
  obtain ⟨pp, lo, mg, mb, TR⟩ := G.top
  have Ow := own_of_in G.kin TR hg q
  obtain ⟨tl, Nn, nm, qn, bs, hdct, sn, sub, ab, col, dd, k0, k1, k2, k3, k5, mN, hC, hN, hni, TL⟩ := (Ow.keeps T.base).obj
  have FB := PySem.F.excBase_Exception
  refine wpAny_Raise_call_subT (C := C) (nm := nm) (q := qn) (N := Nn) (bs := bs) (bm := tl) (hdct := hdct) (sn := sn) (sub := sub) (ab := ab) (col := col) (dd := dd) (k0 := k0) (k1 := k1) (k2 := k2) (k3 := k3) (k5 := k5)
    FB (mN := mN) (TL.hasType FB.hasBase) O.hh (by rw [he]; rfl) hni ?_
  refine Name_function_global O.hk hx (loadGlobal_global (env := F.env) (O.hg ▸ TR.g.keeps T.base) (mg_of G.kin TR.g hg) ⟨rfl, ?_⟩) hd
  rw [he]
  refine Calls.evalArgs_plain (Calls.spliced_cons (wpAny_Constant_str (k := k) (pos := p1) (Calls.spliced_nil ⟨rfl, (by show 1 ≤ sizeLine; rw [sizeLine]; decide), hC, hN, TL, fun h' e hm => ?_⟩)))
  -- the new exception
  let Bx : Heap := hideAll s.heap ((F.env :: F.outer).filterMap (·.frame))
  obtain ⟨t, ht, _, _⟩ := hm.there
  have nfr : ∀ b, B.get? b ≠ none → b ∉ (F.env :: F.outer).filterMap (·.frame) := fun b z hb => z (T.frames.mem hb).1
  have hs : ∃ h t, ({ { s with toks := s.toks + 1 } with heap := h' } : Shared) = { F.s0 with heap := h, toks := t } := by
    obtain ⟨h1, t1, e1⟩ := T.sh; exact ⟨h', s.toks + 1, by rw [e1]⟩
  refine ⟨e, C, Bx, rfl, hX, hs, fun b o z => ?_, fun b o z => ?_, ?_, ?_, fun b o z nf => ?_, fun b o z => ?_, .inl ⟨_, _, ht, rfl, rfl, rfl⟩⟩
  · exact hideAll_get _ (T.base b o z) (nfr b (by rw [z]; simp))
  · exact hm.keeps b o (of_hideAll _ z)
  · cases z : Bx.get? e with
    | none => rfl
    | some o =>
      have z2 : s.heap.get? e = some o := of_hideAll _ z
      have z3 : s.heap.get? e = none := hm.new
      rw [z3] at z2; cases z2
  · refine funFrames_chg (h := s.heap) (fun b o z nf => ⟨o, hm.keeps b o z, nf⟩) ?_
    exact funFrames_hide0 T.frames fun env hm a ha => List.mem_filterMap.mpr ⟨env, hm, ha⟩
  · obtain ⟨o', e', q⟩ := T.keep b o z
    have q' : o' = o := q.elim id fun q => absurd (show frs (F.env :: F.outer) b from by
      unfold frs; rw [List.filterMap_cons, O.hf]; exact List.mem_cons_of_mem _ q.1) nf
    subst q'
    exact hideAll_get _ e' nf
  · obtain ⟨o', e', q⟩ := T.keep b o z
    exact ⟨o', hm.keeps b o' e', q.imp id fun q => ⟨by unfold frs; rw [List.filterMap_cons, O.hf]; exact List.mem_cons_of_mem _ q.1, q.2⟩⟩
end
end Mine
end

-- part cO
section
open PySem PySem.W PyProof.Rows PySem.Calls
namespace Mine
theorem bind1 {α : Type} {P : List α → Prop} (h : ∀ a, P [a]) : ∀ us : List α, us.length = 1 → P us
  | [a], _ => h a
theorem bind2 {α : Type} {P : List α → Prop} (h : ∀ a b, P [a, b]) : ∀ us : List α, us.length = 2 → P us
  | [a, b], _ => h a b
theorem bind3 {α : Type} {P : List α → Prop} (h : ∀ a b c, P [a, b, c]) : ∀ us : List α, us.length = 3 → P us
  | [a, b, c], _ => h a b c
theorem bind4 {α : Type} {P : List α → Prop} (h : ∀ a b c d, P [a, b, c, d]) : ∀ us : List α, us.length = 4 → P us
  | [a, b, c, d], _ => h a b c d
theorem bind5 {α : Type} {P : List α → Prop} (h : ∀ a b c d e, P [a, b, c, d, e]) : ∀ us : List α, us.length = 5 → P us
  | [a, b, c, d, e], _ => h a b c d e
theorem setv_same {ρ : Rho} {x : Str} {V W : Mine.V} (h : V = W) : setv ρ x V x = some W := by simp [setv, h]
theorem setv_ne {ρ : Rho} {x y : Str} {V : V} {o : Option Mine.V} (hn : x ≠ y) (h : ρ x = o) : setv ρ y V x = o := by simp [setv, hn, h]
theorem upd_same {α : Type} {f : Addr → Option α} {a : Addr} {x : α} : upd f a x a = some x := by simp [upd]
theorem upd_ne {α : Type} {f : Addr → Option α} {a b : Addr} {x : α} {o : Option α} (hn : a ≠ b) (h : f a = o) : upd f b x a = o := by simp [upd, hn, h]
theorem ne_some {α : Type} {f : Addr → Option α} {a b : Addr} {x : α} (ha : f a = none) (hb : f b = some x) : b ≠ a := fun e => by subst e; rw [ha] at hb; cases hb
theorem ite_dec {p : Prop} [Decidable p] {A B : Prop} (h : p → A) (h' : ¬ p → B) : if decide p = true then A else B := by
  by_cases q : p
  · simpa [q] using h q
  · simpa [q] using h' q
theorem ite_not {p : Prop} [Decidable p] {A B : Prop} (h : ¬ p → A) (h' : p → B) : if (!decide p) = true then A else B := by
  by_cases q : p
  · simpa [q] using h' q
  · simpa [q] using h q
theorem ite_tt {A B : Prop} (h : A) : if true = true then A else B := by simpa using h
theorem ite_ff {A B : Prop} (h : B) : if false = true then A else B := by simpa using h

section
variable {prog : Program} {w : World} {B : Heap} {K : Frag} {F : FC} {ρ : Rho} {σ σv : Led} {s : Shared} {X X' : Addr → Prop} {Q : V → Led → Prop} {d : Nat}
  {N : Rho → Led → Prop} {Rt : V → Led → Prop}

theorem Ev.callBN (G : GOk B K) (O : FOk B d F) {x : Str} {np : Pos} {e : Expr} {rest : List Expr} {p : Pos} {id : String}
    (hk : F.env.kindOf x = some .globalImplicit) (hx : nsIn K mainGlobals x = some Option.none) (hv : bootBuiltins x = some (.builtin id))
    (h : EvL prog w B F (e :: rest) ρ σ X fun vs σ₂ => OpN prog w B F (fun us => call (.builtin id) us) vs ρ σ₂ X Q)
    (hn : x ≠ "__name__" := by decide) (hd : (x == ("__debug__" : Str)) = false := by decide)
    (he : starEach (e :: rest) F.env = (false, eval e F.env) :: starEach rest F.env := by rfl)
    (hplain : (backTo p (starEach rest F.env)).any (·.1) = false := by rfl)
    (hc : eval (.Call (.Name x np) (e :: rest) [] p) F.env = (do callWith p (← eval (.Name x np) F.env) [] (backTo p (starEach (e :: rest) F.env)) (backToKw p (keywordEach [] F.env))) := by rfl) :
    Ev prog w B F (.Call (.Name x np) (e :: rest) [] p) ρ σ X Q :=
  Ev.callB (Ev.blt G O hk hx hv ⟨id, rfl, h⟩ hn hd) he hplain hc
theorem Ev.callGN (G : GOk B K) (O : FOk B d F) {x : Str} {np : Pos} {e : Expr} {rest : List Expr} {p : Pos} {q : Addr}
    (hk : F.env.kindOf x = some .globalImplicit) (hx : nsIn K mainGlobals x = some (some (.ref q))) (hq : FnK K q)
    (h : EvL prog w B F (e :: rest) ρ σ X fun vs σ₂ => OpN prog w B F (fun us => call (.ref q) us) vs ρ σ₂ X Q)
    (hd : (x == ("__debug__" : Str)) = false := by decide)
    (he : starEach (e :: rest) F.env = (false, eval e F.env) :: starEach rest F.env := by rfl)
    (hplain : (backTo p (starEach rest F.env)).any (·.1) = false := by rfl)
    (hc : eval (.Call (.Name x np) (e :: rest) [] p) F.env = (do callWith p (← eval (.Name x np) F.env) [] (backTo p (starEach (e :: rest) F.env)) (backToKw p (keywordEach [] F.env))) := by rfl) :
    Ev prog w B F (.Call (.Name x np) (e :: rest) [] p) ρ σ X Q :=
  Ev.callF G (Ev.glo G O hk hx ⟨q, rfl, hq, h⟩ hd) he hplain hc
theorem Ev.callVN (G : GOk B K) (O : FOk B d F) {x : Str} {np : Pos} {e : Expr} {rest : List Expr} {p : Pos} {q : Addr}
    (hx : ρ x = some (.fn q)) (hq : FnK K q)
    (h : EvL prog w B F (e :: rest) ρ σ X fun vs σ₂ => OpN prog w B F (fun us => call (.ref q) us) vs ρ σ₂ X Q)
    (hd : (x == ("__debug__" : Str)) = false := by decide) (hcd : (x == ("__classdict__" : Str)) = false := by decide)
    (he : starEach (e :: rest) F.env = (false, eval e F.env) :: starEach rest F.env := by rfl)
    (hplain : (backTo p (starEach rest F.env)).any (·.1) = false := by rfl)
    (hc : eval (.Call (.Name x np) (e :: rest) [] p) F.env = (do callWith p (← eval (.Name x np) F.env) [] (backTo p (starEach (e :: rest) F.env)) (backToKw p (keywordEach [] F.env))) := by rfl) :
    Ev prog w B F (.Call (.Name x np) (e :: rest) [] p) ρ σ X Q :=
  Ev.callF G (Ev.loc O hx ⟨q, rfl, hq, h⟩ hd hcd) he hplain hc

noncomputable def pur : Led := fun _ => none
theorem opn_pure (O : FOk B d F) {q : Addr} {args args' : List V} {Q' : V → Led → Prop} (C : CallG prog w B d q args' pur Q' X') (ha : ArgsOk σ pur args args') (hX : ∀ C, X' C → X C)
    (k : ∀ V σ', Q' V σ' → Q V σ) : OpN prog w B F (fun us => call (.ref q) us) args ρ σ X Q :=
  opn_call O C (fun _ _ e => by cases e) (fun _ _ e => by cases e) ha hX fun V σ' q => k V σ' q
end
theorem Bk.pure {Q : V → Led → Prop} {V : V} {σ' : Led} (h : Q V σ') (hf : fz V = true) : Bk pur Q V σ' := ⟨fun a ob e => (e rfl).elim, V, h, hf, .inl rfl⟩
theorem Bk.own {Q : V → Led → Prop} {a : Addr} {xs : List Int} {σ' : Led} (ha : σ' a = some (.li xs)) (h : Q (.lst xs) σ') : Bk pur Q (.own a) σ' := ⟨fun a ob e => (e rfl).elim, .lst xs, h, rfl, .inr ⟨a, xs, rfl, rfl, ha, rfl⟩⟩
theorem Arg.same {σ σv : Led} {V : V} : Arg σ σv V V := .inl rfl
theorem Arg.lst {σ σv : Led} {xs : List Int} : Arg σ σv (.lst xs) (.par xs) := .inr ⟨xs, rfl, .inl rfl⟩
theorem Arg.par {σ σv : Led} {xs : List Int} : Arg σ σv (.par xs) (.par xs) := .inl rfl
theorem Arg.own {σ σv : Led} {a : Addr} {xs : List Int} (h : σ a = some (.li xs)) (h' : σv a = none) : Arg σ σv (.own a) (.par xs) := .inr ⟨xs, rfl, .inr ⟨a, rfl, h, h'⟩⟩
end Mine
end

-- part mA
section
open PySem PySem.W PyProof.Rows PySem.Calls
namespace Mine
theorem ediv_lt {b n : Int} (hb : 2 ≤ b) (hn : 0 < n) : n / b < n := by
  have h1 := Int.emod_add_mul_ediv n b
  have h2 := Int.emod_nonneg n (show b ≠ 0 by lia)
  have h3 : 0 ≤ n / b := Int.ediv_nonneg (by lia) (by lia)
  have : 2 * (n / b) ≤ b * (n / b) := Int.mul_le_mul_of_nonneg_right hb h3
  lia
/-- the limbs of n, the lowest first -/
noncomputable def D (b n : Int) : List Int := if h : 2 ≤ b ∧ 0 < n then (n % b) :: D b (n / b) else []
termination_by n.toNat
decreasing_by
  have := ediv_lt h.1 h.2
  lia
noncomputable def val (b : Int) : List Int → Int
  | [] => 0
  | x :: xs => x + b * val b xs
noncomputable def Lim (b : Int) (xs : List Int) : Prop := ∀ x ∈ xs, 0 ≤ x ∧ x < b
/-- without the noughts at the end -/
noncomputable def norm : List Int → List Int
  | [] => []
  | x :: xs => match norm xs with
    | [] => if x = 0 then [] else [x]
    | y :: ys => x :: y :: ys

variable {b : Int}
theorem D_zero {n : Int} (h : n ≤ 0) : D b n = [] := by rw [D, dif_neg (by lia)]
theorem D_pos {n : Int} (hb : 2 ≤ b) (h : 0 < n) : D b n = (n % b) :: D b (n / b) := by rw [D, dif_pos ⟨hb, h⟩]
theorem D_val (hb : 2 ≤ b) {n : Int} (hn : 0 ≤ n) : val b (D b n) = n := by
  by_cases h : 0 < n
  · have := ediv_lt hb h
    have h3 : 0 ≤ n / b := Int.ediv_nonneg (by lia) (by lia)
    rw [D_pos hb h, val, D_val hb h3]
    exact Int.emod_add_mul_ediv n b
  · rw [D_zero (by lia)]; simp [val]; lia
termination_by n.toNat
theorem D_lim (hb : 2 ≤ b) {n : Int} : Lim b (D b n) := by
  by_cases h : 0 < n
  · have := ediv_lt hb h
    rw [D_pos hb h]
    intro x hx
    rcases List.mem_cons.mp hx with rfl | hx
    · exact ⟨Int.emod_nonneg _ (by lia), Int.emod_lt_of_pos _ (by lia)⟩
    · exact D_lim hb (n := n / b) x hx
  · rw [D_zero (by lia)]; intro x hx; cases hx
termination_by n.toNat
theorem Lim.tail {x : Int} {xs : List Int} (h : Lim b (x :: xs)) : Lim b xs := fun y hy => h y (List.mem_cons_of_mem _ hy)
theorem Lim.head {x : Int} {xs : List Int} (h : Lim b (x :: xs)) : 0 ≤ x ∧ x < b := h x List.mem_cons_self
theorem Lim.app {xs ys : List Int} (h : Lim b xs) (h' : Lim b ys) : Lim b (xs ++ ys) := fun y hy => (List.mem_append.mp hy).elim (h y) (h' y)
theorem Lim.one {x : Int} (h : 0 ≤ x ∧ x < b) : Lim b [x] := fun y hy => by rw [List.mem_singleton.mp hy]; exact h
theorem Lim.snoc {xs : List Int} {x : Int} (h : Lim b xs) (h0 : 0 ≤ x) (h1 : x < b) : Lim b (xs ++ [x]) := h.app (.one ⟨h0, h1⟩)
theorem Lim.getD {xs : List Int} (hb : 2 ≤ b) (h : Lim b xs) (i : Nat) : 0 ≤ xs.getD i 0 ∧ xs.getD i 0 < b := by
  rw [List.getD_eq_getElem?_getD]
  cases e : xs[i]? with
  | none => simp; lia
  | some x => exact h x (List.mem_of_getElem? e)
theorem Lim.take {xs : List Int} (h : Lim b xs) (k : Nat) : Lim b (xs.take k) := fun y hy => h y (List.mem_of_mem_take hy)
theorem Lim.drop {xs : List Int} (h : Lim b xs) (k : Nat) : Lim b (xs.drop k) := fun y hy => h y (List.mem_of_mem_drop hy)
theorem Lim.rev {xs : List Int} (h : Lim b xs) : Lim b xs.reverse := fun y hy => h y (List.mem_reverse.mp hy)
theorem Lim.rep (hb : 2 ≤ b) (k : Nat) : Lim b (List.replicate k (0 : Int)) := fun y hy => by rw [List.eq_of_mem_replicate hy]; lia
theorem Lim.set {xs : List Int} (h : Lim b xs) {i : Nat} {x : Int} (h0 : 0 ≤ x) (h1 : x < b) : Lim b (xs.set i x) := fun y hy => by
  rcases List.mem_or_eq_of_mem_set hy with q | rfl
  · exact h y q
  · exact ⟨h0, h1⟩
theorem mul_nonneg' {x y : Int} (hx : 0 ≤ x) (hy : 0 ≤ y) : 0 ≤ x * y := Int.mul_nonneg hx hy
theorem pow_pos' (hb : 2 ≤ b) (k : Nat) : 0 < b ^ k := Int.pow_pos (by lia)
theorem val_nonneg (hb : 2 ≤ b) : ∀ {xs : List Int}, Lim b xs → 0 ≤ val b xs
  | [], _ => by simp [val]
  | x :: xs, h => by
    have h1 := val_nonneg hb h.tail
    have := h.head
    have := mul_nonneg' (show 0 ≤ b by lia) h1
    simp only [val]; lia
theorem val_lt (hb : 2 ≤ b) : ∀ {xs : List Int}, Lim b xs → val b xs < b ^ xs.length
  | [], _ => by simp [val]
  | x :: xs, h => by
    have h1 := val_lt hb h.tail
    have h2 := h.head
    have h3 : b * (val b xs + 1) ≤ b * b ^ xs.length := Int.mul_le_mul_of_nonneg_left (by lia) (by lia)
    simp only [val, List.length_cons]
    rw [Int.pow_succ, Int.mul_comm (b ^ xs.length) b]
    rw [Int.mul_add, Int.mul_one] at h3
    lia
theorem val_app : ∀ (xs ys : List Int), val b (xs ++ ys) = val b xs + b ^ xs.length * val b ys
  | [], ys => by simp [val]
  | x :: xs, ys => by
    simp only [List.cons_append, val, val_app xs ys, List.length_cons]
    rw [Int.pow_succ]; grind
theorem val_snoc {xs : List Int} {x : Int} : val b (xs ++ [x]) = val b xs + b ^ xs.length * x := by rw [val_app]; simp [val]
theorem val_rep (k : Nat) : val b (List.replicate k 0) = 0 := by
  induction k with
  | zero => rfl
  | succ k ih => rw [List.replicate_succ, val, ih]; simp
theorem D_of_zero_val (hb : 2 ≤ b) : ∀ {xs : List Int}, Lim b xs → val b xs = 0 → norm xs = []
  | [], _, _ => rfl
  | x :: xs, h, e => by
    have h1 := val_nonneg hb h.tail
    have h2 := h.head
    simp only [val] at e
    have h3 := mul_nonneg' (show 0 ≤ b by lia) h1
    have h4 : val b xs = 0 := by
      by_cases q : val b xs = 0
      · exact q
      · have : b * 1 ≤ b * val b xs := Int.mul_le_mul_of_nonneg_left (by lia) (by lia)
        lia
    rw [norm, D_of_zero_val hb h.tail h4]
    have : x = 0 := by rw [h4] at e; lia
    simp [this]
theorem norm_D (hb : 2 ≤ b) : ∀ {xs : List Int}, Lim b xs → norm xs = D b (val b xs)
  | [], _ => by rw [D_zero (by simp [val])]; rfl
  | x :: xs, h => by
    have h1 := val_nonneg hb h.tail
    have h2 := h.head
    by_cases q : val b (x :: xs) = 0
    · rw [D_of_zero_val hb h q, D_zero (by lia)]
    · have h3 := val_nonneg hb h
      rw [D_pos hb (by lia)]
      have e1 : val b (x :: xs) % b = x := by
        simp only [val]
        rw [Int.add_mul_emod_self_left]; exact Int.emod_eq_of_lt h2.1 h2.2
      have e2 : val b (x :: xs) / b = val b xs := by
        simp only [val]
        rw [Int.add_mul_ediv_left _ _ (by lia), Int.ediv_eq_zero_of_lt h2.1 h2.2]; lia
      rw [e1, e2, ← norm_D hb h.tail, norm]
      cases e : norm xs with
      | cons y ys => rfl
      | nil =>
        have : x ≠ 0 := by
          rintro rfl
          have : val b xs = 0 := by
            have w := norm_D hb h.tail
            rw [e] at w
            by_cases q' : 0 < val b xs
            · rw [D_pos hb q'] at w; cases w
            · lia
          exact q (by simp [val, this])
        simp [this]
theorem norm_of_lower (hb : 2 ≤ b) {xs : List Int} (h : Lim b xs) (hl : ∀ k, xs.length = k + 1 → b ^ k ≤ val b xs) : norm xs = xs := by
  have main : ∀ ys : List Int, Lim b ys → (∀ k, ys.length = k + 1 → b ^ k ≤ val b ys) → norm ys = ys := by
    intro ys
    induction ys with
    | nil => intro _ _; rfl
    | cons x xs ih =>
      intro h hl
      cases xs with
      | nil =>
        have := hl 0 rfl
        simp [val] at this
        have : x ≠ 0 := by lia
        simp [norm, this]
      | cons y ys =>
        have h2 := h.head
        have := ih h.tail (fun k hk => by
          have := hl (k + 1) (by simpa using hk)
          rw [val, Int.pow_succ] at this
          have h5 : b ^ k * b < b * (val b (y :: ys) + 1) := by rw [Int.mul_add]; lia
          rw [Int.mul_comm] at h5
          have := Int.lt_of_mul_lt_mul_left h5 (by lia)
          lia)
        rw [norm, this]
  exact main xs h hl
theorem D_lower (hb : 2 ≤ b) : ∀ {n : Int}, ∀ k, (D b n).length = k + 1 → b ^ k ≤ n := fun {n} k hk => by
  by_cases h : 0 < n
  · have := ediv_lt hb h
    rw [D_pos hb h] at hk
    have h9 := Int.emod_add_mul_ediv n b
    have h8 := Int.emod_nonneg n (show b ≠ 0 by lia)
    cases k with
    | zero => simp; lia
    | succ k =>
      have := D_lower hb (n := n / b) k (by simpa using hk)
      have : b * b ^ k ≤ b * (n / b) := Int.mul_le_mul_of_nonneg_left this (by lia)
      rw [Int.pow_succ, Int.mul_comm]; lia
  · rw [D_zero (by lia)] at hk; cases hk
termination_by n => n.toNat
theorem D_lt (hb : 2 ≤ b) {n : Int} (hn : 0 ≤ n) : n < b ^ (D b n).length := by
  have := val_lt hb (D_lim hb (n := n)); rwa [D_val hb hn] at this
theorem pow_le_pow' (hb : 2 ≤ b) {i j : Nat} (h : i ≤ j) : b ^ i ≤ b ^ j := by
  obtain ⟨k, rfl⟩ := Nat.le.dest h
  rw [Int.pow_add]
  have h1 := pow_pos' hb i
  have h2 := pow_pos' hb k
  have : b ^ i * 1 ≤ b ^ i * b ^ k := Int.mul_le_mul_of_nonneg_left (by lia) (by lia)
  lia
theorem D_len (hb : 2 ≤ b) {n : Int} {k : Nat} (h : n < b ^ k) : (D b n).length ≤ k := by
  by_cases q : (D b n).length ≤ k
  · exact q
  · obtain ⟨j, hj⟩ : ∃ j, (D b n).length = j + 1 := ⟨(D b n).length - 1, by lia⟩
    have := D_lower hb j hj
    have := pow_le_pow' hb (show k ≤ j by lia)
    lia
theorem pow_mono_base (hb : 2 ≤ b) (k : Nat) : (2 : Int) ^ k ≤ b ^ k := by
  induction k with
  | zero => simp
  | succ k ih =>
    rw [Int.pow_succ, Int.pow_succ]
    exact Int.mul_le_mul ih hb (by lia) (Int.le_of_lt (pow_pos' hb k))
theorem D_len2 (hb : 2 ≤ b) {n : Int} {k : Nat} (h : n < 2 ^ k) : (D b n).length ≤ k := D_len hb (by have := pow_mono_base hb k; lia)
/-- a list that is its own number's limbs -/
theorem D_of_lower (hb : 2 ≤ b) {xs : List Int} (h : Lim b xs) (hl : ∀ k, xs.length = k + 1 → b ^ k ≤ val b xs) : xs = D b (val b xs) := by
  rw [← norm_D hb h, norm_of_lower hb h hl]
theorem D_len_mono (hb : 2 ≤ b) {m n : Int} (h : m ≤ n) : (D b m).length ≤ (D b n).length := by
  by_cases q : 0 < m
  · exact D_len hb (by have := D_lt hb (show 0 ≤ n by lia); lia)
  · rw [D_zero (by lia)]; simp
theorem norm_snoc0 : ∀ {xs : List Int}, norm (xs ++ [0]) = norm xs
  | [] => rfl
  | x :: xs => by rw [List.cons_append, norm, norm, norm_snoc0]
theorem norm_snoc {x : Int} (h : x ≠ 0) : ∀ {xs : List Int}, norm (xs ++ [x]) = xs ++ [x]
  | [] => by simp [norm, h]
  | y :: xs => by
    rw [List.cons_append, norm, norm_snoc h]
    cases xs <;> rfl
theorem slc {xs : List Int} {a b : Nat} (h1 : b ≤ xs.length) : (xs.drop (kms_lo (some (a : Int)) xs.length)).take (kms_hi (some (b : Int)) xs.length - kms_lo (some (a : Int)) xs.length) = (xs.drop a).take (b - a) := by
  have e1 : kms_hi (some (b : Int)) xs.length = b := by simp only [kms_hi, Int.toNat_natCast]; rw [if_neg (by lia), Nat.min_eq_left h1]
  have e2 : kms_lo (some (a : Int)) xs.length = min a xs.length := by simp only [kms_lo, Int.toNat_natCast]; rw [if_neg (by lia)]
  rw [e1, e2]
  by_cases h : a ≤ xs.length
  · rw [Nat.min_eq_left h]
  · rw [Nat.min_eq_right (by lia), List.drop_of_length_le (Nat.le_refl _), List.drop_of_length_le (by lia : xs.length ≤ a)]; simp
theorem slc0 {xs : List Int} {b : Nat} (h1 : b ≤ xs.length) : (xs.drop (kms_lo none xs.length)).take (kms_hi (some (b : Int)) xs.length - kms_lo none xs.length) = xs.take b := by
  have := slc (xs := xs) (a := 0) h1
  simpa [kms_lo] using this
theorem slcN {xs : List Int} : (xs.drop (kms_lo none xs.length)).take (kms_hi none xs.length - kms_lo none xs.length) = xs := by
  simp [kms_lo, kms_hi]
theorem slcB {xs : List Int} {a : Nat} (h : a ≤ xs.length) : (xs.drop (kms_lo (some (a : Int)) xs.length)).take (kms_hi none xs.length - kms_lo (some (a : Int)) xs.length) = xs.drop a := by
  have e2 : kms_lo (some (a : Int)) xs.length = a := by simp only [kms_lo, Int.toNat_natCast]; rw [if_neg (by lia), Nat.min_eq_left h]
  rw [e2]; simp only [kms_hi]; rw [List.take_of_length_le (by simp)]
theorem take_snoc {xs : List Int} {k : Nat} (h : k < xs.length) : xs.take (k + 1) = xs.take k ++ [xs.getD k 0] := by
  rw [List.take_succ, List.getD_eq_getElem?_getD, List.getElem?_eq_getElem h]; rfl
end Mine
end

-- part cP
section
open PySem PySem.W PyProof.Rows PySem.Calls
namespace Mine
section
variable {prog : Program} {w : World} {B : Heap} {K : Frag} {F : FC} {ρ : Rho} {σ σv : Led} {s : Shared} {X X' : Addr → Prop} {Q : V → Led → Prop} {d : Nat}
  {N : Rho → Led → Prop} {Rt : V → Led → Prop}

theorem Ev.nilO {p : Pos} (h : ∀ a, σ a = none → Q (.own a) (upd σ a (.li []))) : Ev prog w B F (.List [] p) ρ σ X Q := Ev.lstO (EvL.nil ⟨by decide, [], rfl, h⟩)
theorem Ex1.asg2 (O : FOk B d F) {x1 x2 : Str} {p1 p2 tp tp2 p : Pos} {k k2 : Nat} {e1 e2 : Expr}
    (h : Ev prog w B F e1 ρ σ X fun v1 σ₁ => Ev prog w B F e2 ρ σ₁ X fun v2 σ₂ => N (setv (setv ρ x2 v2) x1 v1) σ₂)
    (hw : swappedStores [.Tuple [.Name x1 p1, .Name x2 p2] k tp] (.Tuple [e1, e2] k2 tp2) F.env = pure (some [x1, x2]) := by rfl)
    (hk1 : Ki F x1 := by exact Or.inl (by rfl)) (hk2 : Ki F x2 := by exact Or.inl (by rfl))
    (hs : swapsWithSole [.Tuple [.Name x1 p1, .Name x2 p2] k tp] (.Tuple [e1, e2] k2 tp2) p.line F.env = pure false := by rfl)
    (he : starEach [e1, e2] F.env = (false, eval e1 F.env) :: starEach [e2] F.env := by rfl)
    (he2 : starEach [e2] F.env = (false, eval e2 F.env) :: starEach [] F.env := by rfl) :
    Ex1 prog w B F (.Assign [.Tuple [.Name x1 p1, .Name x2 p2] k tp] (.Tuple [e1, e2] k2 tp2) p) ρ σ X N Rt :=
  Ex1.asgTs O hw (Ev.tup (EvL.cons (h.mono fun _ _ h => EvL.cons (h.mono fun _ _ h => EvL.nil ⟨by simp, _, rfl, rfl, h⟩) he2) he))
    (fun x hx => by rcases List.mem_cons.mp hx with rfl | hx; · exact hk1
                    rw [List.mem_singleton.mp hx]; exact hk2) hs
theorem Ex1.asg3 (O : FOk B d F) {x1 x2 x3 : Str} {p1 p2 p3 tp tp2 p : Pos} {k k2 : Nat} {e1 e2 e3 : Expr}
    (h : Ev prog w B F e1 ρ σ X fun v1 σ₁ => Ev prog w B F e2 ρ σ₁ X fun v2 σ₂ => Ev prog w B F e3 ρ σ₂ X fun v3 σ₃ => N (setv (setv (setv ρ x3 v3) x2 v2) x1 v1) σ₃)
    (hw : swappedStores [.Tuple [.Name x1 p1, .Name x2 p2, .Name x3 p3] k tp] (.Tuple [e1, e2, e3] k2 tp2) F.env = pure (some [x1, x2, x3]) := by rfl)
    (hk1 : Ki F x1 := by exact Or.inl (by rfl)) (hk2 : Ki F x2 := by exact Or.inl (by rfl)) (hk3 : Ki F x3 := by exact Or.inl (by rfl))
    (hs : swapsWithSole [.Tuple [.Name x1 p1, .Name x2 p2, .Name x3 p3] k tp] (.Tuple [e1, e2, e3] k2 tp2) p.line F.env = pure false := by rfl)
    (he : starEach [e1, e2, e3] F.env = (false, eval e1 F.env) :: starEach [e2, e3] F.env := by rfl)
    (he2 : starEach [e2, e3] F.env = (false, eval e2 F.env) :: starEach [e3] F.env := by rfl)
    (he3 : starEach [e3] F.env = (false, eval e3 F.env) :: starEach [] F.env := by rfl) :
    Ex1 prog w B F (.Assign [.Tuple [.Name x1 p1, .Name x2 p2, .Name x3 p3] k tp] (.Tuple [e1, e2, e3] k2 tp2) p) ρ σ X N Rt :=
  Ex1.asgTs O hw (Ev.tup (EvL.cons (h.mono fun _ _ h => EvL.cons (h.mono fun _ _ h => EvL.cons (h.mono fun _ _ h => EvL.nil ⟨by simp, _, rfl, rfl, h⟩) he3) he2) he))
    (fun x hx => by rcases List.mem_cons.mp hx with rfl | hx; · exact hk1
                    rcases List.mem_cons.mp hx with rfl | hx; · exact hk2
                    rw [List.mem_singleton.mp hx]; exact hk3) hs
theorem Stores.nm {ts : List (Value → Sem Unit)} {x : Str} {p : Pos} {xs : List Str} (r : Stores F ts xs) : Stores F (assign (.Name x p) F.env :: ts) (x :: xs) :=
  .cons (fun v M A E s Q h => wpAny_assign_Name h) r
theorem Ex1.asgT2 (O : FOk B d F) {x1 x2 : Str} {p1 p2 tp p : Pos} {k : Nat} {value : Expr}
    (h : Ev prog w B F value ρ σ X fun V σ₁ => ∃ v1 v2, V = .tup [v1, v2] ∧ N (setv (setv ρ x1 v1) x2 v2) σ₁)
    (hk1 : Ki F x1 := by exact Or.inl (by rfl)) (hk2 : Ki F x2 := by exact Or.inl (by rfl))
    (hst : Stores F ((assignEach [.Name x1 p1, .Name x2 p2] F.env).map (·.2)) [x1, x2] := by exact (Stores.nm (Stores.nm Stores.nil))) (hlen : (assignEach [.Name x1 p1, .Name x2 p2] F.env).length = 2 := by rfl) (hstar : (assignEach [.Name x1 p1, .Name x2 p2] F.env).findIdx? (·.1) = none := by rfl)
    (hs : swapsWithSole [.Tuple [.Name x1 p1, .Name x2 p2] k tp] value p.line F.env = pure false := by rfl)
    (hw : swappedStores [.Tuple [.Name x1 p1, .Name x2 p2] k tp] value F.env = pure none := by rfl) :
    Ex1 prog w B F (.Assign [.Tuple [.Name x1 p1, .Name x2 p2] k tp] value p) ρ σ X N Rt :=
  Ex1.asgT O [x1, x2] (h.mono fun V σ₁ ⟨v1, v2, e, q⟩ => ⟨_, e, rfl, q⟩)
    (fun x hx => by rcases List.mem_cons.mp hx with rfl | hx; · exact hk1
                    rw [List.mem_singleton.mp hx]; exact hk2) hst hlen hstar hs hw
theorem Ex1.asgT3 (O : FOk B d F) {x1 x2 x3 : Str} {p1 p2 p3 tp p : Pos} {k : Nat} {value : Expr}
    (h : Ev prog w B F value ρ σ X fun V σ₁ => ∃ v1 v2 v3, V = .tup [v1, v2, v3] ∧ N (setv (setv (setv ρ x1 v1) x2 v2) x3 v3) σ₁)
    (hk1 : Ki F x1 := by exact Or.inl (by rfl)) (hk2 : Ki F x2 := by exact Or.inl (by rfl)) (hk3 : Ki F x3 := by exact Or.inl (by rfl))
    (hst : Stores F ((assignEach [.Name x1 p1, .Name x2 p2, .Name x3 p3] F.env).map (·.2)) [x1, x2, x3] := by exact (Stores.nm (Stores.nm (Stores.nm Stores.nil)))) (hlen : (assignEach [.Name x1 p1, .Name x2 p2, .Name x3 p3] F.env).length = 3 := by rfl) (hstar : (assignEach [.Name x1 p1, .Name x2 p2, .Name x3 p3] F.env).findIdx? (·.1) = none := by rfl)
    (hs : swapsWithSole [.Tuple [.Name x1 p1, .Name x2 p2, .Name x3 p3] k tp] value p.line F.env = pure false := by rfl)
    (hw : swappedStores [.Tuple [.Name x1 p1, .Name x2 p2, .Name x3 p3] k tp] value F.env = pure none := by rfl) :
    Ex1 prog w B F (.Assign [.Tuple [.Name x1 p1, .Name x2 p2, .Name x3 p3] k tp] value p) ρ σ X N Rt :=
  Ex1.asgT O [x1, x2, x3] (h.mono fun V σ₁ ⟨v1, v2, v3, e, q⟩ => ⟨_, e, rfl, q⟩)
    (fun x hx => by rcases List.mem_cons.mp hx with rfl | hx; · exact hk1
                    rcases List.mem_cons.mp hx with rfl | hx; · exact hk2
                    rw [List.mem_singleton.mp hx]; exact hk3) hst hlen hstar hs hw
theorem Ex1.asgT4 (O : FOk B d F) {x1 x2 x3 x4 : Str} {p1 p2 p3 p4 tp p : Pos} {k : Nat} {value : Expr}
    (h : Ev prog w B F value ρ σ X fun V σ₁ => ∃ v1 v2 v3 v4, V = .tup [v1, v2, v3, v4] ∧ N (setv (setv (setv (setv ρ x1 v1) x2 v2) x3 v3) x4 v4) σ₁)
    (hk1 : Ki F x1 := by exact Or.inl (by rfl)) (hk2 : Ki F x2 := by exact Or.inl (by rfl)) (hk3 : Ki F x3 := by exact Or.inl (by rfl)) (hk4 : Ki F x4 := by exact Or.inl (by rfl))
    (hst : Stores F ((assignEach [.Name x1 p1, .Name x2 p2, .Name x3 p3, .Name x4 p4] F.env).map (·.2)) [x1, x2, x3, x4] := by exact (Stores.nm (Stores.nm (Stores.nm (Stores.nm Stores.nil))))) (hlen : (assignEach [.Name x1 p1, .Name x2 p2, .Name x3 p3, .Name x4 p4] F.env).length = 4 := by rfl) (hstar : (assignEach [.Name x1 p1, .Name x2 p2, .Name x3 p3, .Name x4 p4] F.env).findIdx? (·.1) = none := by rfl)
    (hs : swapsWithSole [.Tuple [.Name x1 p1, .Name x2 p2, .Name x3 p3, .Name x4 p4] k tp] value p.line F.env = pure false := by rfl)
    (hw : swappedStores [.Tuple [.Name x1 p1, .Name x2 p2, .Name x3 p3, .Name x4 p4] k tp] value F.env = pure none := by rfl) :
    Ex1 prog w B F (.Assign [.Tuple [.Name x1 p1, .Name x2 p2, .Name x3 p3, .Name x4 p4] k tp] value p) ρ σ X N Rt :=
  Ex1.asgT O [x1, x2, x3, x4] (h.mono fun V σ₁ ⟨v1, v2, v3, v4, e, q⟩ => ⟨_, e, rfl, q⟩)
    (fun x hx => by rcases List.mem_cons.mp hx with rfl | hx; · exact hk1
                    rcases List.mem_cons.mp hx with rfl | hx; · exact hk2
                    rcases List.mem_cons.mp hx with rfl | hx; · exact hk3
                    rw [List.mem_singleton.mp hx]; exact hk4) hst hlen hstar hs hw
end
theorem ArgsOk.c {σ σv : Led} {a b : V} {r t : List V} (h : Arg σ σv a b) (h' : ArgsOk σ σv r t) : ArgsOk σ σv (a :: r) (b :: t) := ⟨h, h'⟩
theorem ArgsOk.n {σ σv : Led} : ArgsOk σ σv [] [] := trivial
/-- the base of the limbs -/
noncomputable def bs (w : Int) : Int := 2 ^ w.toNat
theorem bs2 {w : Int} (h : 1 ≤ w) : 2 ≤ bs w := by
  obtain ⟨k, rfl⟩ : ∃ k : Nat, w = (k + 1 : Nat) := ⟨(w - 1).toNat, by lia⟩
  have : (0 : Int) < 2 ^ k := Int.pow_pos (by decide)
  simp only [bs, Int.toNat_natCast, Int.pow_succ]; lia
theorem bs_hi {w : Int} (h : w ≤ 9) : bs w ≤ 512 := by
  have : (2 : Int) ^ w.toNat ≤ 2 ^ 9 := pow_le_pow' (b := 2) (by decide) (by lia)
  exact this
theorem bs_nat (w : Int) : bs w = ((2 ^ w.toNat : Nat) : Int) := by simp [bs]
theorem and_bs {w c : Int} (h : 0 ≤ c) : Builtin.bitAnd c (1 * 2 ^ w.toNat - 1) = c % bs w := by
  obtain ⟨n, rfl⟩ := Int.eq_ofNat_of_zero_le h
  have h0 : 0 < 2 ^ w.toNat := Nat.pow_pos (by decide)
  have e : (1 * 2 ^ w.toNat - 1 : Int) = ((2 ^ w.toNat - 1 : Nat) : Int) := by
    rw [Int.natCast_sub h0]; simp
  rw [e, bs_nat, bitAnd_pp (Int.natCast_nonneg n) (Int.natCast_nonneg _), Int.toNat_natCast, Int.toNat_natCast, Nat.and_two_pow_sub_one_eq_mod, Int.natCast_emod]
theorem shr_bs {w c : Int} (h : 0 ≤ c) : c.fdiv (2 ^ w.toNat) = c / bs w := by
  rw [Int.fdiv_eq_ediv_of_nonneg _ (Int.le_of_lt (Int.pow_pos (by decide)))]; rfl
theorem or_bs {w x y : Int} (hx : 0 ≤ x) (hy : 0 ≤ y) (hy' : y < bs w) : Builtin.bitOr (x * 2 ^ w.toNat) y = x * bs w + y := by
  obtain ⟨m, rfl⟩ := Int.eq_ofNat_of_zero_le hx
  obtain ⟨n, rfl⟩ := Int.eq_ofNat_of_zero_le hy
  rw [bs_nat] at hy'
  have hn : n < 2 ^ w.toNat := by exact_mod_cast hy'
  have e : ((m : Int) * 2 ^ w.toNat) = ((m * 2 ^ w.toNat : Nat) : Int) := by simp
  have z : (m * 2 ^ w.toNat) &&& n = 0 := by
    apply Nat.eq_of_testBit_eq
    intro i
    rw [Nat.testBit_and, Nat.zero_testBit]
    by_cases hi : i < w.toNat
    · rw [Nat.testBit_mul_two_pow]; simp [Nat.not_le.mpr hi]
    · rw [Nat.testBit_lt_two_pow (Nat.lt_of_lt_of_le hn (Nat.pow_le_pow_right (by decide) (by lia)))]; simp
  rw [bitOr_and, e, bitAnd_pp (Int.natCast_nonneg _) (Int.natCast_nonneg _), Int.toNat_natCast, Int.toNat_natCast, z, bs_nat]; simp
end Mine
end

-- part cQ
section
open PySem PySem.W PyProof.Rows PySem.Calls
namespace Mine
theorem x37 {w : World} : excIn (kap.heap_1 w.params) 37 bmE "Exception.__new__" = true := by with_unfolding_all rfl
theorem x49 {w : World} : excIn (kap.heap_1 w.params) 49 bmE "Exception.__new__" = true := by with_unfolding_all rfl
theorem x61 {w : World} : excIn (kap.heap_1 w.params) 61 bmE "Exception.__new__" = true := by with_unfolding_all rfl
/-- a mark: list displays are frozen -/
def Frz : Prop := True
theorem Ev.lstF {prog : Program} {w : World} {B : Heap} {F : FC} {ρ : Rho} {σ : Led} {X : Addr → Prop} {Q : V → Led → Prop} {es : List Expr} {p : Pos} (_ : Frz) (h : EvL prog w B F es ρ σ X fun vs σ₁ => vs.length ≤ 10 ∧ ∃ xs, intsOf vs = some xs ∧ Q (.lst xs) σ₁) : Ev prog w B F (.List es p) ρ σ X Q := Ev.lst h
theorem cm_eqb {prog : Program} {w : World} {B : Heap} {F : FC} {ρ : Rho} {σ : Led} {X : Addr → Prop} {P : Bool → Led → Prop} {x y : Bool} (h : P (x == y) σ) : CmT prog w B F .Eq (.bool x) (.bool y) ρ σ X P := cm_of h fun u v s A Q' E a b q => by
  rw [den_bool a, den_bool b]; exact PyProof.Rows.eq_bool q
theorem cm_neb {prog : Program} {w : World} {B : Heap} {F : FC} {ρ : Rho} {σ : Led} {X : Addr → Prop} {P : Bool → Led → Prop} {x y : Bool} (h : P (x != y) σ) : CmT prog w B F .NotEq (.bool x) (.bool y) ρ σ X P := cm_of h fun u v s A Q' E a b q => by
  rw [den_bool a, den_bool b]; exact PyProof.Rows.ne_bool q
end Mine
end

-- part cR
section
open PySem PySem.W PyProof.Rows PySem.Calls
namespace Mine
section
variable {prog : Program} {w : World} {B : Heap} {K : Frag} {F : FC} {ρ : Rho} {σ σv : Led} {s : Shared} {X X' : Addr → Prop} {Q : V → Led → Prop} {P : Bool → Led → Prop} {d : Nat}
  {N : Rho → Led → Prop} {Rt : V → Led → Prop} {E : Value → Shared → Prop} {A : Around} {M : Model}

theorem Ex1.appendV (O : FOk B d F) {x : Str} {np ap p sp : Pos} {e : Expr} {a : Addr} {pl : Sem Bool} (hx : ρ x = some (.own a)) (ha0 : ∃ ob, σ a = some ob ∧ ∀ l, ob ≠ .tb l)
    (h : Ev prog w B F e ρ σ X fun V σ₁ => ∃ xs, σ₁ a = some (.lv xs) ∧ xs.length < 2 ^ 20 ∧ N ρ (upd σ₁ a (.lv (xs ++ [V]))))
    (he : eval (.Call (.Attribute (.Name x np) "append" ap) [e] [] p) F.env = (do
      let ov ← eval (.Name x np) F.env
      standAt ap.atName
      let (f, first) ← holding [ov] (getMethod ov "append" pl)
      callWith p f first (backTo p (starEach [e] F.env)) []) := by rfl)
    (h1 : starEach [e] F.env = (false, eval e F.env) :: starEach [] F.env := by rfl)
    (hi : interactive F.env = false := by rfl) (hs : swapsWith (.Call (.Attribute (.Name x np) "append" ap) [e] [] p) Option.none sp.line F.env = pure false := by rfl)
    (hd : (x == ("__debug__" : Str)) = false := by decide) (hcd : (x == ("__classdict__" : Str)) = false := by decide) :
    Ex1 prog w B F (.Expr (.Call (.Attribute (.Name x np) "append" ap) [e] [] p) sp) ρ σ X N Rt := fun s T => by
  refine wpAny_Expr ?_ hi hs
  refine MethodCall_ (wpAny_mono (Ev.loc (prog := prog) (w := w) (X := X) (σ := σ) (Q := fun V σ' => V = .own a ∧ σ' = σ) O hx ⟨rfl, rfl⟩ hd hcd s T) (fun v s₁ ⟨V, σ₁, T₁, S₁, D₁, eV, eσ⟩ => ?_) fun _ _ x => x) he
  subst eV; subst eσ
  simp only [Den] at D₁
  subst D₁
  obtain ⟨ob, ho, htb⟩ := ha0
  obtain ⟨oa, ea, ca, da⟩ : ∃ o, s₁.heap.get? a = some o ∧ o.cls = .type "list" ∧ o.dict = none := by
    obtain ⟨_, _, _, g4⟩ := T₁.led a ob ho
    cases ob with
    | li xs => obtain ⟨items, n, q, _⟩ := g4; exact ⟨_, q, rfl, rfl⟩
    | lv xs => obtain ⟨items, n, q, _⟩ := g4; exact ⟨_, q, rfl, rfl⟩
    | tb l => exact absurd rfl (htb l)
  refine getMethod_list_append ea ca da ?_
  refine callWith_method1 (wpAny_items_cons (wpAny_mono (h s₁ T₁) (fun u s₂ ⟨V, σ₂, T₂, S₂, D₂, xs, hσ, hz, h₂⟩ => wpAny_items_nil ?_) fun _ _ x => x) h1) h1 rfl
  obtain ⟨_, _, _, items, n, hg, hI⟩ := T₂.led a _ hσ
  have hlen := denL_len hI
  refine append_at (hsz := by rw [List.size_toArray, sizeLine]; lia) hg fun h' hs' hg' => ?_
  obtain ⟨T', S'⟩ := T₂.setOwn (ob' := .lv (xs ++ [V])) (t := s₂.toks) hσ hs' ⟨_, hg', .inl fun vs q => by cases q⟩ fun S => ⟨items ++ [u], n + 1, by rw [hg']; simp, denL_snoc (D₂.step S) (hI.step S)⟩
  exact ⟨ρ, _, T', (S₁.trans S₂).trans S', h₂⟩

theorem denL_set {D R : Addr → Prop} {h : Heap} {V : V} {u : Value} (hd : Den D R h V u) : ∀ {Vs : List Mine.V} {us : List Value} {k : Nat}, DenL D R h Vs us → DenL D R h (Vs.set k V) (us.set k u)
  | [], us, k, d => by simp only [DenL] at d; subst d; simp only [List.set_nil, DenL]
  | v :: r, us, 0, d => by
    simp only [DenL] at d; obtain ⟨u', us', rfl, d1, d2⟩ := d
    simp only [List.set_cons_zero, DenL]
    exact ⟨u, _, rfl, hd, d2⟩
  | v :: r, us, k + 1, d => by
    simp only [DenL] at d; obtain ⟨u', us', rfl, d1, d2⟩ := d
    simp only [List.set_cons_succ, DenL]
    exact ⟨u', _, rfl, d1, denL_set hd d2⟩

theorem Ex1.itemV (O : FOk B d F) {x : Str} {np p' p : Pos} {i e : Expr} {a : Addr} (hx : ρ x = some (.own a))
    (h : Ev prog w B F e ρ σ X fun V σ₁ => Ev prog w B F i ρ σ₁ X fun I σ₂ => ∃ k xs, I = .int k ∧ σ₂ a = some (.lv xs) ∧ 0 ≤ k ∧ k < xs.length ∧ xs.length < 2 ^ 20 ∧ N ρ (upd σ₂ a (.lv (xs.set k.toNat V))))
    (hd : (x == ("__debug__" : Str)) = false := by decide) (hcd : (x == ("__classdict__" : Str)) = false := by decide)
    (hs : swapsWith e (some (.Subscript (.Name x np) i p')) p.line F.env = pure false := by rfl) :
    Ex1 prog w B F (.Assign [.Subscript (.Name x np) i p'] e p) ρ σ X N Rt := fun s T => by
  refine wpAny_Assign_Subscript (wpAny_mono (h s T) (fun v s₁ ⟨V, σ₁, T₁, S₁, D₁, h₁⟩ => ?_) fun _ _ x => x) hs
  refine wpAny_mono (Ev.loc (prog := prog) (w := w) (X := X) (σ := σ₁) (Q := fun V σ' => V = .own a ∧ σ' = σ₁) O hx ⟨rfl, rfl⟩ hd hcd s₁ T₁) (fun ov s₂ ⟨V', σ₂, T₂, S₂, D₂, eV, eσ⟩ => ?_) fun _ _ x => x
  subst eV; subst eσ
  simp only [Den] at D₂
  subst D₂
  refine wpAny_mono (h₁ s₂ T₂) (fun iv s₃ ⟨I, σ₃, T₃, S₃, D₃, k, xs, eI, hσ, h0, hk, hz, h₃⟩ => ?_) fun _ _ x => x
  subst eI
  obtain ⟨t', rfl⟩ := den_int D₃
  obtain ⟨_, _, _, items, n, hg, hI⟩ := T₃.led a _ hσ
  have hlen := denL_len hI
  refine ki_setAt hg h0 (by lia) (by rw [List.size_toArray]; lia) ?_
  have q := PySem.IsL.update hg (·.setIfInBounds k.toNat v)
  have e1 : (List.toArray items).setIfInBounds k.toNat v = List.toArray (items.set k.toNat v) := by
    apply Array.toList_inj.mp
    simp
  rw [e1] at q
  obtain ⟨T', S'⟩ := T₃.setOwn (ob' := .lv (xs.set k.toNat V)) (t := s₃.toks) hσ (Heap.SameBut.update ..) ⟨_, q, .inl fun vs z => by cases z⟩ fun S => ⟨_, _, q, denL_set (((D₁.step S₂).step S₃).step S) (hI.step S)⟩
  exact ⟨ρ, _, T', ((S₁.trans S₂).trans S₃).trans S', h₃⟩

-- what is called stands in the written part: a function or a class
theorem Ev.callKN (G : GOk B K) (O : FOk B d F) {x : Str} {np : Pos} {e : Expr} {rest : List Expr} {p : Pos} {q : Addr}
    (hk : F.env.kindOf x = some .globalImplicit) (hx : nsIn K mainGlobals x = some (some (.ref q))) (hq : keepIn K (.ref q) = true)
    (h : EvL prog w B F (e :: rest) ρ σ X fun vs σ₂ => OpN prog w B F (fun us => call (.ref q) us) vs ρ σ₂ X Q)
    (hd : (x == ("__debug__" : Str)) = false := by decide)
    (he : starEach (e :: rest) F.env = (false, eval e F.env) :: starEach rest F.env := by rfl)
    (hplain : (backTo p (starEach rest F.env)).any (·.1) = false := by rfl)
    (hc : eval (.Call (.Name x np) (e :: rest) [] p) F.env = (do callWith p (← eval (.Name x np) F.env) [] (backTo p (starEach (e :: rest) F.env)) (backToKw p (keywordEach [] F.env))) := by rfl) :
    Ev prog w B F (.Call (.Name x np) (e :: rest) [] p) ρ σ X Q := fun s T => by
  refine Call_ (wpAny_mono (Ev.glo (prog := prog) (w := w) (X := X) (σ := σ) (Q := fun V σ' => V = .fn q ∧ σ' = σ) G O hk hx ⟨rfl, rfl⟩ hd s T) (fun v s₁ ⟨V, σ₁, T₁, S₁, D₁, eV, eσ⟩ => ?_) fun _ _ x => x) hc
  subst eV; subst eσ
  simp only [Den] at D₁
  subst D₁
  refine callWith_K (G.kin.keeps T.base) hq (wpAny_mono (h p s₁ T₁) (fun vs s₂ ⟨Vs, σ₂, T₂, S₂, D₂, h₂⟩ => ⟨G.kin.keeps T₂.base, ?_⟩) fun _ _ x => x) he hplain
  exact wpAny_mono (h₂ vs s₂ T₂ D₂) (fun _ _ ⟨V, σ', T', S', D', q⟩ => ⟨V, σ', T', (S₁.trans S₂).trans S', D', q⟩) fun _ _ x => x
theorem Ev.callKN0 (G : GOk B K) (O : FOk B d F) {x : Str} {np : Pos} {p : Pos} {q : Addr}
    (hk : F.env.kindOf x = some .globalImplicit) (hx : nsIn K mainGlobals x = some (some (.ref q))) (hq : keepIn K (.ref q) = true)
    (h : OpN prog w B F (fun us => call (.ref q) us) [] ρ σ X Q)
    (hd : (x == ("__debug__" : Str)) = false := by decide)
    (hc : eval (.Call (.Name x np) [] [] p) F.env = (do callWith p (← eval (.Name x np) F.env) [] (backTo p (starEach [] F.env)) (backToKw p (keywordEach [] F.env))) := by rfl) :
    Ev prog w B F (.Call (.Name x np) [] [] p) ρ σ X Q := fun s T => by
  refine Call_ (wpAny_mono (Ev.glo (prog := prog) (w := w) (X := X) (σ := σ) (Q := fun V σ' => V = .fn q ∧ σ' = σ) G O hk hx ⟨rfl, rfl⟩ hd s T) (fun v s₁ ⟨V, σ₁, T₁, S₁, D₁, eV, eσ⟩ => ?_) fun _ _ x => x) hc
  subst eV; subst eσ
  simp only [Den] at D₁
  subst D₁
  refine callWith_K0 (G.kin.keeps T₁.base) hq ?_
  exact wpAny_mono (h [] s₁ T₁ (by simp [DenL])) (fun _ _ ⟨V, σ', T', S', D', q⟩ => ⟨V, σ', T', S₁.trans S', D', q⟩) fun _ _ x => x

-- objects of classes
theorem getL_none {D R : Addr → Prop} {h : Heap} {name : Str} : ∀ {es : List (Str × V)} {ds : List DictEntry}, DenE D R h es ds → (∀ q ∈ es, (q.1 == name) = false) → getL name ds = some none := by
  have key : ∀ {es : List (Str × V)} {ds : List DictEntry}, DenE D R h es ds → (∀ q ∈ es, (q.1 == name) = false) → ds.find? (·.key.isStr name) = none ∧ ds.any (·.refKey) = false := by
    intro es
    induction es with
    | nil => intro ds x _; simp only [DenE] at x; subst x; exact ⟨rfl, rfl⟩
    | cons q r ih =>
      obtain ⟨k, V⟩ := q
      intro ds x hn
      simp only [DenE] at x
      obtain ⟨hs, t, u, us, rfl, _, x2⟩ := x
      obtain ⟨i1, i2⟩ := ih x2 fun q hq => hn q (.tail _ hq)
      have e : (Value.str k t).isStr name = false := by
        have := hn (k, V) (.head _)
        simpa [Value.isStr] using this
      exact ⟨by rw [List.find?_cons]; simp only [e]; exact i1, by rw [List.any_cons, i2]; rfl⟩
  intro es ds x hn
  obtain ⟨i1, i2⟩ := key x hn
  unfold getL
  rw [i1]
  simp only [i2, Bool.false_eq_true, if_false]

theorem Ev.meth (G : GOk B K) (O : FOk B d F) {x name : Str} {np ap p : Pos} {e : Expr} {rest : List Expr} {C q : Addr} {es : List (Str × V)} {pl : Sem Bool} (hx : ρ x = some (.inst C es)) (hes : ∀ q ∈ es, (q.1 == name) = false)
    (hg : plainGet K C name = true) (hf : findIn K (.ref C) name = some (some (.ref q))) (ht : isFn K (.ref q) = true) (hq : keepIn K (.ref q) = true)
    (h : EvL prog w B F (e :: rest) ρ σ X fun vs σ₂ => OpN prog w B F (fun us => call (.ref q) us) (V.inst C es :: vs) ρ σ₂ X Q)
    (hd : (x == ("__debug__" : Str)) = false := by decide) (hcd : (x == ("__classdict__" : Str)) = false := by decide)
    (h1 : starEach (e :: rest) F.env = (false, eval e F.env) :: starEach rest F.env := by rfl)
    (hplain : (backTo p (starEach rest F.env)).any (·.1) = false := by rfl)
    (he : eval (.Call (.Attribute (.Name x np) name ap) (e :: rest) [] p) F.env = (do
      let ov ← eval (.Name x np) F.env
      standAt ap.atName
      let (f, first) ← holding [ov] (getMethod ov name pl)
      callWith p f first (backTo p (starEach (e :: rest) F.env)) []) := by rfl) :
    Ev prog w B F (.Call (.Attribute (.Name x np) name ap) (e :: rest) [] p) ρ σ X Q := fun s T => by
  refine MethodCall_ (wpAny_mono (Ev.loc (prog := prog) (w := w) (X := X) (σ := σ) (Q := fun V σ' => V = .inst C es ∧ σ' = σ) O hx ⟨rfl, rfl⟩ hd hcd s T) (fun v s₁ ⟨V, σ₁, T₁, S₁, D₁, eV, eσ⟩ => ?_) fun _ _ x => x) he
  subst eV; subst eσ
  have D0 := D₁
  simp only [Den] at D₁
  obtain ⟨a, ox, dx, items, n, rfl, ha, eo, hdx, h1', h2, h3, h4, hv⟩ := D₁
  subst eo
  have I : InstAt s₁.heap a ⟨.ref C, some dx, .plain, #[]⟩ C (some (dictOf items n)) := ⟨ha, rfl, rfl, hdx⟩
  refine method_fn (G.kin.keeps T₁.base) I (plainGet_of hg).1 (plainGet_of hg).2 hf (beq_iff_eq.mp ht) (by show (lookIn name (dictOf items n)).map _ = _; rw [lookIn_dict, getL_none hv hes]; rfl) ?_
  refine callWith_K (G.kin.keeps T₁.base) hq (wpAny_mono (h p s₁ T₁) (fun vs s₂ ⟨Vs, σ₂, T₂, S₂, D₂, h₂⟩ => ⟨G.kin.keeps T₂.base, ?_⟩) fun _ _ x => x) h1 hplain
  exact wpAny_mono (h₂ _ s₂ T₂ (by simp only [List.singleton_append, DenL]; exact ⟨_, _, rfl, D0.step S₂, D₂⟩)) (fun _ _ ⟨V, σ', T', S', D', q⟩ => ⟨V, σ', T', (S₁.trans S₂).trans S', D', q⟩) fun _ _ x => x

theorem Ev.attr (G : GOk B K) (O : FOk B d F) {x name : Str} {np p : Pos} {C : Addr} {i : Int} (hx : ρ x = some (.inst C [(name, .int i)]))
    (hg : plainGet K C name = true) (hh : hasDictIn K C = true) (ha : findIn K (.ref C) name = some none) (h : Q (.int i) σ)
    (hd : (x == ("__debug__" : Str)) = false := by decide) (hcd : (x == ("__classdict__" : Str)) = false := by decide) :
    Ev prog w B F (.Attribute (.Name x np) name p) ρ σ X Q := fun s T => by
  refine Attribute_name (wpAny_mono (Ev.loc (prog := prog) (w := w) (X := X) (σ := σ) (Q := fun V σ' => V = .inst C [(name, .int i)] ∧ σ' = σ) O hx ⟨rfl, rfl⟩ hd hcd s T) (fun v s₁ ⟨V, σ₁, T₁, S₁, D₁, eV, eσ⟩ => ?_) fun _ _ x => x)
  subst eV; subst eσ
  simp only [Den] at D₁
  obtain ⟨a, ox, dx, items, n, rfl, hA, eo, hdx, h1', h2, h3, h4, hv⟩ := D₁
  subst eo
  simp only [DenE, Den] at hv
  obtain ⟨hs, t, u, us, rfl, ⟨tu, rfl⟩, rfl⟩ := hv
  have I : InstAt s₁.heap a ⟨.ref C, some dx, .plain, #[]⟩ C (some (dictOf [⟨hs, .str name t, .int i tu⟩] n)) := ⟨hA, rfl, rfl, hdx⟩
  have hl : getL name [⟨hs, .str name t, .int i tu⟩] = some (some (.int i tu)) := by
    unfold getL
    have e : (Value.str name t).isStr name = true := by simp [Value.isStr]
    rw [List.find?_cons]; simp only [e]
  refine get_value (G.kin.keeps T₁.base) I (plainGet_of hg).1 (findObj_own hh ha rfl hl) rfl ?_
  obtain ⟨V, σ', a, b, c, dd⟩ := doneT (t := s₁.toks + 1) T₁ (.i (t := tu)) h
  exact ⟨V, σ', a, S₁.trans b, c, dd⟩

theorem opn_make0 (G : GOk B K) {C : Addr} (hm : makesIn K C = true) (hi : findIn K (.ref C) "__init__" = some (some (.builtin "object.__init__"))) (h : Q (.inst C []) σ) :
    OpN prog w B F (fun us => call (.ref C) us) [] ρ σ X Q := fun us s T D => by
  simp only [DenL] at D
  subst D
  refine wpAny_call ?_
  obtain ⟨hh, g, dr, t, os⟩ := s
  have X := G.kin.keeps T.base
  have Y := makes_of (M := model prog w) X hm
  have k : ∀ b o, hh.get? b = some o → ((hh.push emptyDict).push (instObj C hh.objs.size)).get? b = some o := fun b o e => Heap.get?_push_of_some _ (Heap.get?_push_of_some _ e)
  have f1 : hh.get? hh.objs.size = none := get_none_size0 hh
  have f2 : hh.get? (hh.objs.size + 1) = none := get_none_size hh 1
  have g1 : ((hh.push emptyDict).push (instObj C hh.objs.size)).get? hh.objs.size = some emptyDict := Heap.get?_push_of_some _ (Heap.get?_push_size _ rfl)
  have g2 : ((hh.push emptyDict).push (instObj C hh.objs.size)).get? (hh.objs.size + 1) = some (instObj C hh.objs.size) := by
    have := Heap.get?_push_size (hh.push emptyDict) (o := instObj C hh.objs.size) rfl
    rwa [Heap.size_push] at this
  refine make_core Y (looks_findIn X hi) (fun self => Looks.of_pure (oi_bind self)) (.inr ⟨rfl, rfl⟩) ?_
  have t1 : Looks (model prog w) ((hh.push emptyDict).push (instObj C hh.objs.size)) (typeOf (.ref (hh.objs.size + 1))) (.ref C) := (Looks.ld g2).andThen .now
  have t2 : Looks (model prog w) ((hh.push emptyDict).push (instObj C hh.objs.size)) (isInstance (.ref (hh.objs.size + 1)) (.type "object")) true := t1.andThen (Y.top.keeps k)
  refine codeAny_call_builtin oi_plain entry_oi (@check_slot (model prog w) _ _ _ "object.__init__" "object" "__init__" (.ref (hh.objs.size + 1)) [] [] _ oi_kind oi_split t2 (oi_args (.ref (hh.objs.size + 1))) ?_)
  rw [oi_run]
  refine wpAny_pure (And.intro rfl ?_)
  have F1 := T.fresh f1
  have F2 := T.fresh f2
  exact done T k (by simp only [Den]; exact ⟨_, _, _, [], 0, rfl, g2, rfl, g1, F2.1, F2.2.1, F1.1, F1.2.1, by simp [DenE]⟩) h
end
end Mine
end

-- part cS
section
open PySem PySem.W PyProof.Rows PySem.Calls
namespace Mine
section
variable {prog : Program} {w : World} {B : Heap} {K : Frag} {F : FC} {ρ : Rho} {σ σv : Led} {s : Shared} {X X' : Addr → Prop} {Q : V → Led → Prop} {d : Nat}
  {N : Rho → Led → Prop} {Rt : V → Led → Prop} {E : Value → Shared → Prop} {A : Around} {M : Model}

theorem sets_bind {D R : Addr → Prop} {h : Heap} {ko : Str → Option NameKind} : ∀ {names : List Str} {Vs : List V} {us : List Value} {r : Rho} {m cm : Str → Option Value}, Vs.length = names.length → DenL D R h Vs us →
    (∀ n ∈ names, ko n = some .local ∨ ko n = some .cell) →
    (∀ x V, r x = some V → ∃ v, Den D R h V v ∧ ((ko x = some .local ∧ m x = some v) ∨ (ko x = some .cell ∧ cm x = some v))) →
    ∀ x V, sets r names Vs x = some V → ∃ v, Den D R h V v ∧ ((ko x = some .local ∧ bindL ko (names.zip us) m x = some v) ∨ (ko x = some .cell ∧ bindC ko (names.zip us) cm x = some v))
  | [], Vs, us, r, m, cm, hl, Dn, _, h0, x, V, e => by
    cases Vs with
    | nil => exact h0 x V e
    | cons v r => simp at hl
  | n :: names, Vs, us, r, m, cm, hl, Dn, hk, h0, x, V, e => by
    cases Vs with
    | nil => simp at hl
    | cons W Vs =>
      simp only [DenL] at Dn
      obtain ⟨u, us', rfl, D1, D2⟩ := Dn
      simp only [sets] at e
      rw [List.zip_cons_cons, bindL, bindC]
      refine sets_bind (by simpa using hl) D2 (fun y hy => hk y (.tail _ hy)) (fun y U ey => ?_) x V e
      unfold setv at ey
      by_cases q : y = n
      · simp only [q, if_true, Option.some.injEq] at ey
        subst ey; subst q
        refine ⟨u, D1, ?_⟩
        rcases hk y (.head _) with z | z
        · exact .inl ⟨z, by simp [z]⟩
        · exact .inr ⟨z, by simp [z]⟩
      · simp only [q, if_false] at ey
        obtain ⟨v, dv, z⟩ := h0 y U ey
        refine ⟨v, dv, z.imp (fun z => ⟨z.1, ?_⟩) (fun z => ⟨z.1, ?_⟩)⟩
        · split <;> simp [q, z.2]
        · split <;> simp [q, z.2]

theorem call_fnC {name qual : Str} {params : Arguments} {body : List Stmt} {scope : Scope} {dV kV doc pm cdv ct oc : Value} {an od : Option Addr} {osl : Array (Option Value)} {f : Addr} {args : List V} {names : List Str}
    (G : GOk B K) (ho : K.lookup f = some ⟨oc, od, .func (fnOf name qual params body scope dV kV doc pm an cdv ct), osl⟩) (hcd : codeIn K cdv qual = true)
    (hlen : args.length = names.length) (hbind : ∀ us : List Value, us.length = names.length → bindArgs (fnOf name qual params body scope dV kV doc pm an cdv ct) ⟨us, []⟩ = pure (names.zip us))
    (hloc : ∀ x ∈ names, scope.names.lookup x = some .local ∨ scope.names.lookup x = some .cell)
    (hco : scope.isCoroutine = false) (hgen : scope.isGenerator = false) (hk : scope.kind = .function)
    (h : ∀ A outer h0 R s0 L, FOk B d (mkF A (envOfC qual scope L f cdv) outer h0 R s0) → Ex prog w B (mkF A (envOfC qual scope L f cdv) outer h0 R s0) body (rho0 names args) σv X (fun _ σ' => Bk σv Q .none σ') (Bk σv Q)) :
    CallG prog w B (d + 1) f args σv Q X := fun A outer R s vals hA hG hD => by
  have hlv : vals.length = names.length := (denL_len hD).trans hlen
  have hkind : ((names.zip vals).all fun y => scope.names.lookup y.1 == some .local || scope.names.lookup y.1 == some .cell) = true := by
    refine List.all_eq_true.mpr fun y hy => ?_
    rcases hloc y.1 (List.of_mem_zip hy).1 with q | q <;> simp [q]
  refine codeAny_call_function (fd := fnOf name qual params body scope dV kV doc pm an cdv ct) (body := body) (by have := hA.hd; lia) (hG.base _ _ (G.kin _ _ ho)) rfl hco hgen rfl ((codeRec_of G.kin hcd).keeps hG.base) ?_
  rw [hbind vals hlv]
  refine wpAny_pure (wpAny_newFunctionEnv_cells hk (kindsX hkind _) fun env eenv s1 IC => ?_)
  have ee : env = envOfC qual scope s.heap.objs.size f cdv := eenv
  subst ee
  obtain ⟨IN, hcell, hap, hab⟩ := IC
  obtain ⟨⟨h₁, tk, rfl⟩, hns, hk₁, _⟩ := IN
  replace hns : h₁.Ns s.heap.objs.size (bindL (envOfC qual scope s.heap.objs.size f cdv).kindOf (names.zip vals) fun _ => none) := hns
  replace hk₁ : ∀ b o, s.heap.get? b = some o → h₁.get? b = some o := hk₁
  replace hcell : ∀ n c, (cellsFrom (s.heap.objs.size + 1) scope.names []).lookup n = some c → h₁.IsCell c (bindC (envOfC qual scope s.heap.objs.size f cdv).kindOf (names.zip vals) (fun _ => none) n) := hcell
  replace hap : (cellsFrom (s.heap.objs.size + 1) scope.names []).Pairwise fun x y => x.2 ≠ y.2 := hap
  replace hab : ∀ n c, (n, c) ∈ cellsFrom (s.heap.objs.size + 1) scope.names [] → s.heap.objs.size < c := hab
  refine ⟨(G.lim.keeps hG.base).keeps hk₁, codeAny_func ?_⟩
  show wpAny (model prog w) (A.deeper (envOfC qual scope s.heap.objs.size f cdv)) (execs body (envOfC qual scope s.heap.objs.size f cdv)) _ _ _
  have cfresh : ∀ x c, (cellsFrom (s.heap.objs.size + 1) scope.names []).lookup x = some c → s.heap.get? c = none ∧ c ≠ s.heap.objs.size := fun x c e =>
    ⟨Heap.get?_none_of_le (Nat.le_of_lt (hab x c (mem_of_lookup e))), Nat.ne_of_gt (hab x c (mem_of_lookup e))⟩
  have csome : ∀ x, scope.names.lookup x = some .cell → ∃ c, (cellsFrom (s.heap.objs.size + 1) scope.names []).lookup x = some c := fun x e => Option.isSome_iff_exists.mp (cellsFrom_some _ _ _ (.inl e))
  have fL : s.heap.get? s.heap.objs.size = none := get_none_size0 s.heap
  generalize hL : s.heap.objs.size = L at *
  have Bn : ∀ b, s.heap.get? b = none → B.get? b = none := fun b fb => by
    cases q : B.get? b with
    | none => rfl
    | some o => have := hG.base _ _ q; rw [fb] at this; cases this
  have BL : B.get? L = none := Bn L fL
  let F : FC := mkF (A.deeper (envOfC qual scope L f cdv)) (envOfC qual scope L f cdv) outer (PH0 s.heap σv) (fun b => R b ∨ b = L) s
  have vn : ∀ b, s.heap.get? b = none → σv b = none := fun b fb => by
    cases q : σv b with
    | none => rfl
    | some ob =>
      obtain ⟨_, _, q⟩ := hG.led b ob q
      cases ob with
      | li xs => obtain ⟨_, _, e, _⟩ := q; rw [fb] at e; cases e
      | lv xs => obtain ⟨_, _, e, _⟩ := q; rw [fb] at e; cases e
      | tb l => obtain ⟨_, e, _⟩ := q; rw [fb] at e; cases e
  have vL : σv L = none := vn L fL
  have mus : ∀ b, mu F σv b → dm σv b ∨ s.heap.get? b = none := fun b q => by
    rcases q with q | q | ⟨x, q, q'⟩
    · exact .inl q
    · have q' : b = L := q
      exact .inr (q' ▸ fL)
    · exact .inr (cfresh x b q').1
  have nfr : ¬ frs outer L := fun q => by obtain ⟨o, e⟩ := hG.RA L (hG.Rfr L q); rw [fL] at e; cases e
  have O : FOk B d F := by
    refine ⟨hA.hh, Around.frames_deeper hA.hfr, ?_, ?_, rfl, hk, rfl, rfl, .inr rfl, fun b q => .inl (hG.Rfr b q), ?_, fun x c q q' => ?_, fun x y c q q' => ?_, BL⟩
    · show A.depth + 1 + d + 1 < recursionLimit
      have := hA.hd; lia
    · show A.units + 3 + 10 * d + 100 < cLine
      have := hA.hu; lia
    · show PH0 s.heap σv L = none
      rw [ph0_none vL]; exact fL
    · have fc := (cfresh x c q').1
      refine ⟨?_, Bn c fc⟩
      show PH0 s.heap σv c = none
      rw [ph0_none (vn c fc)]; exact fc
    · exact name_of_addr hap (mem_of_lookup q) (mem_of_lookup q')
  have S0 : Stp (dm σv) R s.heap (mu F σv) F.R h₁ := by
    refine ⟨fun b o e _ => ⟨o, hk₁ b o e, .inl rfl⟩, fun b o e q => ?_, fun b o e q => ?_⟩
    · rcases mus b q with q | q
      · exact q
      · rw [q] at e; cases e
    · rcases q with q | q
      · exact q
      · rw [q, fL] at e; cases e
  have hDen : DenL (mu F σv) F.R h₁ args vals := hD.stp S0
  have T0 : St B F (rho0 names args) σv { s with heap := h₁, toks := tk } := by
    refine ⟨fun b o e => hk₁ b o (hG.base b o e), ?_, fun b o e => ⟨o, hk₁ b o (ph0_some e).2, .inl rfl⟩, ⟨_, hns, fun x V e => ?_⟩, fun x c q q' => ⟨_, hcell x c q'⟩, fun a ob e => ?_, fun b q => ?_, ⟨_, _, rfl⟩⟩
    · exact .cons (by show scope.kind ≠ .module; rw [hk]; decide) rfl hns BL (funFrames_chg (fun b o e nf => ⟨o, hk₁ b o e, nf⟩) hG.frames)
    · obtain ⟨v, dv, z⟩ := sets_bind (ko := (envOfC qual scope L f cdv).kindOf) (m := fun _ => none) (cm := fun _ => none) hlen hDen hloc (fun x V e => by cases e) x V e
      refine ⟨v, ?_, dv⟩
      rcases z with z | ⟨z1, z2⟩
      · exact .inl z
      · obtain ⟨c, ec⟩ := csome x z1
        exact .inr ⟨.inl z1, c, ec, z2 ▸ hcell x c ec⟩
    · obtain ⟨g1, g2, g3⟩ := hG.led a ob e
      refine ⟨?_, g1, ?_, ?_⟩
      · show PH0 s.heap σv a = none
        unfold PH0; rw [e]
      · rintro (q | q)
        · exact g2 q
        · rw [q, vL] at e; cases e
      · cases ob with
        | li xs => obtain ⟨items, n, e1, e2⟩ := g3; exact ⟨items, n, hk₁ _ _ e1, e2⟩
        | lv xs => obtain ⟨items, n, e1, e2⟩ := g3; exact ⟨items, n, hk₁ _ _ e1, e2.stp S0⟩
        | tb l => obtain ⟨ps, e1, e2⟩ := g3; exact ⟨ps, hk₁ _ _ e1, e2⟩
    · rcases q with q | q
      · obtain ⟨o, e⟩ := hG.RA b q; exact ⟨o, hk₁ b o e⟩
      · subst q; obtain ⟨o', es', ep', e', _⟩ := ns_get hns; exact ⟨o', e'⟩
  have fin : ∀ (v : Value) (V : V) (ρ' : Rho) (σ' : Led) (s' : Shared), St B F ρ' σ' s' → Step (mu F σv) F.R h₁ (mu F σ') F.R s'.heap → Den (mu F σ') F.R s'.heap V v → Bk σv Q V σ' → PostG B outer R σv s Q X (.ok (.ret v)) s' := by
    intro v V ρ' σ' s' T' S' D' ⟨hob, V', hq, hz, hV⟩
    have gr : ∀ a, dm σv a → σ' a ≠ none := fun a q => by
      have ha : ∃ o, s.heap.get? a = some o := by
        cases e : σv a with
        | none => exact absurd e q
        | some ob =>
          obtain ⟨_, _, g⟩ := hG.led a ob e
          cases ob with
          | li xs => obtain ⟨_, _, e, _⟩ := g; exact ⟨_, e⟩
          | lv xs => obtain ⟨_, _, e, _⟩ := g; exact ⟨_, e⟩
          | tb l => obtain ⟨_, e, _⟩ := g; exact ⟨_, e⟩
      obtain ⟨o, eo⟩ := ha
      rcases S'.grow a (.inl q) with z | z | ⟨x, z, z'⟩
      · exact z
      · have z' : a = L := z
        rw [z', fL] at eo; cases eo
      · rw [(cfresh x a z').1] at eo; cases eo
    have dmu : ∀ b, dm σv b → mu F σ' b := fun b q => .inl (gr b q)
    refine ⟨V', σ', hq, hz, ?_, fun a q => ?_, T'.keep, T'.base, T'.sh⟩
    · rcases hV with rfl | ⟨a, xs, rfl, e1, e2, rfl⟩
      · exact D'.sub dmu fun b q => .inl q
      · simp only [Den] at D' ⊢
        obtain ⟨g1, g2, g3, items, n, e3, e4⟩ := T'.led a _ e2
        exact ⟨a, items, D', ⟨_, e3, rfl, n, rfl⟩, e4, fun z => z e1, fun z => g3 (.inl z)⟩
    · cases e : σ' a with
      | none => exact absurd e (gr a q)
      | some ob =>
        obtain ⟨g1, g2, g3, g4⟩ := T'.led a ob e
        refine ⟨ob, rfl, hob a ob q e, ?_⟩
        cases ob with
        | li xs => exact g4
        | lv xs => obtain ⟨items, n, e1, e2⟩ := g4; exact ⟨items, n, e1, e2.sub dmu fun b q => .inl q⟩
        | tb l => exact g4
  refine wpAny_mono (h _ _ _ _ _ _ O _ T0) (fun fl s' hl => ?_) fun v s' hx => leave_xs (A := A.deeper (envOfC qual scope L f cdv)) hx (Around.frames_deeper hA.hfr) rfl (by show PH0 s.heap σv L = none; rw [ph0_none vL]; exact fL) fun s'' k => k
  cases fl with
  | next => obtain ⟨ρ', σ', T', S', hb⟩ := hl; exact fin .none .none ρ' σ' s' T' S' (by simp [Den]) hb
  | ret v => obtain ⟨ρ', V, σ', T', S', D', hb⟩ := hl; exact fin v V ρ' σ' s' T' S' D' hb
  | brk => exact hl.elim
  | cont => exact hl.elim
end
end Mine
end

-- part cT
section
open PySem PySem.W PyProof.Rows PySem.Calls
namespace Mine
section
variable {prog : Program} {w : World} {B : Heap} {K : Frag} {F : FC} {ρ : Rho} {σ σv : Led} {s : Shared} {X X' : Addr → Prop} {d : Nat}
  {E : Value → Shared → Prop} {A : Around} {M : Model}

/-- an exception leaves a frame: what stands then -/
structure Out (B : Heap) (outer : List Env) (h0 : PH) (s0 : Shared) (e C : Addr) (Bx : Heap) (a0 : Value) (s' : Shared) : Prop where
  sh : ∃ h t, s' = { s0 with heap := h, toks := t }
  bb : B.StaysIn Bx
  fl : Heap.FlyingW Bx outer e (.ref C) a0 s'.heap
  ex : ∀ b o, h0 b = some o → ¬ frs outer b → Bx.get? b = some o
  kp : KeepF (frs outer) h0 s'.heap

theorem leave_xt {env : Env} {outer : List Env} {h0 : PH} {s0 s' : Shared} {v : Value} {Q : Unit → Shared → Prop} {L : Addr} (h : Xs B (env :: outer) h0 s0 X v s') (hfr : A.frames = some (env :: outer)) (hf : env.frame = some L) (h0L : h0 L = none)
    (k : ∀ s'' e C Bx a0, v = .ref e → X C → Out B outer h0 s0 e C Bx a0 s'' → Q () s'') : wpAny M A (leaving env v) Q E s' := by
  obtain ⟨e, C, Bx, rfl, hX, ⟨hh, tt, rfl⟩, x1, x2, x3, x4, x5, x6, x7⟩ := h
  have fin : ∀ h', Heap.Left Bx (env :: outer) e (.ref C) hh h' → Q () { s0 with heap := h', toks := tt } := fun h' ⟨y1, y2, y3, y4⟩ => by
    obtain ⟨oe, vs, T, oT, ts, z1, z2, z3, z4, z5⟩ := y3
    have hsz : 0 < vs.size := by have := (Array.getElem?_eq_some_iff.mp z4).1; lia
    refine k _ e C Bx vs[0] rfl hX ⟨⟨h', tt, rfl⟩, x1, ⟨y1, x3, y2.2.2, oe, vs, T, oT, ts, z1, ⟨z2, Array.getElem?_eq_getElem hsz⟩, z3, z4, z5⟩, fun b o q nf => ?_, fun b o q => ?_⟩
    · refine x5 b o q fun z => nf ?_
      unfold frs at z ⊢
      rw [List.filterMap_cons, hf] at z
      rcases List.mem_cons.mp z with rfl | z
      · rw [h0L] at q; cases q
      · exact z
    · obtain ⟨o', e', z⟩ := x6 b o q
      by_cases hb : frs outer b
      · have hm : b ∈ (env :: outer).filterMap (·.frame) := by rw [List.filterMap_cons, hf]; exact List.mem_cons_of_mem _ hb
        obtain ⟨_, o2, e2, nf⟩ := x4.mem hm
        rw [e'] at e2; cases e2
        obtain ⟨sl, e3⟩ := y4 b _ e' nf
        refine ⟨_, e3, .inr ⟨hb, sl, ?_⟩⟩
        rcases z with rfl | ⟨_, sl', rfl⟩ <;> rfl
      · have hb' : ¬ frs (env :: outer) b := fun z => hb (by
          unfold frs at z ⊢
          rw [List.filterMap_cons, hf] at z
          rcases List.mem_cons.mp z with rfl | z
          · rw [h0L] at q; cases q
          · exact z)
        exact ⟨o, y1 b o (x5 b o q hb'), .inl rfl⟩
  rcases x7 with ⟨oe, vs, e1, e2, e3, e4⟩ | x7
  · exact wpAny_leaving_first hfr x4 hf e1 x2 x3 e3 e4 fun h' hl => fin h' (e2 ▸ hl)
  · exact wpAny_leaving_next hfr x4 hf x7 x2 x3 fun h' hl => fin h' hl

/-- a clause of the try: it fits, or it does not -/
theorem clause {Bx : Heap} {outer : List Env} {env : Env} {e C C1 : Addr} {a0 : Value} {x m : Str} {np cp rp hp : Pos} {ck : Nat} {rest : List ExceptHandler} {Q : Flow → Shared → Prop} {b : Bool}
    (G : GOk B K) (hbb : B.StaysIn Bx) (hfl : Heap.FlyingW Bx (env :: outer) e (.ref C) a0 s.heap) (hk : env.scope.kind = .function) (hg : env.globals = mainGlobals)
    (hx : env.kindOf x = some .globalImplicit) (hn : nsIn K mainGlobals x = some (some (.ref C1))) (hm : exmOne K (.ref C) (.ref C1) = some b)
    (h : match b with
      | true => ∀ h' t t', Heap.FlyingW Bx (env :: outer) e (.ref C) a0 h' → s.heap.UpToSlots h' → Q (.ret (.str m t')) { s with heap := h', toks := t }
      | false => wpAny (model prog w) A (handleBy (.ref e) env rest) Q E s)
    (hd : (x == ("__debug__" : Str)) = false := by decide) :
    wpAny (model prog w) A (handleBy (.ref e) env (.ExceptHandler (some (.Name x np)) none [.Return (some (.Constant (.str m) ck cp)) rp] hp :: rest)) Q E s := by
  have kin : K.In s.heap := (G.kin.keeps hbb).keeps hfl.1
  obtain ⟨oe, hoe, hoc⟩ := hfl.there
  obtain ⟨mg, g⟩ := G.g
  have LT : Looks (model prog w) s.heap (typeOf (.ref e)) (.ref C) := hoc ▸ (Looks.ld hoe).andThen .now
  refine wpAny_handleBy_cons (codeAny_handlers_test (Name_function_global hk hx (loadGlobal_global (env := env) (hg ▸ (g.keeps hbb).keeps hfl.1) (mg_of G.kin g hn) ?_) hd)) (by intro q; cases q)
  refine (exm_one kin LT hm).here ?_
  cases b with
  | false => exact h
  | true =>
    refine codeAny_handlers_suite (lands_againW hfl fun h' hfl' hsm => wpAny_execs_cons (wpAny_Return_some (wpAny_Constant_str ?_)))
    exact h h' _ _ hfl' hsm

theorem heard_code (G : GOk B (kap.heap_1 w.params)) {outer : List Env} {R : Addr → Prop} {lam : Addr} {qual : Str} {params : Arguments} {body : Expr} {scope : Scope} {clos : List (Str × Addr)} {pm : Value} {c' : Addr} {ctv : Value} {Q : V → Prop}
    (hA : AOk (d + 2) A outer) (hG : StG B outer R pur s)
    (hlam : s.heap.get? lam = some (kla_obj "<lambda>" qual params body scope clos pm c' ctv)) (hrec : s.heap.CodeRec (.ref c') qual)
    (hb : bindArgs (kla_fn "<lambda>" qual params body scope clos pm (.ref c') ctv) ⟨[], []⟩ = pure [])
    (hco : scope.isCoroutine = false) (hgen : scope.isGenerator = false) (hk : scope.kind = .function) (hcellk : ∀ x ∈ scope.names, x.2 ≠ .cell)
    (hcl : ∀ x V, ρ x = some V → scope.names.lookup x = some .free ∧ ∃ c v, clos.lookup x = some c ∧ s.heap.IsCell c (some v) ∧ Den (dm pur) R s.heap V v)
    (cinj : ∀ x y c, clos.lookup x = some c → clos.lookup y = some c → x = y)
    (hX : ∀ C, X C → C = 37 ∨ C = 49 ∨ C = 61)
    (hbody : ∀ A outer h0 R s0 L, FOk B d (mkF A (envX qual scope L lam (.ref c') clos) outer h0 R s0) → Ev prog w B (mkF A (envX qual scope L lam (.ref c') clos) outer h0 R s0) body ρ pur X (fun V _ => Q V ∧ fz V = true)) :
    codeAny (model prog w) A (.call (.ref 405) ⟨[.ref lam], []⟩) (PostG B outer R pur s (fun V _ => Q V ∨ (V = .str "nought" ∧ X 37) ∨ (V = .str "rest" ∧ X 49) ∨ (V = .str "range" ∧ X 61)) (fun _ => False)) s := by
  refine codeAny_call_def (binds := [("work", .ref lam)]) (by have := hA.hd; lia) (hG.base _ _ (G.kin _ _ (show (kap.heap_1 w.params).lookup 405 = _ from by rfl))) rfl (G.lim.keeps hG.base) ((codeRec_of G.kin (by rfl)).keeps hG.base) rfl (.of_eq rfl) (by decide)
    (by intro q hq; simp only [List.mem_cons, List.not_mem_nil, or_false] at hq; subst hq; rfl) (fun h₁ hns hk₁ => ?_) rfl rfl rfl
  refine wpAny_execs_cons (wpAny_Try_except ?_)
  have fL : s.heap.get? s.heap.objs.size = none := get_none_size0 s.heap
  generalize hL : s.heap.objs.size = L at *
  have Bn : ∀ b, s.heap.get? b = none → B.get? b = none := fun b fb => by
    cases q : B.get? b with
    | none => rfl
    | some o => have := hG.base _ _ q; rw [fb] at this; cases this
  have lne : lam ≠ L := fun q => by rw [q, fL] at hlam; cases hlam
  refine wpAny_execs_cons (wpAny_Return_some (Call_ (wpAny_Name (wpAny_loadName_local (by rfl) (by rfl) hns (by rfl) (callWith_F0 ⟨_, _, _, _, hk₁ _ _ hlam⟩ (wpAny_call ?_))) (by decide)) (by rfl)))
  refine kla_callFunE (show A.depth + 1 < recursionLimit by have := hA.hd; lia) (hk₁ _ _ hlam) rfl hco hgen rfl (hrec.keeps hk₁) ?_
  refine wpAny_of_eq (a := []) hb ?_
  refine wpAny_newFunctionEnv hcellk (by intro y hy; cases hy) (fun h₂ hns₂ hsb₂ => ⟨((G.lim.keeps hG.base).keeps hk₁).fresh _ hsb₂, kla_codeExpr ?_⟩) hk
  replace hk₁ : ∀ b o, s.heap.get? b = some o → h₁.get? b = some o := hk₁
  have hk₂ : ∀ b o, h₁.get? b = some o → h₂.get? b = some o := fun b o e => hsb₂.extBut b o (Nat.ne_of_lt (Heap.lt_size e)) (Heap.get?_push_of_some _ e)
  obtain ⟨oL, esL, epL, hLo, hLd⟩ := ns_get hns
  have f2 : h₁.get? h₁.objs.size = none := get_none_size0 h₁
  replace hns₂ : h₂.Ns h₁.objs.size (fun x => ([] : List (Str × Value)).reverse.lookup x) := hns₂
  clear hsb₂
  show wpAny (model prog w) ((A.deeper _).deeper (envX qual scope h₁.objs.size lam (.ref c') clos)) (eval body (envX qual scope h₁.objs.size lam (.ref c') clos)) _ _ _
  generalize hL2 : h₁.objs.size = L2 at *
  have LL : L ≠ L2 := fun q => by rw [q, f2] at hLo; cases hLo
  have f2s : s.heap.get? L2 = none := by
    cases q : s.heap.get? L2 with
    | none => rfl
    | some o => have := hk₁ _ _ q; rw [f2] at this; cases this
  generalize he1 : callEnv _ L 405 = env1
  have e1k : env1.scope.kind = .function := by subst he1; rfl
  have e1f : env1.frame = some L := by subst he1; rfl
  have e1g : env1.globals = mainGlobals := by subst he1; rfl
  have e1a : env1.kindOf "DivisionByZero" = some .globalImplicit := by subst he1; rfl
  have e1b : env1.kindOf "NotExact" = some .globalImplicit := by subst he1; rfl
  have e1c : env1.kindOf "OutOfRange" = some .globalImplicit := by subst he1; rfl
  clear he1
  have nfr : ¬ frs outer L := fun q => by obtain ⟨o, e⟩ := hG.RA L (hG.Rfr L q); rw [fL] at e; cases e
  have fr1 : ∀ b, frs (env1 :: outer) b → b = L ∨ frs outer b := fun b q => by
    unfold frs at q ⊢
    rw [List.filterMap_cons, e1f] at q
    exact List.mem_cons.mp q
  let F : FC := mkF ((A.deeper env1).deeper (envX qual scope L2 lam (.ref c') clos)) (envX qual scope L2 lam (.ref c') clos) (env1 :: outer) (PH0 s.heap pur) (fun b => (R b ∨ b = L) ∨ b = L2) s
  have nc : ∀ x, F.env.kindOf x ≠ some .cell := fun x => no_cell hcellk
  have O : FOk B d F := by
    refine ⟨hA.hh, Around.frames_deeper (Around.frames_deeper hA.hfr), ?_, ?_, rfl, hk, rfl, rfl, .inr rfl, fun b q => .inl ((fr1 b q).elim .inr fun q => .inl (hG.Rfr b q)), f2s, fun x c q => absurd q (nc x), cinj, Bn L2 f2s⟩
    · show A.depth + 1 + 1 + d + 1 < recursionLimit
      have := hA.hd; lia
    · show A.units + 3 + 3 + 10 * d + 100 < cLine
      have := hA.hu; lia
  have k12 : ∀ b o, s.heap.get? b = some o → h₂.get? b = some o := fun b o e => hk₂ b o (hk₁ b o e)
  have mus : ∀ b, mu F pur b → b = L2 := fun b q => by
    rcases q with q | q | ⟨x, q, _⟩
    · exact absurd rfl q
    · exact q
    · exact absurd q (nc x)
  have S0 : Stp (dm pur) R s.heap (mu F pur) F.R h₂ := by
    refine ⟨fun b o e _ => ⟨o, k12 b o e, .inl rfl⟩, fun b o e q => ?_, fun b o e q => ?_⟩
    · rw [mus b q, f2s] at e; cases e
    · rcases q with (q | q) | q
      · exact q
      · rw [q, fL] at e; cases e
      · rw [q, f2s] at e; cases e
  obtain ⟨oL2, esL2, epL2, hL2o, hL2d⟩ := ns_get hns₂
  have T0 : ∀ tk, St B F ρ pur { s with heap := h₂, toks := tk } := fun tk => by
    refine ⟨fun b o e => k12 b o (hG.base b o e), ?_, fun b o e => ⟨o, k12 b o e, .inl rfl⟩, ⟨_, hns₂, fun x V e => ?_⟩, fun x c q => absurd q (nc x), fun a ob e => (by cases e), fun b q => ?_, ⟨_, _, rfl⟩⟩
    · refine .cons (by show scope.kind ≠ .module; rw [hk]; decide) rfl hns₂ (Bn L2 f2s) ?_
      refine .cons (by rw [e1k]; decide) e1f (hns.keeps hk₂) (Bn L fL) (funFrames_chg (fun b o e nf => ⟨o, k12 b o e, nf⟩) hG.frames)
    · obtain ⟨q1, c, v, q2, q3, q4⟩ := hcl x V e
      exact ⟨v, .inr ⟨.inr q1, c, q2, q3.keeps k12⟩, q4.stp S0⟩
    · rcases q with (q | q) | q
      · obtain ⟨o, e⟩ := hG.RA b q; exact ⟨o, k12 b o e⟩
      · exact ⟨_, q ▸ hk₂ _ _ hLo⟩
      · exact ⟨_, q ▸ hL2o⟩
  have keepX : ∀ h', KeepF (frs (env1 :: outer)) (PH0 s.heap pur) h' → KeepF (frs outer) (PH0 s.heap pur) h' := fun h' q b o e => by
    obtain ⟨o', e', z⟩ := q b o e
    refine ⟨o', e', z.imp id fun z => ⟨(fr1 b z.1).elim (fun y => ?_) id, z.2⟩⟩
    rw [y] at e
    have e2 : s.heap.get? L = some o := e
    rw [fL] at e2; cases e2
  refine wpAny_mono (hbody _ _ _ _ _ _ O _ (T0 _)) (fun v s' hv => ?_) fun v s' hx => ?_
  · obtain ⟨V, σ', T', S', D', hq, hz⟩ := hv
    refine ⟨V, σ', .inl hq, hz, D'.sub (fun b q => absurd rfl q) (fun b q => .inl (.inl q)), fun a q => absurd rfl q, keepX _ T'.keep, T'.base, T'.sh⟩
  refine leave_xt (A := (A.deeper env1).deeper (envX qual scope L2 lam (.ref c') clos)) hx (Around.frames_deeper (Around.frames_deeper hA.hfr)) rfl f2s fun s'' e C Bx a0 ev hC Y => ?_
  subst ev
  replace Y : Out B (env1 :: outer) (PH0 s.heap pur) s e C Bx a0 s'' := Y
  clear hx
  obtain ⟨hh', tt', es⟩ := Y.sh
  have fin : ∀ (h' : Heap) (t : Nat) (m : Str) (t' : Tok), Heap.FlyingW Bx (env1 :: outer) e (.ref C) a0 h' → s''.heap.UpToSlots h' →
      (Q (.str m) ∨ ((V.str m : V) = .str "nought" ∧ X 37) ∨ ((V.str m : V) = .str "rest" ∧ X 49) ∨ ((V.str m : V) = .str "range" ∧ X 61)) →
      PostG B outer R pur s (fun V _ => Q V ∨ (V = .str "nought" ∧ X 37) ∨ (V = .str "rest" ∧ X 49) ∨ (V = .str "range" ∧ X 61)) (fun _ => False) (.ok (.ret (.str m t'))) { s'' with heap := h', toks := t } := by
    intro h' t m t' fl sm hq
    refine ⟨.str m, pur, hq, rfl, by simp [Den], fun a q => absurd rfl q, keepX _ fun b o eo => ?_, fun b o eo => fl.1 b o (Y.bb b o eo), h', t, by rw [es]⟩
    by_cases hb : frs (env1 :: outer) b
    · obtain ⟨o', e', z⟩ := Y.kp b o eo
      obtain ⟨_, o2, e2, nf⟩ := Y.fl.2.2.1.mem hb
      rw [e'] at e2; cases e2
      obtain ⟨sl, e3⟩ := sm b _ e' nf
      refine ⟨_, e3, .inr ⟨hb, sl, ?_⟩⟩
      rcases z with rfl | ⟨_, sl', rfl⟩ <;> rfl
    · exact ⟨o, fl.1 b o (Y.ex b o eo hb), .inl rfl⟩
  show wpAny (model prog w) (A.deeper env1) (noteFrame (.ref e) env1) _ _ _
  refine wpAny_looks_onW (Around.frames_deeper hA.hfr) e1f Y.fl fun h₄ held₄ sm₄ => wpAny_landsW held₄ fun h₅ fl₅ sm₅ => ?_
  have sm := sm₄.trans sm₅
  rcases hX C hC with rfl | rfl | rfl
  · refine clause (b := true) G Y.bb fl₅ e1k e1g e1a (by rfl) (by with_unfolding_all rfl) ?_
    intro h' t t' fl' sm'
    exact fin h' t _ t' fl' (sm.trans sm') (.inr (.inl ⟨rfl, hC⟩))
  · refine clause (b := false) G Y.bb fl₅ e1k e1g e1a (by rfl) (by with_unfolding_all rfl) ?_
    refine clause (b := true) G Y.bb fl₅ e1k e1g e1b (by rfl) (by with_unfolding_all rfl) ?_
    intro h' t t' fl' sm'
    exact fin h' t _ t' fl' (sm.trans sm') (.inr (.inr (.inl ⟨rfl, hC⟩)))
  · refine clause (b := false) G Y.bb fl₅ e1k e1g e1a (by rfl) (by with_unfolding_all rfl) ?_
    refine clause (b := false) G Y.bb fl₅ e1k e1g e1b (by rfl) (by with_unfolding_all rfl) ?_
    refine clause (b := true) G Y.bb fl₅ e1k e1g e1c (by rfl) (by with_unfolding_all rfl) ?_
    intro h' t t' fl' sm'
    exact fin h' t _ t' fl' (sm.trans sm') (.inr (.inr (.inr ⟨rfl, hC⟩)))
end
end Mine
end

-- part cU
section
open PySem PySem.W PyProof.Rows PySem.Calls
namespace Mine
/-- where the builtins stand -/
def Bm (B : Heap) : Prop := ∃ mg bm o, B.Ns mainGlobals mg ∧ mg "__builtins__" = some (.ref bm) ∧ bm ≠ builtinsNs ∧ bm ≠ mainGlobals ∧ B.get? bm = some o ∧ o.cls = .type "module" ∧ o.dict = some builtinsNs ∧ o.data = .plain
section
variable {prog : Program} {w : World} {B : Heap} {K : Frag} {F : FC} {ρ : Rho} {σ σv : Led} {s : Shared} {X X' : Addr → Prop} {Q : V → Led → Prop} {d : Nat}
  {E : Value → Shared → Prop} {A : Around} {M : Model}

theorem St.setTab {h' : Heap} {t : Nat} {a : Addr} {l l' : List (Int × Int)} (T : St B F ρ σ s) (ha : σ a = some (.tb l)) (hs : ∀ b o, b ≠ a → s.heap.get? b = some o → h'.get? b = some o)
    (hob : DenOb (mu F (upd σ a (.tb l'))) F.R h' (.tb l') a) :
    St B F ρ (upd σ a (.tb l')) { s with heap := h', toks := t } ∧ Step (mu F σ) F.R s.heap (mu F (upd σ a (.tb l'))) F.R h' := by
  have hma : mu F σ a := .inl (by rw [ha]; simp)
  obtain ⟨psn, en, _⟩ := id hob
  have S : Step (mu F σ) F.R s.heap (mu F (upd σ a (.tb l'))) F.R h' :=
    ⟨⟨fun b o e nd => ⟨o, hs b o (fun q => nd (q ▸ hma)) e, .inl rfl⟩, fun b o e x => (mu_upd.mp x).elim (fun q => q ▸ hma) id, fun _ _ _ x => x⟩, fun b o e => by
      by_cases q : b = a
      · subst q; exact ⟨_, en⟩
      · exact ⟨o, hs b o q e⟩, fun _ x => mu_upd.mpr (.inr x)⟩
  obtain ⟨g1, g2, g3, ps, ea, _⟩ := T.led a _ ha
  obtain ⟨m, hn, hv⟩ := T.loc
  obtain ⟨oL, esL, epL, hL, hLd⟩ := ns_get hn
  have aL : F.env.locals ≠ a := fun q => by rw [← q, hL] at ea; cases ea; cases hLd
  have cell : ∀ c v, s.heap.IsCell c v → h'.IsCell c v := fun c v ⟨o, e, dd⟩ => ⟨o, hs c o (fun q => by rw [q, ea] at e; cases e; cases dd) e, dd⟩
  refine ⟨⟨fun b o e => hs b o (fun q => by rw [q, g2] at e; cases e) (T.base b o e), ?_, ?_, ⟨m, ?_, ?_⟩, ?_, ?_, ?_, ?_⟩, S⟩
  · refine funFrames_chg (fun b o e nf => ?_) T.frames
    refine ⟨o, hs b o (fun q => ?_) e, nf⟩
    rw [q, ea] at e; cases e; exact nf _ rfl
  · intro b o e
    obtain ⟨o', e', q⟩ := T.keep b o e
    exact ⟨o', hs b o' (fun z => by rw [z, g1] at e; cases e) e', q⟩
  · obtain ⟨o, es, ep, e, dd, r⟩ := hn
    exact ⟨o, es, ep, hs _ o aL e, dd, r⟩
  · intro y W e
    obtain ⟨u, hu, hd⟩ := hv y W e
    exact ⟨u, hu.imp id (fun ⟨a, c, b, b'⟩ => ⟨a, c, b, cell _ _ b'⟩), hd.step S⟩
  · intro y c p q
    obtain ⟨u, b'⟩ := T.cex y c p q
    exact ⟨u, cell _ _ b'⟩
  · intro b ob1 e
    unfold upd at e
    by_cases q : b = a
    · simp only [q, if_true, Option.some.injEq] at e; subst e; subst q
      exact ⟨g1, g2, g3, hob⟩
    · simp only [q, if_false] at e
      obtain ⟨h1, h2, h3, h4⟩ := T.led b ob1 e
      exact ⟨h1, h2, h3, h4.step S fun o e => hs b o q e⟩
  · intro b e
    obtain ⟨o, q⟩ := T.RA b e
    by_cases z : b = a
    · subst z; exact ⟨_, en⟩
    · exact ⟨o, hs b o z q⟩
  · obtain ⟨h1, t1, e⟩ := T.sh; exact ⟨h', t, by rw [e]⟩

theorem Ev.heard (G : GOk B (kap.heap_1 w.params)) (GB : Bm B) (O : FOk B (d + 2) F) {np lp cp : Pos} {params : Arguments} {body : Expr} {scope : Scope} {P c : Addr} {l : List (Int × Int)} {clos : List (Str × Addr)} {ρ2 : Rho} {Xb : Addr → Prop} {Qb : V → Prop}
    (hx : F.env.kindOf "_law_heard" = some .globalImplicit) (hP : σ P = some (.tb l)) (hpos : ((lp.line : Int), (lp.col : Int)) ∉ l) (hcode : F.env.code = .ref c) (hC : CodeHd B c P)
    (hclos : closureFor scope F.env = pure clos) (hdef : defaultsOf params F.env = ([], []))
    (hb : ∀ pm c' ctv, bindArgs (kla_fn "<lambda>" (F.env.qual ++ "<lambda>") params body scope clos pm (.ref c') ctv) ⟨[], []⟩ = pure [])
    (hco : scope.isCoroutine = false) (hgen : scope.isGenerator = false) (hk : scope.kind = .function) (hcellk : ∀ x ∈ scope.names, x.2 ≠ .cell)
    (hfree : ∀ x V, ρ2 x = some V → ρ x = some V ∧ scope.names.lookup x = some .free ∧ F.env.kindOf x = some .cell ∧ clos.lookup x = F.env.cells.lookup x)
    (cinj : ∀ x y c, clos.lookup x = some c → clos.lookup y = some c → x = y)
    (hX : ∀ C, Xb C → C = 37 ∨ C = 49 ∨ C = 61)
    (hbody : ∀ lam c' A outer h0 R s0 L, FOk B d (mkF A (envX (F.env.qual ++ "<lambda>") scope L lam (.ref c') clos) outer h0 R s0) →
      Ev prog w B (mkF A (envX (F.env.qual ++ "<lambda>") scope L lam (.ref c') clos) outer h0 R s0) body ρ2 pur Xb (fun V _ => Qb V ∧ fz V = true))
    (h : ∀ V, Qb V ∨ (V = .str "nought" ∧ Xb 37) ∨ (V = .str "rest" ∧ Xb 49) ∨ (V = .str "range" ∧ Xb 61) → Q V (upd σ P (.tb (((lp.line : Int), (lp.col : Int)) :: l))))
    (h1 : starEach [.Lambda params body scope lp] F.env = (false, eval (.Lambda params body scope lp) F.env) :: starEach [] F.env := by rfl)
    (hc : eval (.Call (.Name "_law_heard" np) [.Lambda params body scope lp] [] cp) F.env = (do callWith cp (← eval (.Name "_law_heard" np) F.env) [] (backTo cp (starEach [.Lambda params body scope lp] F.env)) (backToKw cp (keywordEach [] F.env))) := by rfl) :
    Ev prog w B F (.Call (.Name "_law_heard" np) [.Lambda params body scope lp] [] cp) ρ σ X Q := fun s T => by
  refine Call_ (wpAny_mono (Ev.glo (prog := prog) (w := w) (X := X) (σ := σ) (Q := fun V σ' => V = .fn 405 ∧ σ' = σ) G O hx (by rfl) ⟨rfl, rfl⟩ (by decide) s T) (fun v s₁ ⟨V, σ₁, T₁, S₁, D₁, eV, eσ⟩ => ?_) fun _ _ x => x) hc
  subst eV; subst eσ
  simp only [Den] at D₁
  subst D₁
  obtain ⟨g1, g2, g3, ps, eP, tP, nP⟩ := T₁.led P _ hP
  obtain ⟨mg, bm, ob, hmg, b1, b2, b3, b4, b5, b6, b7⟩ := GB
  have hgP : mainGlobals ≠ P := fun q => by
    obtain ⟨o, es, ep, e, _⟩ := hmg
    rw [q, g2] at e; cases e
  have hbP : bm ≠ P := fun q => by rw [q, g2] at b4; cases b4
  have FnQ : FnK (kap.heap_1 w.params) 405 := ⟨_, _, _, _, by rfl⟩
  refine callWith_F (FnQ.at G T₁) (wpAny_items_cons (kla_eval hdef (kla_makeFunction hclos O.hg (hmg.keeps T₁.base) hcode (hC.keeps T₁.base) eP tP (nP lp hpos) hgP ⟨bm, ob, b1, b2, b3, hbP, T₁.base _ _ b4, b5, b6, b7⟩ fun c' ctv h' tk hxt hge hlt hrec htb => wpAny_items_nil ?_)) h1) h1 rfl
  obtain ⟨c2, oc, vs, tt, e2, hoc, hdc, hvc⟩ := hrec
  cases e2
  have kp : ∀ b o, h'.get? b = some o → (h'.push (kla_obj "<lambda>" (F.env.qual ++ "<lambda>") params body scope clos ((mg "__name__").getD .none) c' ctv)).get? b = some o := fun b o e => Heap.get?_push_of_some _ e
  have hob : DenOb (mu F (upd σ₁ P (.tb (((lp.line : Int), (lp.col : Int)) :: l)))) F.R (h'.push (kla_obj "<lambda>" (F.env.qual ++ "<lambda>") params body scope clos ((mg "__name__").getD .none) c' ctv)) (.tb (((lp.line : Int), (lp.col : Int)) :: l)) P := by
    refine ⟨_, kp _ _ htb, ?_, fun pos hn => ?_⟩
    · have := TriplesOk_snoc lp.line lp.col (.ref c') ps.toList tP
      simpa using this
    · simp only [List.mem_cons, not_or] at hn
      have hh := nP pos hn.2
      have key : ∀ l : List Value, TriplesOk l → codeAmong pos l = none → codeAmong pos (l ++ [rawInt lp.line, rawInt lp.col, .ref c']) = none := by
        intro l
        fun_induction TriplesOk l with
        | case1 =>
          intro _ _
          simp only [List.nil_append, codeAmong, rawInt]
          rw [if_neg]
          intro q
          simp only [Bool.and_eq_true, beq_iff_eq] at q
          exact hn.1 (by rw [← q.1, ← q.2])
        | case2 a t b u x rest ih =>
          intro h1 h2
          simp only [List.cons_append, codeAmong] at h2 ⊢
          split at h2
          · cases h2
          · rename_i hc; rw [if_neg hc]; exact ih h1 h2
        | case3 l h1 h2 => intro h3; exact h3.elim
      have := key ps.toList tP hh
      simpa using this
  obtain ⟨T2, S2⟩ := T₁.setTab (t := tk) hP (h' := h'.push (kla_obj "<lambda>" (F.env.qual ++ "<lambda>") params body scope clos ((mg "__name__").getD .none) c' ctv)) (fun b o nb e => kp b o (hxt b o nb e)) hob
  refine ⟨FnQ.at G T2, ?_⟩
  generalize hlm : h'.objs.size = lam at *
  have hlamo : (h'.push (kla_obj "<lambda>" (F.env.qual ++ "<lambda>") params body scope clos ((mg "__name__").getD .none) c' ctv)).get? lam = some (kla_obj "<lambda>" (F.env.qual ++ "<lambda>") params body scope clos ((mg "__name__").getD .none) c' ctv) := hlm ▸ Heap.get?_push_size _ rfl
  have hoc' := kp _ _ hoc
  generalize hH : h'.push (kla_obj "<lambda>" (F.env.qual ++ "<lambda>") params body scope clos ((mg "__name__").getD .none) c' ctv) = H at *
  refine wpAny_mono (opn_at (Q := Q) (X := X) (X' := fun _ => False) (σv := pur) (args := [.raw (.ref lam)]) (args' := [.raw (.ref lam)]) O T2 (by simp only [DenL, Den]; exact ⟨_, _, rfl, rfl, rfl⟩) (fun R2 hR hA hG hD =>
    heard_code (ρ := ρ2) (Q := Qb) G hA hG hlamo ⟨c', oc, vs, tt, rfl, hoc', hdc, hvc⟩ (hb _ _ _) hco hgen hk hcellk (fun x V e => ?_) cinj hX (fun A outer h0 R s0 L => hbody lam c' A outer h0 R s0 L)) (fun _ _ e => by cases e) (fun _ _ e => by cases e) (ArgsOk.c Arg.same ArgsOk.n) (fun _ q => q.elim) (fun V σ' q => ?_)) (fun v s3 ⟨V, σ3, T3, S3, D3, h3⟩ => ⟨V, σ3, T3, (S₁.trans S2).trans S3, D3, h3⟩) fun _ _ q => q
  · obtain ⟨q1, q2, q3, q4⟩ := hfree x V e
    obtain ⟨m, hn, hv⟩ := T2.loc
    obtain ⟨v, hv, hD'⟩ := hv x V q1
    rcases hv with ⟨z, _⟩ | ⟨z, cc, ec, hcell⟩
    · rw [q3] at z; cases z
    · exact ⟨q2, cc, v, q4.trans ec, hcell, hD'.conv (fun b q => absurd rfl q) hR⟩
  · exact h V q
end
end Mine
end

-- part cV
section
open PySem PySem.W PyProof.Rows PySem.Calls
namespace Mine
section
variable {prog : Program} {w : World} {B : Heap} {K : Frag} {F : FC} {ρ : Rho} {σ σv : Led} {s : Shared} {X X' : Addr → Prop} {P : Bool → Led → Prop} {d : Nat}
theorem tup_reads {D R : Addr → Prop} {h : Heap} {x : Bool} {xs : List Int} {v : Value} (q : Den D R h (.tup [.bool x, .lst xs]) v) : ∃ a fp, v = .ref a ∧ Reads h v (.tuple [.bool x, .list (xs.map PyData.int)]) fp := by
  simp only [Den, DenL] at q
  obtain ⟨a, items, rfl, ht, _, _, u, us, rfl, rfl, u2, us2, rfl, ⟨l, its, rfl, hl, hi, _⟩, rfl⟩ := q
  obtain ⟨o, ho, hc, n, hd⟩ := ht
  exact ⟨a, _, rfl, reads_tuple_at ho hc hd (.cons (.bool _) (.cons (reads_of_ints hl hi) .nil))⟩
theorem tup_shaped (x : Bool) (xs : List Int) : SeqAt.shaped (.tuple [.bool x, .list (xs.map PyData.int)]) = true := by
  have h1 := W.depthAll_ints xs
  have h2 : PyData.depth (.tuple [.bool x, .list (xs.map PyData.int)]) ≤ 64 := by simp only [PyData.depth, PyData.depthAll]; lia
  show (PyData.canLay0 (.tuple [.bool x, .list (xs.map PyData.int)]) && decide (PyData.depth (.tuple [.bool x, .list (xs.map PyData.int)]) ≤ 64)) = true
  rw [Bool.and_eq_true]
  exact ⟨by simp only [PyData.canLay0, PyData.canLayAll0, Bool.and_true, Bool.true_and]; exact canLayAll0_ints xs, decide_eq_true h2⟩
theorem cm_ne_tup (O : FOk B d F) {x : Bool} {xs : List Int} (h : P false σ) : CmT prog w B F .NotEq (.tup [.bool x, .lst xs]) (.tup [.bool x, .lst xs]) ρ σ X P := fun u v s T p q => by
  obtain ⟨a, fp, rfl, r1⟩ := tup_reads p
  obtain ⟨b, fq, rfl, r2⟩ := tup_reads q
  have hu := O.hu
  refine ne_dataH_same r1 r2 (tup_shaped x xs) (tup_shaped x xs) (by lia) (by simp [SeqAt.noMix, SeqAt.noMixAll, noMix_ints]) ?_
  refine ⟨_, σ, rfl, T, Step.refl .., ?_⟩
  have : PySem.Spec.same (.tuple [.bool x, .list (xs.map PyData.int)]) (.tuple [.bool x, .list (xs.map PyData.int)]) = true := by
    simp [PySem.Spec.same, PySem.Spec.sameAll, same_ints]
  rw [this]; exact h
theorem own_reads {s : Shared} {a : Addr} {m : Str} {v : Value} (T : St B F ρ σ s) (ha : σ a = some (.lv [.str m, .str m, .str m, .str m, .str m])) (q : Den (mu F σ) F.R s.heap (.own a) v) : ∃ fp, Reads s.heap v (.list [.str m, .str m, .str m, .str m, .str m]) fp := by
  simp only [Den] at q
  subst q
  obtain ⟨_, _, _, items, n, hg, hI⟩ := T.led a _ ha
  simp only [DenL, Den] at hI
  obtain ⟨_, _, rfl, ⟨t1, rfl⟩, _, _, rfl, ⟨t2, rfl⟩, _, _, rfl, ⟨t3, rfl⟩, _, _, rfl, ⟨t4, rfl⟩, _, _, rfl, ⟨t5, rfl⟩, rfl⟩ := hI
  exact ⟨_, reads_list_at hg rfl rfl (.cons (.str _ _) (.cons (.str _ _) (.cons (.str _ _) (.cons (.str _ _) (.cons (.str _ _) .nil)))))⟩
theorem cm_eq_strs (O : FOk B d F) {a b : Addr} {m : Str} (ha : σ a = some (.lv [.str m, .str m, .str m, .str m, .str m])) (hb : σ b = some (.lv [.str m, .str m, .str m, .str m, .str m]))
    (hs : SeqAt.shaped (.list [.str m, .str m, .str m, .str m, .str m]) = true) (h : P true σ) : CmT prog w B F .Eq (.own a) (.own b) ρ σ X P := fun u v s T p q => by
  obtain ⟨fp, r1⟩ := own_reads T ha p
  obtain ⟨fq, r2⟩ := own_reads T hb q
  have hu := O.hu
  simp only [Den] at p q
  subst p; subst q
  refine eq_dataH_same r1 r2 hs hs (by lia) (by simp [SeqAt.noMix, SeqAt.noMixAll]) ?_
  refine ⟨_, σ, rfl, T, Step.refl .., ?_⟩
  have : PySem.Spec.same (.list [.str m, .str m, .str m, .str m, .str m]) (.list [.str m, .str m, .str m, .str m, .str m]) = true := by
    simp [PySem.Spec.same, PySem.Spec.sameAll]
  rw [this]; exact h
theorem range_shaped : SeqAt.shaped (.list [.str "range", .str "range", .str "range", .str "range", .str "range"]) = true := by decide +kernel
end
end Mine
end

-- part cW
section
open PySem PySem.W PyProof.Rows PySem.Calls
namespace Mine
section
variable {prog : Program} {w : World} {B : Heap} {K : Frag} {F : FC} {ρ : Rho} {σ σv : Led} {s : Shared} {X X' : Addr → Prop} {Q : V → Led → Prop} {d : Nat}
  {E : Value → Shared → Prop} {A : Around} {M : Model}

theorem bl_sum (O : FOk B d F) {xs : List Int} (h : Q (.int xs.sum) σ) : OpN prog w B F (fun us => call (.builtin "sum") us) [.lst xs] ρ σ X Q := fun us s T D => by
  simp only [DenL, Den] at D
  obtain ⟨_, _, rfl, ⟨l, items, rfl, hl, hi, _⟩, rfl⟩ := D
  have e0 : numsOf items = xs := hi.numsOf
  obtain ⟨ps, eps⟩ := hi.allInts.items
  have hl' : s.heap.IsList l (intItems ps) := by rw [← eps]; exact hl
  refine sum_intListG O.hh hl' fun h' tk t' hk => ?_
  have e1 : preSum (numAt ps) ps.size = xs.sum := by
    have z := congrArg Array.toList eps
    rw [← e0]
    have z' : items = (intItems ps).toList := z
    rw [z', nums_intItems, preSum_eq, List.take_of_length_le (by simp)]
  rw [e1]
  exact done T hk .i h

/-- a row of limbs told as a list of ints -/
noncomputable def lbs (v : Int) (xs : List Int) : List Int := (List.range xs.length).map fun i => xs.getD i 0 * 2 ^ (v * (i : Int)).toNat

theorem ints_at {vs : List Value} {ns : List Int} (h : IntsAre vs ns) {i : Nat} (hi : i < ns.length) : ∃ t, vs[i]? = some (.int (ns.getD i 0) t) :=
  h.get i (ns.getD i 0) (by rw [List.getD_eq_getElem?_getD, List.getElem?_eq_getElem hi]; rfl)

theorem list_snoc (ys : List Value) (v : Value) (n : Nat) : ({ cls := .type "list", data := .seq ((List.toArray ys).push v) (n + 1) } : Obj) = listOf (List.toArray (ys ++ [v])) (n + 1) := by simp
/-- the comprehension's loop, before a turn -/
inductive CompI (s₂ : Shared) (en it l D C : Addr) (items : List Value) (xs : List Int) (v : Int) : Nat → Shared → Prop
  | mk {h' : Heap} {tk' : Tok} {i : Nat} {ys : List Value} {n : Nat} {old : Value} {m' : Str → Option Value} (hk : ∀ b o, s₂.heap.get? b = some o → h'.get? b = some o)
    (iE : IsEnum h' en it (i : Int) old) (iI : h'.IsListIter it l i) (iL : h'.IsList l (List.toArray items)) (iD : h'.get? D = some (listOf (List.toArray ys) n))
    (iY : IntsAre ys ((List.range i).map fun i => xs.getD i 0 * 2 ^ (v * (i : Int)).toNat)) (iN : h'.Ns C m') (hi : i ≤ xs.length) : CompI s₂ en it l D C items xs v (xs.length + 1 - i) { s₂ with heap := h', toks := tk' }
theorem Ev.comp (O : FOk B d F) {p1 p2 tp pl pw pa pm pp q2 po : Pos} {fe e : Expr} {cp : Pos} {k2 tk : Nat} {scope : Scope} {cl : List (Str × Addr)} {v : Int} {pos : Pos}
    (h : Ev prog w B F fe ρ σ X fun vf σ₁ => vf = .raw (.type "enumerate") ∧ EvL prog w B F [e] ρ σ₁ X fun vs σ₂ => ∃ xs, vs = [.lst xs] ∧ xs.length < 2 ^ 16 ∧ (∀ x ∈ xs, 0 ≤ x ∧ x < 2 ^ 20) ∧ Q (.lst (lbs v xs)) σ₂)
    (hv : 0 ≤ v ∧ v ≤ 9) (hw : ρ "w" = some (.int v)) (hkw : F.env.kindOf "w" = some .cell) (hcw : cl.lookup ("w" : Str) = F.env.cells.lookup ("w" : Str))
    (hclos : closureFor scope F.env = pure cl) (hcell : ∀ y ∈ scope.names, y.2 ≠ .cell) (hkind : scope.kind = .function)
    (hnames : ∀ y ∈ scope.names, y.2 = .local → scope.names.lookup y.1 = some .local) (hx : scope.names.lookup ("at" : Str) = some .local) (hx2 : scope.names.lookup ("limb" : Str) = some .local)
    (hxw : ∀ C, (compEnvC scope cl C F.env).kindOf "w" = some .cell)
    (he : starEach [e] F.env = (false, eval e F.env) :: starEach [] F.env := by rfl)
    (hc : eval (.Call fe [e] [] cp) F.env = (do callWith cp (← eval fe F.env) [] (backTo cp (starEach [e] F.env)) (backToKw cp (keywordEach [] F.env))) := by rfl)
    (hs : ∀ x, foldedSetIterable (.Call fe [e] [] cp) F.env x = pure x := by intro _; rfl) :
    Ev prog w B F (.ListComp (.BinOp (.Name "limb" pl) .Mult (.BinOp (.Constant (.int 2) k2 q2) .Pow (.BinOp (.Name "w" pw) .Mult (.Name "at" pa) pm) pp) po) [⟨.Tuple [.Name "at" p1, .Name "limb" p2] tk tp, .Call fe [e] [] cp, [], 0⟩] scope pos) ρ σ X Q := fun s T => by
  rw [eval_ListComp]
  refine wpAny_comprehension_free (use := none) rfl hs hclos hkind hnames (evalT h T (fun vs us σ₁ s₂ hK T2 S2 D2 => ?_) he rfl hc)
  obtain ⟨xs, rfl, hlx, hrx, hQ⟩ := hK
  simp only [DenL] at D2
  obtain ⟨u, _, rfl, D2, rfl⟩ := D2
  simp only [Den] at D2
  obtain ⟨l, items, rfl, hl, hi, nD, nR⟩ := D2
  have hlen := hi.length
  -- the cell of w
  obtain ⟨mL, hnL, hvL⟩ := T2.loc
  obtain ⟨vw, hvw, hDw⟩ := hvL "w" (.int v) hw
  obtain ⟨cw, ecw, hcellw⟩ : ∃ c, cl.lookup ("w" : Str) = some c ∧ s₂.heap.IsCell c (some vw) := by
    rcases hvw with ⟨z, _⟩ | ⟨_, c, ec, hc⟩
    · rw [hkw] at z; cases z
    · exact ⟨c, hcw.trans ec, hc⟩
  obtain ⟨tw, rfl⟩ := den_int hDw
  refine call_enumerate_list hl fun h1 hE hIt hz hk1 => ?_
  refine wpAny_pyIter_enum (s := { s₂ with heap := h1 }) hE ?_
  generalize hit : s₂.heap.objs.size = it at *
  generalize hen : it + 1 = en at *
  have f0 : s₂.heap.get? it = none := hit ▸ get_none_size0 s₂.heap
  have f0' : s₂.heap.get? en = none := by rw [← hen, ← hit]; exact get_none_size s₂.heap 1
  have hne : en ≠ it := fun q => by rw [← hen] at q; exact absurd q (Nat.succ_ne_self it)
  have hl1 : h1.IsList l (List.toArray items) := by obtain ⟨o, e, r⟩ := hl; exact ⟨o, hk1 _ _ e, r⟩
  refine wpAny_newObj_type (wpAny_newFunctionEnv hcell (by intro y hy; simp at hy) (fun h2 hns2 hsb2 => ?_) hkind)
  dsimp only at hns2 hsb2 ⊢
  generalize hH2 : h1.push { cls := .type "list", dict := none, data := .seq ([] : List Value).toArray } = H2 at hns2 hsb2 ⊢
  have hCs : H2.objs.size = h1.objs.size + 1 := by rw [← hH2, Heap.size_push]
  have hDC : h1.objs.size ≠ H2.objs.size := by rw [hCs]; lia
  have old1 : ∀ b o, h1.get? b = some o → h2.get? b = some o := fun b o e => hsb2.extBut b o (by rw [hCs]; exact Nat.ne_of_lt (Nat.lt_succ_of_lt (Heap.lt_size e))) (Heap.get?_push_of_some _ (hH2 ▸ Heap.get?_push_of_some _ e))
  have hacc : h2.get? h1.objs.size = some (listOf (List.toArray []) 0) := hsb2.extBut _ _ hDC (Heap.get?_push_of_some _ (hH2 ▸ Heap.get?_push_size _ rfl))
  have fD : h1.get? h1.objs.size = none := get_none_size0 h1
  have fC : h1.get? H2.objs.size = none := by rw [hCs]; exact get_none_size h1 1
  generalize hD : h1.objs.size = D at *
  generalize hC : H2.objs.size = C at *
  clear hH2 hsb2
  -- what is fresh
  have nold : ∀ b o, s₂.heap.get? b = some o → b ≠ en ∧ b ≠ it ∧ b ≠ D ∧ b ≠ C := fun b o e =>
    ⟨fun q => (by rw [q, f0'] at e; cases e), fun q => (by rw [q, f0] at e; cases e), fun q => (by have := hk1 _ _ e; rw [q, fD] at this; cases this), fun q => (by have := hk1 _ _ e; rw [q, fC] at this; cases this)⟩
  have eD : en ≠ D := fun q => by rw [q] at hE; have := hE; unfold IsEnum at this; rw [fD] at this; cases this
  have eC : en ≠ C := fun q => by rw [q] at hE; have := hE; unfold IsEnum at this; rw [fC] at this; cases this
  have iD : it ≠ D := fun q => by obtain ⟨o, e, _⟩ := hIt; rw [q, fD] at e; cases e
  have iC : it ≠ C := fun q => by obtain ⟨o, e, _⟩ := hIt; rw [q, fC] at e; cases e
  have ln : l ≠ en ∧ l ≠ it ∧ l ≠ D ∧ l ≠ C := by obtain ⟨o, e, _⟩ := hl; exact nold l o e
  have k02 : ∀ b o, s₂.heap.get? b = some o → h2.get? b = some o := fun b o e => old1 b o (hk1 b o e)
  have loop : ∀ tk0, codeAny (model prog w) F.A (.compLoop (.ListComp (.BinOp (.Name "limb" pl) .Mult (.BinOp (.Constant (.int 2) k2 q2) .Pow (.BinOp (.Name "w" pw) .Mult (.Name "at" pa) pm) pp) po) [⟨.Tuple [.Name "at" p1, .Name "limb" p2] tk tp, .Call fe [e] [] cp, [], 0⟩] scope pos) 0 (.ref en) (.ref D) (compEnvC scope cl C F.env))
      (compPost (model prog w) F.A (Xs B (F.env :: F.outer) F.h0 F.s0 X) none (Got B F ρ σ s.heap Q) (.ref D) C) { s₂ with heap := h2, toks := tk0 } := fun tk0 => by
    refine LCp.codeAny_compLoop_pair (CompI s₂ en it l D C items xs v) ?_ (xs.length + 1)
      (.mk (i := 0) (ys := []) (n := 0) k02 (old1 _ _ hE) (by obtain ⟨o, e, r⟩ := hIt; exact ⟨o, old1 _ _ e, r⟩) (by obtain ⟨o, e, r⟩ := hl1; exact ⟨o, old1 _ _ e, r⟩) hacc .nil hns2 (Nat.zero_le _))
    rintro k s' ⟨hk, iE, iI, iL, iD', iY, iN, hi'⟩
    rename_i h' tk' i ys n old m'
    by_cases hlt : i < xs.length
    · obtain ⟨t, ht⟩ := ints_at hi hlt
      have hv' : (List.toArray items)[i]? = some (.int (xs.getD i 0) t) := by rw [List.getElem?_toArray]; exact ht
      refine wpAny_pyNext_enum_item iE iI iL hv' hne fun ha heo hia hta hza hka => ?_
      refine wpAny_letOwnedTupleGo_enum heo fun hb heb hsb => ?_
      replace hsb : Heap.SameBut en ha hb := hsb
      have htb : IsTup hb h'.objs.size #[.int i tk', .int (xs.getD i 0) t] := ⟨_, (hsb.2 _ (Nat.ne_of_gt (Heap.lt_size iE))).trans hta, rfl, _, rfl⟩
      refine assign_Tuple_tuple O.hh htb rfl rfl fun h5 he5 => ?_
      replace he5 : Heap.ExtBut hb.objs.size hb h5 := he5
      have k5 : ∀ b o, b ≠ en → b ≠ it → h'.get? b = some o → h5.get? b = some o := fun b o n1 n2 e => by
        have e2 := (hsb.2 b n1).trans (hka b o n1 n2 e)
        exact he5 b o (Nat.ne_of_lt (Heap.lt_size e2)) e2
      refine assignInOrder_cons (wpAny_assign_Name (wpAny_storeName_local (lookup_relabel_local hx) (iN.at' fun o e => k5 C o (Ne.symm eC) (Ne.symm iC) e) (fun h6 hn6 hs6 => ?_) (by simp [compEnvC, relabel, hkind])))
      refine assignInOrder_cons (wpAny_assign_Name (wpAny_storeName_local (lookup_relabel_local hx2) hn6 (fun h3 hn3 hs3 => ?_) (by simp [compEnvC, relabel, hkind])))
      refine assignInOrder_nil ?_
      have k3 : ∀ b o, b ≠ C → h5.get? b = some o → h3.get? b = some o := fun b o n1 e => (hs3.2 b n1).trans ((hs6.2 b n1).trans e)
      have k53 : ∀ b o, b ≠ en → b ≠ it → b ≠ C → h'.get? b = some o → h3.get? b = some o := fun b o n1 n2 n3 e => k3 b o n3 (k5 b o n1 n2 e)
      have kb3 : ∀ b o, b ≠ C → hb.get? b = some o → h3.get? b = some o := fun b o n1 e => k3 b o n1 (he5 b o (Nat.ne_of_lt (Heap.lt_size e)) e)
      have kold : ∀ b o, s₂.heap.get? b = some o → h3.get? b = some o := fun b o e => by
        obtain ⟨n1, n2, n3, n4⟩ := nold b o e
        exact k53 b o n1 n2 n4 (hk b o e)
      have iE3 : IsEnum h3 en it ((i : Int) + 1) (.int (xs.getD i 0) t) := kb3 _ _ eC heb
      have iI3 : h3.IsListIter it l (i + 1) := by obtain ⟨o, e, r⟩ := hia; exact ⟨o, kb3 _ _ iC ((hsb.2 _ (Ne.symm hne)).trans e), r⟩
      have iL3 : h3.IsList l (List.toArray items) := by obtain ⟨o, e, r⟩ := iL; exact ⟨o, k53 _ _ ln.1 ln.2.1 ln.2.2.2 e, r⟩
      have iD3 := k53 _ _ (Ne.symm eD) (Ne.symm iD) hDC iD'
      have ic3 := hcellw.keeps kold
      have hgx := hrx (xs.getD i 0) (by rw [List.getD_eq_getElem?_getD, List.getElem?_eq_getElem hlt]; exact List.getElem_mem hlt)
      generalize hx0 : xs.getD i 0 = x at *
      have hvi : 0 ≤ v * (i : Int) ∧ v * (i : Int) ≤ 9 * 65536 := ⟨Int.mul_nonneg hv.1 (by lia), Int.mul_le_mul hv.2 (by lia) (by lia) (by decide)⟩
      have hkc : (compEnvC scope cl C F.env).scope.kind = .function := hkind
      have hnx : ∀ (y : Str), h3.Ns C (fun z => if z = "limb" then some (.int x t) else if z = "at" then some (.int i tk') else m' z) := fun _ => hn3
      refine wpAny_BinOp (wpAny_Name (wpAny_loadName_local hkc (lookup_relabel_local hx2) hn3 (by simp; rfl) ?_) (by decide))
      refine wpAny_BinOp (wpAny_Constant_int (wpAny_BinOp (wpAny_Name (wpAny_loadName_cell hkc (hxw C) ecw ic3 (wpAny_Name (wpAny_loadName_local hkc (lookup_relabel_local hx) hn3 (by simp; rfl) ?_) (by decide))) (by decide))))
      refine PyProof.Rows.mul_int ?_ (.of_left (intBits_le (show v.natAbs < 2 ^ 64 by lia)))
      refine pow_int_small hvi.1 (by lia) (by decide) ?_
      refine PyProof.Rows.mul_int ?_ (.of_left (intBits_le (show x.natAbs < 2 ^ 64 by lia)))
      have hyl := iY.length
      refine append_at (hsz := by rw [List.size_toArray, sizeLine, hyl]; simp; lia) iD3 fun h7 hs7 hD7 => ?_
      refine ⟨xs.length + 1 - (i + 1), by lia, .mk (h' := h7) (i := i + 1) (ys := ys ++ [.int (x * 2 ^ (v * (i : Int)).toNat) _]) (n := n + 1) (old := .int x t) (fun b o e => (hs7.2 b (nold b o e).2.2.1).trans (kold b o e)) ?_ ?_ ?_ (hD7.trans (congrArg some (list_snoc _ _ _))) ?_ (hn3.at' fun o e => (hs7.2 C (Ne.symm hDC)).trans e) (by lia)⟩
      · rw [show ((i + 1 : Nat) : Int) = (i : Int) + 1 from rfl]; exact (hs7.2 en eD).trans iE3
      · obtain ⟨o, e, r⟩ := iI3; exact ⟨o, (hs7.2 it iD).trans e, r⟩
      · obtain ⟨o, e, r⟩ := iL3; exact ⟨o, (hs7.2 l ln.2.2.1).trans e, r⟩
      · rw [List.range_succ, List.map_append, List.map_singleton]
        have e0 : xs.getD i 0 = x := hx0
        rw [e0]
        exact ints_push iY
    · have ei : i = xs.length := by lia
      subst ei
      have hv' : (List.toArray items)[xs.length]? = none := by rw [List.getElem?_toArray]; exact List.getElem?_eq_none (by lia)
      refine wpAny_pyNext_enum_end O.hh iE iI iL hv' fun ha hka => ?_
      replace hka : Heap.ExtBut it h' ha := hka
      refine ⟨m', iN.at' fun o e => hka C o (Ne.symm iC) e, fun h'' hs'' => ?_⟩
      replace hs'' : Heap.SameBut C ha h'' := hs''
      have kf : ∀ b o, s₂.heap.get? b = some o → h''.get? b = some o := fun b o e => by
        obtain ⟨n1, n2, n3, n4⟩ := nold b o e
        exact (hs''.2 b n4).trans (hka b o n2 (hk b o e))
      have eDf : h''.get? D = some (listOf (List.toArray ys) n) := (hs''.2 D hDC).trans (hka D _ (Ne.symm iD) iD')
      have fDs : s₂.heap.get? D = none := by
        cases q : s₂.heap.get? D with
        | none => rfl
        | some o => have := hk1 _ _ q; rw [fD] at this; cases this
      obtain ⟨z1, z2, _⟩ := T2.fresh fDs
      obtain ⟨V, σ', a1, a2, a3, a4⟩ := done (h' := h'') (t := tk') (V := .lst (lbs v xs)) (v := .ref D) T2 kf (by simp only [Den]; exact ⟨D, ys, rfl, ⟨_, eDf, rfl, n, rfl⟩, iY, z1, z2⟩) hQ
      exact ⟨V, σ', a1, S2.trans a2, a3, a4⟩
  exact codeAny_compStart_list (loop _) (wpAny_pyIter_enum (old1 _ _ hE) (loop _))
end
end Mine
end

section
open PySem PySem.W PyProof.Rows PySem.Calls
namespace Mine
set_option compiler.extract_closed false
local macro_rules | `(tactic| k_call_by "r" $t) => `(tactic| with_reducible refine $t ?_)
local macro_rules | `(tactic| k_call_by "q" $t) => `(tactic| with_reducible refine $t)
local macro_rules | `(tactic| k_call_by "s" $t $u) => `(tactic| ((with_reducible show $t); refine $u))
local macro_rules | `(tactic| k_call_by "x" $t $u) => `(tactic| ((with_reducible show Ex1 _ _ _ _ $t ..); refine $u))
local macro_rules | `(tactic| k_call_by "e" $t $u) => `(tactic| ((with_reducible show Ev _ _ _ _ $t ..); refine $u))
local macro_rules | `(tactic| walk_at "m_om") => `(tactic| lia)
local macro_rules | `(tactic| walk_at "m_look") => `(tactic| first | with_reducible assumption | exact setv_same rfl | (apply setv_ne (by decide); walk_at "m_look") | (simp only [rho0, sets]; walk_at "m_look"))
local macro_rules | `(tactic| walk_at "m_led") => `(tactic| first | with_reducible assumption | with_reducible exact upd_same | ((with_reducible apply upd_ne (by first | with_reducible assumption | (apply Ne.symm; with_reducible assumption) | exact ne_some (by with_reducible assumption) (by walk_at "m_led") | exact (ne_some (by with_reducible assumption) (by walk_at "m_led")).symm)); walk_at "m_led"))
local macro_rules | `(tactic| walk_at "m_rd") => `(tactic| first | exact rfl | (unfold Rd; walk_at "m_led"))
local macro_rules | `(tactic| walk_at "m_num") => `(tactic| first | with_reducible assumption | walk_at "m_om" | (simp only [List.length_append, List.length_cons, List.length_nil, List.length_replicate, List.length_set]; walk_at "m_om"))
local macro_rules | `(tactic| walk_at "m_ex1") => `(tactic| first
  | k_call_by "r" Ex1.ret
  | k_call_by "r" Ex1.ife
  | k_call_by "x" (.Assign [.Name _ _] ..) (Ex1.asg (by assumption) ?_) | k_call_by "x" (.Assign [.Name _ _] ..) (Ex1.asg (hk := Or.inr ⟨by rfl, _, by rfl⟩) (by assumption) ?_)
  | k_call_by "x" (.Assign [.Tuple [.Name _ _, .Name _ _] _ _] (.Tuple [_, _] ..) ..) (Ex1.asg2 (by assumption) ?_) | k_call_by "x" (.Assign [.Tuple [.Name _ _, .Name _ _] _ _] (.Tuple [_, _] ..) ..) (Ex1.asgT2 (hk1 := Or.inr ⟨by rfl, _, by rfl⟩) (hk2 := Or.inr ⟨by rfl, _, by rfl⟩) (by assumption) ?_)
  | k_call_by "x" (.Assign [.Tuple [.Name _ _, .Name _ _, .Name _ _] _ _] (.Tuple [_, _, _] ..) ..) (Ex1.asg3 (by assumption) ?_) | k_call_by "x" (.Assign [.Tuple [.Name _ _, .Name _ _, .Name _ _] _ _] (.Tuple [_, _, _] ..) ..) (Ex1.asgT3 (hk1 := Or.inr ⟨by rfl, _, by rfl⟩) (hk2 := Or.inr ⟨by rfl, _, by rfl⟩) (hk3 := Or.inr ⟨by rfl, _, by rfl⟩) (by assumption) ?_)
  | k_call_by "x" (.For (.Name ..) (.Call (.Name ..) [_] ..) ..) (Ex1.forR1 (by assumption) (Ev.blt (by assumption) (by assumption) (by rfl) (by rfl) (by rfl) (And.intro rfl ?_))) | k_call_by "x" (.For (.Name ..) (.Call (.Name ..) [_] ..) ..) (Ex1.forRev (by assumption) (Ev.blt (by assumption) (by assumption) (by rfl) (by rfl) (by rfl) (And.intro rfl ?_)))
  | k_call_by "x" (.For (.Name ..) (.Call (.Name ..) [_, _] ..) ..) (Ex1.forR2 (by assumption) (Ev.blt (by assumption) (by assumption) (by rfl) (by rfl) (by rfl) (And.intro rfl ?_)))
  | k_call_by "x" (.For (.Name ..) (.Call (.Name ..) [_, _, _] ..) ..) (Ex1.forR3 (by assumption) (Ev.blt (by assumption) (by assumption) (by rfl) (by rfl) (by rfl) (And.intro rfl ?_)))
  | k_call_by "x" (.For (.Tuple ..) (.Call (.Name ..) [_] ..) ..) (Ex1.forE (by assumption) (Ev.blt (by assumption) (by assumption) (by rfl) (by rfl) (by rfl) (And.intro rfl ?_)))
  | k_call_by "x" (.For (.Name ..) (.Name ..) ..) (Ex1.forL (by assumption) ?_)
  | k_call_by "x" (.Raise ..) (Ex1.raise (by assumption) (by assumption) (by rfl) (by rfl) (by first | exact x61 | exact x37 | exact x49) ?_)
  | k_call_by "x" (.Assign [.Tuple [.Name _ _, .Name _ _] _ _] (.Call ..) ..) (Ex1.asgT2 (by assumption) ?_)
  | k_call_by "x" (.Assign [.Tuple [.Name _ _, .Name _ _, .Name _ _] _ _] (.Call ..) ..) (Ex1.asgT3 (by assumption) ?_)
  | k_call_by "x" (.Assign [.Tuple [.Name _ _, .Name _ _, .Name _ _, .Name _ _] _ _] (.Call ..) ..) (Ex1.asgT4 (by assumption) ?_)
  | k_call_by "x" (.AugAssign ..) (Ex1.aug (by assumption) (by walk_at "m_look") ?_)
  | k_call_by "x" (.Expr (.Call (.Attribute ..) ..) ..) (Ex1.append (by assumption) (by walk_at "m_look") ⟨_, by walk_at "m_led", fun _ q => by cases q⟩ ?_)
  | k_call_by "x" (.Expr (.Call (.Name ..) ..) ..) (Ex1.expr ?_)
  | k_call_by "x" (.Assign [.Subscript _ _ _] ..) (Ex1.item (by assumption) (by walk_at "m_look") ?_))
local macro_rules | `(tactic| walk_at "m_ev") => `(tactic| first
  | k_call_by "e" (.Name ..) (Ev.loc (by assumption) (by walk_at "m_look") ?_) | k_call_by "e" (.Name ..) (Ev.glo (by assumption) (by assumption) (by rfl) (by rfl) ?_) | k_call_by "e" (.Name ..) (Ev.blt (by assumption) (by assumption) (by rfl) (by rfl) (by rfl) ?_)
  | k_call_by "r" Ev.int | k_call_by "r" Ev.bool | k_call_by "r" Ev.cnone | k_call_by "r" Ev.str
  | k_call_by "e" (.Call (.Name ..) ..) (Ev.callBN (by assumption) (by assumption) (by rfl) (by rfl) (by rfl) ?_) | k_call_by "e" (.Call (.Name ..) ..) (Ev.callGN (by assumption) (by assumption) (by rfl) (by rfl) ⟨_, _, _, _, by rfl⟩ ?_) | k_call_by "e" (.Call (.Name ..) ..) (Ev.callVN (by assumption) (by assumption) (by walk_at "m_look") ⟨_, _, _, _, by rfl⟩ ?_)
  | k_call_by "e" (.BinOp (.List ..) .Mult ..) (Ev.bin (Ev.lstO ?_))
  | k_call_by "r" Ev.bin | k_call_by "r" Ev.cmp | k_call_by "r" Ev.ife | k_call_by "r" Ev.una
  | k_call_by "e" (.Subscript _ (.Slice none none (some ..) ..) ..) (Ev.rev ?_)
  | k_call_by "e" (.Subscript _ (.Slice _ _ none ..) ..) (Ev.slice ?_)
  | k_call_by "e" (.Call (.Attribute ..) [] [] ..) (Ev.bitlen ?_)
  | k_call_by "r" Ev.sub
  | k_call_by "e" (.List ..) (Ev.lstF (by with_reducible assumption) ?_)
  | k_call_by "q" (Ev.nilO (fun _ _ => ?_))
  | k_call_by "e" (.List ..) (Ev.lst ?_)
  | k_call_by "e" (.Tuple ..) (Ev.tup ?_)
  | k_call_by "e" (.BoolOp .And ..) (Ev.and2 ?_))
local macro_rules | `(tactic| walk_at "m_op") => `(tactic| first
  | k_call_by "r" op_add | k_call_by "r" op_sub | k_call_by "r" ip_add | k_call_by "r" ip_sub
  | k_call_by "r" op_and | k_call_by "r" op_or | k_call_by "r" ip_or
  | k_call_by "s" (Op2 _ _ _ _ (binaryOp .Add) (.lst ..) (.own ..) ..) (op_addO (by walk_at "m_rd") (by walk_at "m_rd") ?_ ?_)
  | k_call_by "s" (Op2 _ _ _ _ (binaryOp .Mult) (.own ..) (.int ..) ..) (op_repO (by walk_at "m_led") ?_ ?_ ?_)
  | k_call_by "q" (op_mul ?_ ?_) | k_call_by "q" (op_div ?_ ?_ ?_) | k_call_by "q" (op_mod ?_ ?_) | k_call_by "q" (ip_mod ?_ ?_)
  | k_call_by "q" (op_shl ?_ ?_ ?_ ?_) | k_call_by "q" (op_shr ?_ ?_) | k_call_by "q" (ip_shr ?_ ?_) | k_call_by "q" (op_pow ?_ ?_ ?_ ?_)
  | k_call_by "s" (Op2 _ _ _ _ (subscriptTail _ _) (.tup ..) ..) (op_idxt (by decide) (by decide) (by rfl) ?_)
  | k_call_by "s" (Op2 _ _ _ _ (subscriptTail _ _) _ (.int (-1)) ..) (op_idxn (by walk_at "m_rd") (by decide) ?_ ?_ ?_)
  | k_call_by "s" (Op2 _ _ _ _ (subscriptTail _ _) _ (.int ..) ..) (op_idx (by walk_at "m_rd") ?_ ?_ ?_ ?_))
local macro_rules | `(tactic| walk_at "m_step") => `(tactic| first
  | ((with_reducible show Ev ..); walk_at "m_ev")
  | ((with_reducible show EvL ..); first | refine EvL.cons ?_ | refine EvL.nil ?_)
  | ((with_reducible show Op2 ..); walk_at "m_op")
  | k_call_by "r" op_neg
  | k_call_by "r" cm_eqb | k_call_by "r" cm_neb | k_call_by "r" cm_eqs | k_call_by "r" cm_nes
  | k_call_by "r" cm_lt | k_call_by "r" cm_le | k_call_by "r" cm_gt | k_call_by "r" cm_eq | k_call_by "r" cm_ne
  | k_call_by "r" ite_tt | k_call_by "r" ite_ff | k_call_by "q" (ite_dec (fun _ => ?_) (fun _ => ?_)) | k_call_by "q" (ite_not (fun _ => ?_) (fun _ => ?_))
  | k_call_by "r" Ex.cons | k_call_by "r" Ex.nil
  | ((with_reducible show Ex1 ..); walk_at "m_ex1")
  | k_call_by "r" Tst.cmp | k_call_by "r" Tst.and2 | k_call_by "r" Tst.not
  | k_call_by "r" EvP.no | k_call_by "r" EvP.so
  | ((with_reducible show OpN _ _ _ _ (fun us => call (.builtin ..) us) ..); first | (refine bl_len (by walk_at "m_rd") ?_ ?_) | refine bl_min (by assumption) ?_ | refine bl_max (by assumption) ?_ | refine bl_abs ?_)
  | ((with_reducible show ∃ _, intsOf _ = some _ ∧ _); refine Exists.intro _ (And.intro (by rfl) ?_))
  | ((with_reducible show ∀ _ : Addr, _ = none → _); intro _ _)
  | ((with_reducible show (_ : V) = _ ∧ _); refine And.intro rfl ?_)
  | ((with_reducible show List.length _ ≤ 10 ∧ _); refine And.intro (by simp) ?_)
  | ((with_reducible show ∃ _ _, [_] = [_] ∧ RdF _ _ ∧ _); refine Exists.intro _ (Exists.intro _ (And.intro rfl (And.intro (by exact rfl) ?_))))
  | ((with_reducible show ∃ _, RdF _ _ ∧ _); refine Exists.intro _ (And.intro (by exact rfl) ?_))
  | ((with_reducible show ∃ _, _ = some (Ob.li _) ∧ _); refine Exists.intro _ (And.intro (by walk_at "m_led") ?_))
  | ((with_reducible show ∃ _ _, V.int _ = V.int _ ∧ _ = some (Ob.li _) ∧ _); refine Exists.intro _ (Exists.intro _ (And.intro rfl (And.intro (by walk_at "m_led") ?_))))
  | ((with_reducible show (_ : Int) ≤ _ ∧ _); refine And.intro ?_ ?_) | ((with_reducible show (_ : Int) < _ ∧ _); refine And.intro ?_ ?_) | ((with_reducible show (_ : Nat) < _ ∧ _); refine And.intro ?_ ?_)
  | k_call_by "q" (Exists.intro _ (And.intro rfl ?_)) | k_call_by "q" (Exists.intro _ (Exists.intro _ (And.intro rfl ?_)))
  | ((with_reducible show ∃ _, Rd _ _ _ ∧ _); refine Exists.intro _ (And.intro (by walk_at "m_rd") (And.intro ?_ ?_)))
  | ((with_reducible show (_ : Nat) < _ ∨ _); walk_at "m_om") | ((with_reducible show (_ : Int) ≠ _); walk_at "m_om") | ((with_reducible show (_ : Int) < _); walk_at "m_num") | ((with_reducible show (_ : Int) ≤ _); walk_at "m_num") | ((with_reducible show (_ : Nat) < _); walk_at "m_num") | ((with_reducible show (_ : Nat) ≤ _); walk_at "m_num"))
local macro_rules | `(tactic| walk_at "m_go") => `(tactic| repeat' (walk_at "m_step"))
local macro_rules | `(tactic| walk_at "m_bind") => `(tactic| first | exact bind1 (fun _ => rfl) | exact bind2 (fun _ _ => rfl) | exact bind3 (fun _ _ _ => rfl) | exact bind4 (fun _ _ _ _ => rfl) | exact bind5 (fun _ _ _ _ _ => rfl))
local macro_rules | `(tactic| walk_at "m_names") => `(tactic| ((repeat (refine List.forall_mem_cons.mpr ⟨by first | rfl | exact Or.inl (by rfl), ?_⟩)); exact List.forall_mem_nil _))
local macro_rules | `(tactic| walk_at "m_args") => `(tactic| ((repeat' (with_reducible refine ArgsOk.c ?_ ?_)) <;> (first | with_reducible exact ArgsOk.n | with_reducible exact Arg.same | with_reducible exact Arg.lst | ((with_reducible show Arg _ _ (.own _) _); exact Arg.own (by walk_at "m_led") (by rfl)))))

-- part mB
section
variable {prog : Program} {w : World} {B : Heap} {d : Nat}
variable {b : Int}
theorem Lim.nil : Lim b [] := fun _ h => nomatch h
/-- a whole number of this walk -/
structure Sm (n : Int) : Prop where
  pos : 0 ≤ n
  hi : n < 2 ^ 4096
theorem Sm.len (hb : 2 ≤ b) {n : Int} (h : Sm n) : (D b n).length ≤ 4096 := D_len2 hb h.hi
theorem val_split {xs : List Int} {k : Nat} (h : k ≤ xs.length) : val b xs = val b (xs.take k) + b ^ k * val b (xs.drop k) := by
  have := val_app (b := b) (xs.take k) (xs.drop k)
  rwa [List.take_append_drop, List.length_take, Nat.min_eq_left h] at this
theorem drop_get {xs : List Int} {k : Nat} (h : k < xs.length) : xs.drop k = xs.getD k 0 :: xs.drop (k + 1) := by
  rw [List.drop_eq_getElem_cons h, List.getD_eq_getElem?_getD, List.getElem?_eq_getElem h]; rfl
theorem val_take_succ {xs : List Int} {k : Nat} (h : k < xs.length) : val b (xs.take (k + 1)) = val b (xs.take k) + b ^ k * xs.getD k 0 := by
  rw [take_snoc h, val_snoc, List.length_take, Nat.min_eq_left (by lia)]
theorem val_drop {xs : List Int} {k : Nat} (h : k < xs.length) : val b (xs.drop k) = xs.getD k 0 + b * val b (xs.drop (k + 1)) := by
  rw [drop_get h, val]
theorem cmp_lt (hb : 2 ≤ b) {xs ys : List Int} (hx : Lim b xs) (hy : Lim b ys) (hl : xs.length = ys.length) {k : Nat} (hk : k < xs.length) (hd : xs.drop (k + 1) = ys.drop (k + 1)) (h : xs.getD k 0 < ys.getD k 0) : val b xs < val b ys := by
  rw [val_split (xs := xs) (Nat.le_of_lt hk), val_split (xs := ys) (k := k) (by lia), val_drop hk, val_drop (xs := ys) (by lia), hd]
  have h1 := val_lt hb (hx.take k)
  have h2 := val_nonneg hb (hy.take k)
  rw [List.length_take, Nat.min_eq_left (by lia)] at h1
  have h3 : b ^ k * (xs.getD k 0 + 1) ≤ b ^ k * ys.getD k 0 := Int.mul_le_mul_of_nonneg_left (by lia) (Int.le_of_lt (pow_pos' hb k))
  grind
theorem D_len_lt (hb : 2 ≤ b) {m n : Int} (h : (D b m).length < (D b n).length) : m < n := by
  by_cases q : m < n
  · exact q
  · have := D_len_mono hb (show n ≤ m by lia); lia
/-- which of the two is the lower -/
noncomputable def cmp (m n : Int) : Int := if m < n then -1 else if n < m then 1 else 0
theorem carry_step {zs : List Int} {i : Nat} (hl : zs.length = i) (s : Int) : val b (zs ++ [s % b]) + b ^ (i + 1) * (s / b) = val b zs + b ^ i * s := by
  have e := Int.emod_add_mul_ediv s b
  rw [val_snoc, hl, Int.pow_succ]
  generalize s % b = r at *
  generalize s / b = q at *
  subst e
  grind
theorem mod_lim (hb : 2 ≤ b) (s : Int) : 0 ≤ s % b ∧ s % b < b := ⟨Int.emod_nonneg _ (by lia), Int.emod_lt_of_pos _ (by lia)⟩
theorem div_two (hb : 2 ≤ b) {s : Int} (h0 : 0 ≤ s) (h1 : s < 2 * b) : 0 ≤ s / b ∧ s / b ≤ 1 := by
  refine ⟨Int.ediv_nonneg h0 (by lia), ?_⟩
  have : s / b < 2 := Int.ediv_lt_of_lt_mul (by lia) h1
  lia
theorem add_end (hb : 2 ≤ b) {zs : List Int} {m n c : Int} (hm : 0 ≤ m) (hn : 0 ≤ n) (hl : zs.length = (D b m).length) (hz : Lim b zs) (hc : 0 ≤ c ∧ c ≤ 1) (he : val b zs + b ^ zs.length * c = m + n) :
    (0 < c → zs ++ [c] = D b (m + n)) ∧ (¬ 0 < c → zs = D b (m + n)) := by
  constructor
  · intro h
    have hv : val b (zs ++ [c]) = m + n := by rw [val_snoc, he]
    rw [← hv]
    refine D_of_lower hb (hz.snoc (by lia) (by lia)) fun k hk => ?_
    rw [List.length_append, List.length_singleton] at hk
    obtain rfl : zs.length = k := by lia
    have := val_nonneg hb hz
    obtain rfl : c = 1 := by lia
    rw [val_snoc]; lia
  · intro h
    obtain rfl : c = 0 := by lia
    have hv : val b zs = m + n := by rw [Int.mul_zero] at he; lia
    rw [← hv]
    refine D_of_lower hb hz fun k hk => ?_
    have := D_lower hb (n := m) k (by lia)
    lia
theorem val_take_get {xs : List Int} {k : Nat} : val b (xs.take (k + 1)) = val b (xs.take k) + b ^ k * xs.getD k 0 := by
  by_cases h : k < xs.length
  · exact val_take_succ h
  · rw [List.take_of_length_le (by lia), List.take_of_length_le (by lia), List.getD_eq_getElem?_getD, List.getElem?_eq_none (by lia)]; simp
theorem set_drop {xs : List Int} {k : Nat} {x : Int} (h : k < xs.length) : (xs.set k x).drop k = x :: xs.drop (k + 1) := by
  rw [drop_get (by simpa using h), List.getD_eq_getElem?_getD, List.getElem?_set_self h, List.drop_set_of_lt (by lia)]; rfl
theorem limb_step {l V r x s : Int} (hl : 0 < l) (hb : 2 ≤ b) (hr : 0 ≤ r ∧ r < l) (hx : 0 ≤ x ∧ x < b) (hs : s = r * b + x) :
    (0 ≤ s / l ∧ s / l < b) ∧ (0 ≤ s % l ∧ s % l < l) ∧ l * (s / l + b * V) + s % l = x + b * (l * V + r) := by
  have h1 : r * b ≤ (l - 1) * b := Int.mul_le_mul_of_nonneg_right (by lia) (by lia)
  have h2 : 0 ≤ r * b := mul_nonneg' hr.1 (by lia)
  refine ⟨⟨Int.ediv_nonneg (by lia) (by lia), Int.ediv_lt_of_lt_mul hl ?_⟩, ⟨Int.emod_nonneg _ (by lia), Int.emod_lt_of_pos _ hl⟩, ?_⟩
  · rw [Int.sub_mul] at h1; rw [Int.mul_comm b l]; lia
  · have e := Int.emod_add_mul_ediv s l
    generalize s % l = a at *
    generalize s / l = c at *
    grind
theorem div_uniq {m l V r : Int} (hl : 0 < l) (hr : 0 ≤ r ∧ r < l) (h : l * V + r = m) : V = m / l ∧ r = m % l := by
  subst h
  constructor
  · rw [Int.mul_comm, Int.add_comm, Int.add_mul_ediv_right _ _ (by lia), Int.ediv_eq_zero_of_lt hr.1 hr.2]; lia
  · rw [Int.add_comm, Int.add_mul_emod_self_left]; exact (Int.emod_eq_of_lt hr.1 hr.2).symm
theorem fin_end (hb : 2 ≤ b) {zs : List Int} {c T : Int} (hz : Lim b zs) (hc : 0 ≤ c ∧ c < b) (he : val b zs + b ^ zs.length * c = T) (hlow : ∀ k, zs.length = k + 1 → b ^ k ≤ T) :
    (0 < c → zs ++ [c] = D b T) ∧ (¬ 0 < c → zs = D b T) := by
  constructor
  · intro h
    have hv : val b (zs ++ [c]) = T := by rw [val_snoc, he]
    rw [← hv]
    refine D_of_lower hb (hz.snoc (by lia) (by lia)) fun k hk => ?_
    rw [List.length_append, List.length_singleton] at hk
    obtain rfl : zs.length = k := by lia
    have := val_nonneg hb hz
    have h2 : b ^ zs.length * 1 ≤ b ^ zs.length * c := Int.mul_le_mul_of_nonneg_left (by lia) (Int.le_of_lt (pow_pos' hb _))
    rw [val_snoc]; lia
  · intro h
    obtain rfl : c = 0 := by lia
    have hv : val b zs = T := by rw [Int.mul_zero] at he; lia
    rw [← hv]
    exact D_of_lower hb hz fun k hk => by rw [hv]; exact hlow k hk
theorem shl_step {f c x s : Int} (hb : 2 ≤ b) (hf : 0 < f) (hc : 0 ≤ c ∧ c < f) (hx : 0 ≤ x ∧ x < b) (hs : s = x * f + c) : 0 ≤ s ∧ 0 ≤ s / b ∧ s / b < f := by
  have h1 : x * f ≤ (b - 1) * f := Int.mul_le_mul_of_nonneg_right (by lia) (by lia)
  have h2 : 0 ≤ x * f := mul_nonneg' hx.1 (by lia)
  refine ⟨by lia, Int.ediv_nonneg (by lia) (by lia), Int.ediv_lt_of_lt_mul (by lia) ?_⟩
  rw [Int.sub_mul] at h1; rw [Int.mul_comm f b]; lia
theorem fmod_parts {n v : Int} (hn : 0 ≤ n) (hv : 1 ≤ v) : (0 ≤ n.fdiv v ∧ n.fdiv v ≤ n) ∧ (0 ≤ n.fmod v ∧ n.fmod v < v) ∧ n.toNat = v.toNat * (n.fdiv v).toNat + (n.fmod v).toNat := by
  rw [Int.fdiv_eq_ediv_of_nonneg _ (by lia), Int.fmod_eq_emod_of_nonneg _ (by lia)]
  have h1 := Int.emod_add_mul_ediv n v
  have h2 := Int.emod_nonneg n (show v ≠ 0 by lia)
  have h3 := Int.emod_lt_of_pos n (show 0 < v by lia)
  have h4 : 0 ≤ n / v := Int.ediv_nonneg hn (by lia)
  have h5 : 1 * (n / v) ≤ v * (n / v) := Int.mul_le_mul_of_nonneg_right hv h4
  refine ⟨⟨h4, by lia⟩, ⟨h2, h3⟩, ?_⟩
  have h6 : ((v.toNat * (n / v).toNat + (n % v).toNat : Nat) : Int) = n := by
    rw [Int.natCast_add, Int.natCast_mul, Int.toNat_of_nonneg (by lia), Int.toNat_of_nonneg h4, Int.toNat_of_nonneg h2]; lia
  lia
theorem pow_parts {n v : Int} (hn : 0 ≤ n) (hv : 1 ≤ v) : (2 : Int) ^ n.toNat = bs v ^ (n.fdiv v).toNat * 2 ^ (n.fmod v).toNat := by
  rw [(fmod_parts hn hv).2.2, Int.pow_add, Int.pow_mul]; rfl
end

-- part mC
section
variable {prog : Program} {w : World} {B : Heap} {d : Nat}
variable {b : Int}
theorem val_top0 (hb : 2 ≤ b) {ys : List Int} {n : Nat} (h : Lim b ys) (hv : val b ys < b ^ n) : val b (ys.drop n) = 0 := by
  by_cases hn : n ≤ ys.length
  · have h1 := val_split (b := b) hn
    have h2 := val_nonneg hb (h.take n)
    have h3 := val_nonneg hb (h.drop n)
    by_cases q : val b (ys.drop n) = 0
    · exact q
    · have : b ^ n * 1 ≤ b ^ n * val b (ys.drop n) := Int.mul_le_mul_of_nonneg_left (by lia) (Int.le_of_lt (pow_pos' hb n))
      lia
  · rw [List.drop_of_length_le (by lia)]; rfl
theorem val_lt_top (hb : 2 ≤ b) {ys : List Int} {n : Nat} (h : Lim b ys) (hn : n ≤ ys.length) (hv : val b (ys.drop n) = 0) : val b ys < b ^ n := by
  have h1 := val_split (b := b) hn
  have h2 := val_lt hb (h.take n)
  rw [List.length_take, Nat.min_eq_left hn] at h2
  rw [h1, hv]; lia
theorem digit_main (hb : 2 ≤ b) {W V V2 T3 Wl Vl M g : Int} (hM : 0 < M) (hW : W = Wl + M * T3) (hV : V = Vl + M * V2) (hWl : 0 ≤ Wl ∧ Wl < M) (hVl : 0 ≤ Vl ∧ Vl < M) (hV2 : b ≤ V2) (hT : 0 ≤ T3) (hWV : W < b * V)
    (hg : 0 ≤ g ∧ g < b) (h1 : g * V2 ≤ T3) (h2 : ∀ p, p < b → p * V2 ≤ T3 → p ≤ g) : 0 < V ∧ (0 ≤ W / V ∧ W / V < b) ∧ (0 ≤ W - W / V * V ∧ W - W / V * V < V) ∧ (g = W / V ∨ g = W / V + 1) := by
  have hMT := mul_nonneg' (show 0 ≤ M by lia) hT
  have hMV : M * 1 ≤ M * V2 := Int.mul_le_mul_of_nonneg_left (by lia) (by lia)
  have hV0 : 0 < V := by lia
  have hW0 : 0 ≤ W := by lia
  have e := Int.emod_add_mul_ediv W V
  have r0 := Int.emod_nonneg W (show V ≠ 0 by lia)
  have r1 := Int.emod_lt_of_pos W hV0
  have q0 : 0 ≤ W / V := Int.ediv_nonneg hW0 (by lia)
  have q1 : W / V < b := Int.ediv_lt_of_lt_mul hV0 hWV
  have er : W - W / V * V = W % V := by rw [Int.mul_comm (W / V) V]; lia
  rw [er]
  generalize W / V = q at *
  generalize W % V = r at *
  refine ⟨hV0, ⟨q0, q1⟩, ⟨r0, r1⟩, ?_⟩
  -- the true digit is allowed
  have a1 : q ≤ g := by
    refine h2 q q1 ?_
    have b1 : M * (q * V2) < M * (T3 + 1) := by
      have : q * V = q * Vl + M * (q * V2) := by rw [hV]; grind
      have b2 := mul_nonneg' q0 hVl.1
      have b3 : V * q = q * V := Int.mul_comm _ _
      rw [Int.mul_add]; lia
    have := Int.lt_of_mul_lt_mul_left b1 (by lia)
    lia
  have a2 : g ≤ q + 1 := by
    by_cases z : g ≤ q + 1
    · exact z
    · exfalso
      -- W < (g - 1) V and g V2 M <= W
      have c1 : (q + 1) * V ≤ (g - 1) * V := Int.mul_le_mul_of_nonneg_right (by lia) (by lia)
      have c2 : M * (g * V2) ≤ M * T3 := Int.mul_le_mul_of_nonneg_left h1 (by lia)
      have c3 : (q + 1) * V = V * q + V := by grind
      have c4 : (g - 1) * V = (g - 1) * Vl + M * (g * V2) - M * V2 := by rw [hV]; grind
      have c5 : (g - 1) * Vl ≤ (b - 2) * M := Int.mul_le_mul (by lia) (by lia) hVl.1 (by lia)
      have c6 : M * b ≤ M * V2 := Int.mul_le_mul_of_nonneg_left hV2 (by lia)
      have c7 : (b - 2) * M = M * b - 2 * M := by grind
      lia
  lia
theorem getD_drop' {xs : List Int} {k j : Nat} : (xs.drop k).getD j 0 = xs.getD (k + j) 0 := by
  rw [List.getD_eq_getElem?_getD, List.getD_eq_getElem?_getD, List.getElem?_drop]
theorem dr_guess (hb : 2 ≤ b) {bl ys : List Int} {c k : Nat} {g : Int} (LB : Lim b bl) (LY : Lim b ys) (hc : bl.length = c + 2) (hf : 1 ≤ bl.getD (c + 1) 0) (hk : k + (c + 2) < ys.length) (hy : val b ys < b ^ (k + 1) * val b bl)
    (hg : 0 ≤ g ∧ g < b) (h1 : g * (bl.getD (c + 1) 0 * b + bl.getD c 0) ≤ (ys.getD (k + c + 2) 0 * b + ys.getD (k + c + 1) 0) * b + ys.getD (k + c) 0)
    (h2 : ∀ p, p < b → p * (bl.getD (c + 1) 0 * b + bl.getD c 0) ≤ (ys.getD (k + c + 2) 0 * b + ys.getD (k + c + 1) 0) * b + ys.getD (k + c) 0 → p ≤ g) :
    ∃ low W, val b ys = low + b ^ k * W ∧ (0 ≤ low ∧ low < b ^ k) ∧ 0 < val b bl ∧ (0 ≤ W / val b bl ∧ W / val b bl < b) ∧ (0 ≤ W - W / val b bl * val b bl ∧ W - W / val b bl * val b bl < val b bl) ∧ (g = W / val b bl ∨ g = W / val b bl + 1) ∧ val b (ys.drop (k + (c + 2) + 1)) = 0 := by
  have hVlt := val_lt hb LB
  have htop : val b (ys.drop (k + (c + 2) + 1)) = 0 := by
    refine val_top0 hb LY ?_
    have : b ^ (k + 1) * val b bl < b ^ (k + 1) * b ^ (c + 2) := Int.mul_lt_mul_of_pos_left (by rw [← hc]; exact hVlt) (pow_pos' hb _)
    rw [show k + (c + 2) + 1 = (k + 1) + (c + 2) by lia, Int.pow_add]
    lia
  have e1 := val_split (b := b) (xs := ys) (k := k) (by lia)
  have e2 := val_split (b := b) (xs := ys.drop k) (k := c) (by rw [List.length_drop]; lia)
  have e3 : val b ((ys.drop k).drop c) = (ys.getD (k + c + 2) 0 * b + ys.getD (k + c + 1) 0) * b + ys.getD (k + c) 0 := by
    rw [List.drop_drop, val_drop (by lia), val_drop (by lia), val_drop (by lia), show k + c + 1 + 1 + 1 = k + (c + 2) + 1 by lia, htop]
    grind
  have f1 := val_split (b := b) (xs := bl) (k := c) (by lia)
  have f2 : val b (bl.drop c) = bl.getD (c + 1) 0 * b + bl.getD c 0 := by
    rw [val_drop (by lia), val_drop (by lia), List.drop_of_length_le (by lia)]
    simp only [val]; grind
  have w1 := val_lt hb ((LY.drop k).take c)
  have w2 := val_nonneg hb ((LY.drop k).take c)
  rw [List.length_take, List.length_drop, Nat.min_eq_left (by lia)] at w1
  have v1 := val_lt hb (LB.take c)
  have v2 := val_nonneg hb (LB.take c)
  rw [List.length_take, Nat.min_eq_left (by lia)] at v1
  have l1 := val_lt hb (LY.take k)
  have l2 := val_nonneg hb (LY.take k)
  rw [List.length_take, Nat.min_eq_left (by lia)] at l1
  have hM := pow_pos' hb c
  have hK := pow_pos' hb k
  rw [e3] at e2
  rw [f2] at f1
  have g0 := LY.getD hb (k + c)
  have g1 := LY.getD hb (k + c + 1)
  have g2 := LY.getD hb (k + c + 2)
  have b0 := LB.getD hb c
  have hT : 0 ≤ (ys.getD (k + c + 2) 0 * b + ys.getD (k + c + 1) 0) * b + ys.getD (k + c) 0 := by
    have z1 := mul_nonneg' g2.1 (show 0 ≤ b by lia)
    have z2 := mul_nonneg' (show 0 ≤ ys.getD (k + c + 2) 0 * b + ys.getD (k + c + 1) 0 by lia) (show 0 ≤ b by lia)
    lia
  have hV2 : b ≤ bl.getD (c + 1) 0 * b + bl.getD c 0 := by
    have : 1 * b ≤ bl.getD (c + 1) 0 * b := Int.mul_le_mul_of_nonneg_right hf (by lia)
    lia
  have hWV : val b (ys.drop k) < b * val b bl := by
    have : b ^ k * val b (ys.drop k) < b ^ k * (b * val b bl) := by
      rw [Int.pow_succ, Int.mul_assoc] at hy; lia
    exact Int.lt_of_mul_lt_mul_left this (by lia)
  obtain ⟨r1, r2, r3, r4⟩ := digit_main hb hM e2 f1 ⟨w2, w1⟩ ⟨v2, v1⟩ hV2 hT hWV hg h1 h2
  exact ⟨_, _, e1, ⟨l2, l1⟩, r1, r2, r3, r4, htop⟩
theorem dr_ok (hb : 2 ≤ b) {low K W V q y : Int} (hK : 0 < K) (hl : 0 ≤ low ∧ low < K) (hr : 0 ≤ W - q * V ∧ W - q * V < V) (hy : y = low + K * W - K * (q * V)) : 0 ≤ y ∧ y < K * V := by
  have e : y = low + K * (W - q * V) := by rw [hy]; grind
  have h1 := mul_nonneg' (show 0 ≤ K by lia) hr.1
  have h2 : K * (W - q * V + 1) ≤ K * V := Int.mul_le_mul_of_nonneg_left (by lia) (by lia)
  rw [Int.mul_add] at h2
  lia
theorem dr_neg {low K W V q : Int} (hK : 0 < K) (hl : 0 ≤ low ∧ low < K) (hr : W - q * V < V) : low + K * W - K * ((q + 1) * V) < 0 := by
  have e : low + K * W - K * ((q + 1) * V) = low + K * (W - q * V - V) := by grind
  have h2 : K * (W - q * V - V) ≤ K * (-1) := Int.mul_le_mul_of_nonneg_left (by lia) (by lia)
  lia
end

-- part mD
section
variable {prog : Program} {w : World} {B : Heap} {d : Nat}
variable {b : Int}
/-- a whole number with some room above -/
structure Sq (n : Int) : Prop where
  pos : 0 ≤ n
  hi : n < 2 ^ 4000
theorem Sq.sm {n : Int} (h : Sq n) : Sm n := ⟨h.pos, Int.lt_of_lt_of_le h.hi (pow_le_pow' (b := 2) (by decide) (by decide))⟩
theorem Sq.shl {n : Int} {s : Nat} (h : Sq n) (hs : s ≤ 9) : Sm (n * 2 ^ s) := by
  have h1 := pow_pos' (b := 2) (by decide) s
  refine ⟨mul_nonneg' h.pos (by lia), ?_⟩
  have h2 : n * 2 ^ s < 2 ^ 4000 * 2 ^ s := Int.mul_lt_mul_of_pos_right h.hi h1
  rw [← Int.pow_add] at h2
  exact Int.lt_of_lt_of_le h2 (pow_le_pow' (b := 2) (by decide) (by lia))
theorem top_pos (hb : 2 ≤ b) {n : Int} {j : Nat} (h : (D b n).length = j + 1) : 1 ≤ (D b n).getD j 0 := by
  have hn : 0 ≤ n := by
    by_cases z : 0 ≤ n
    · exact z
    · rw [D_zero (by lia)] at h; cases h
  have h1 := D_lower hb j h
  have h2 := D_val hb hn
  have h3 := val_split (b := b) (xs := D b n) (k := j) (by lia)
  have h4 := val_lt hb ((D_lim hb (n := n)).take j)
  rw [List.length_take, Nat.min_eq_left (by lia)] at h4
  rw [val_drop (by lia), List.drop_of_length_le (by lia)] at h3
  simp only [val, Int.mul_zero, Int.add_zero] at h3
  have h5 := (D_lim hb (n := n)).getD hb j
  by_cases z : (D b n).getD j 0 = 0
  · rw [z, Int.mul_zero] at h3; lia
  · lia
theorem top_hi (hb : 2 ≤ b) {n : Int} {j : Nat} (hn : 0 ≤ n) (h : (D b n).length = j + 1) : n < ((D b n).getD j 0 + 1) * b ^ j := by
  have h2 := D_val hb hn
  have h3 := val_split (b := b) (xs := D b n) (k := j) (by lia)
  have h4 := val_lt hb ((D_lim hb (n := n)).take j)
  rw [List.length_take, Nat.min_eq_left (by lia)] at h4
  rw [val_drop (by lia), List.drop_of_length_le (by lia)] at h3
  simp only [val, Int.mul_zero, Int.add_zero] at h3
  rw [Int.add_mul, Int.mul_comm]; lia
theorem bits_of {t : Int} {v : Nat} (h0 : 1 ≤ t) (h1 : t < 2 ^ v) : 1 ≤ Builtin.Int.intBits t ∧ Builtin.Int.intBits t ≤ v ∧ t + 1 ≤ 2 ^ Builtin.Int.intBits t := by
  obtain ⟨k, rfl⟩ := Int.eq_ofNat_of_zero_le (show 0 ≤ t by lia)
  have hk : k ≠ 0 := by lia
  have e : Builtin.Int.intBits (k : Int) = k.log2 + 1 := by
    unfold Builtin.Int.intBits
    rw [if_neg (by simpa using hk)]; rfl
  rw [e]
  have a1 := (Nat.log2_lt hk).mp (Nat.lt_succ_self k.log2)
  have a2 : k < 2 ^ v := by exact_mod_cast h1
  have a3 := (Nat.log2_lt hk).mpr a2
  refine ⟨by lia, by lia, ?_⟩
  exact_mod_cast a1
theorem sh_len (hb : 2 ≤ b) {n : Int} {j s : Nat} (hn : 0 ≤ n) (h : (D b n).length = j + 1) (hs : ((D b n).getD j 0 + 1) * 2 ^ s ≤ b) : (D b (n * 2 ^ s)).length = j + 1 := by
  have h1 := pow_pos' (b := 2) (by decide) s
  have h2 : n * 1 ≤ n * 2 ^ s := Int.mul_le_mul_of_nonneg_left (by lia) hn
  have h3 := D_len_mono hb (m := n) (n := n * 2 ^ s) (by lia)
  have h4 : n * 2 ^ s < b ^ (j + 1) := by
    have a1 := top_hi hb hn h
    have a2 : n * 2 ^ s < ((D b n).getD j 0 + 1) * b ^ j * 2 ^ s := Int.mul_lt_mul_of_pos_right a1 h1
    have a3 : ((D b n).getD j 0 + 1) * 2 ^ s * b ^ j ≤ b * b ^ j := Int.mul_le_mul_of_nonneg_right hs (Int.le_of_lt (pow_pos' hb j))
    have a4 : ((D b n).getD j 0 + 1) * b ^ j * 2 ^ s = ((D b n).getD j 0 + 1) * 2 ^ s * b ^ j := by grind
    rw [Int.pow_succ, Int.mul_comm (b ^ j) b]; lia
  have h5 := D_len hb h4
  lia
theorem sh_len2 (hb : 2 ≤ b) {n : Int} {s : Nat} (hn : 0 ≤ n) (hs : (2 : Int) ^ s ≤ b) : (D b (n * 2 ^ s)).length ≤ (D b n).length + 1 := by
  refine D_len hb ?_
  have h1 := pow_pos' (b := 2) (by decide) s
  have a1 := D_lt hb hn
  have a2 : n * 2 ^ s < b ^ (D b n).length * 2 ^ s := Int.mul_lt_mul_of_pos_right a1 h1
  have a3 : b ^ (D b n).length * 2 ^ s ≤ b ^ (D b n).length * b := Int.mul_le_mul_of_nonneg_left hs (Int.le_of_lt (pow_pos' hb _))
  rw [Int.pow_succ]; lia
theorem div_back {m n z y S : Int} (hS : 0 < S) (hn : 0 < n) (e : m * S = z * (n * S) + y) (h0 : 0 ≤ y) (h1 : y < n * S) : z = m / n ∧ y / S = m % n := by
  have e1 : y = (m - n * z) * S := by rw [Int.sub_mul]; grind
  have r0 : 0 ≤ m - n * z := by
    by_cases q : 0 ≤ m - n * z
    · exact q
    · have : (m - n * z) * S ≤ (-1) * S := Int.mul_le_mul_of_nonneg_right (by lia) (by lia)
      lia
  have r1 : m - n * z < n := by
    rw [e1] at h1
    exact Int.lt_of_mul_lt_mul_right h1 (by lia)
  obtain ⟨a, c⟩ := div_uniq (m := m) (l := n) (V := z) (r := m - n * z) hn ⟨r0, r1⟩ (by lia)
  refine ⟨a, ?_⟩
  rw [e1, Int.mul_ediv_cancel _ (by lia), c]
theorem win_ok (hb : 2 ≤ b) {m n S : Int} {la j : Nat} (hS : 0 < S) (hm : m < b ^ la) (hn : b ^ j ≤ n) (hj : j + 1 ≤ la) : m * S < b ^ (la + 1 - (j + 1)) * (n * S) := by
  have h1 : b ^ (la + 1 - (j + 1)) * b ^ j ≤ b ^ (la + 1 - (j + 1)) * n := Int.mul_le_mul_of_nonneg_left hn (Int.le_of_lt (pow_pos' hb _))
  rw [← Int.pow_add, show la + 1 - (j + 1) + j = la by lia] at h1
  have h2 : m * S < b ^ (la + 1 - (j + 1)) * n * S := Int.mul_lt_mul_of_pos_right (by lia) hS
  rwa [Int.mul_assoc] at h2
end

-- part f01
section
variable {prog : Program} {w : World} {B : Heap} {d : Nat}
set_option maxHeartbeats 400000 in
theorem normal_ok (G : GOk B (kap.heap_1 w.params)) {xs : List Int} (hz : xs.length < 2 ^ 20) : CallG prog w B (d + 1) 70 [.par xs] pur (fun V _ => V = .lst (norm xs)) (fun _ => False) := by
  refine call_fn (names := ["a"]) G (by rfl) (by rfl) rfl (by walk_at "m_bind") (by walk_at "m_names") (by decide) rfl rfl rfl ?_
  intro A outer h0 R s0 L O
  walk_at "m_go"
  refine Ex1.whi (fun k ρ σ => ρ "a" = some (.par xs) ∧ ρ "end" = some (.int k) ∧ σ = pur ∧ k ≤ xs.length ∧ norm (xs.take k) = norm xs) xs.length ⟨by walk_at "m_look", by walk_at "m_look", rfl, by lia, by rw [List.take_length]⟩ ?_
  rintro k ρ σ ⟨h1, h2, rfl, h3, h4⟩
  walk_at "m_go"
  · rename_i hk hx
    obtain ⟨m, rfl⟩ : ∃ m, k = m + 1 := ⟨k - 1, by lia⟩
    have e : ((m + 1 : Nat) : Int) - 1 = m := by lia
    rw [e] at hx ⊢
    refine ⟨m, by lia, by walk_at "m_look", by walk_at "m_look", rfl, by lia, ?_⟩
    rw [take_snoc (by lia)] at h4
    rw [Int.toNat_natCast] at hx
    rwa [hx, norm_snoc0] at h4
  · rename_i hk hx
    obtain ⟨m, rfl⟩ : ∃ m, k = m + 1 := ⟨k - 1, by lia⟩
    have e : ((m + 1 : Nat) : Int) - 1 = m := by lia
    rw [e, Int.toNat_natCast] at hx
    rw [slc0 h3]
    refine Bk.pure ?_ rfl
    rw [← h4, take_snoc (by lia), norm_snoc hx]
  · obtain rfl : k = 0 := by lia
    rw [slc0 h3]
    refine Bk.pure ?_ rfl
    rw [← h4]; rfl
end

-- part f02
section
variable {prog : Program} {w : World} {B : Heap} {d : Nat}
set_option maxHeartbeats 400000 in
theorem nat_of_ok (G : GOk B (kap.heap_1 w.params)) {n v : Int} (hv : 1 ≤ v ∧ v ≤ 9) (hn : Sm n) : CallG prog w B (d + 1) 77 [.int n, .int v] pur (fun V _ => V = .lst (D (bs v) n)) (fun _ => False) := by
  refine call_fn (names := ["number", "w"]) G (by rfl) (by rfl) rfl (by walk_at "m_bind") (by walk_at "m_names") (by decide) rfl rfl rfl ?_
  intro A outer h0 R s0 L O
  have hb := bs2 hv.1
  have hn0 := hn.pos
  have hl := hn.len hb
  walk_at "m_go"
  · lia
  rename_i a ha
  refine Ex1.whi (fun k ρ σ => E2 fun zs m => C8 (ρ "w" = some (.int v)) (ρ "mask" = some (.int (1 * 2 ^ v.toNat - 1))) (ρ "found" = some (.own a)) (ρ "number" = some (.int m)) (σ a = some (.li zs)) (0 ≤ m) (k = m.toNat) (zs ++ D (bs v) m = D (bs v) n)) n.toNat
    ⟨[], n, by walk_at "m_look", by walk_at "m_look", by walk_at "m_look", by walk_at "m_look", by walk_at "m_led", by lia, rfl, rfl⟩ ?_
  rintro k ρ σ ⟨zs, m, h1, h2, h3, h4, h5, h6, rfl, h7⟩
  have hlz : zs.length ≤ 4096 := by
    have := congrArg List.length h7
    rw [List.length_append] at this
    lia
  walk_at "m_go"
  · rename_i hm
    have hm' : 0 < m := by lia
    rw [and_bs h6, shr_bs h6]
    have := ediv_lt hb hm'
    have h8 : 0 ≤ m / bs v := Int.ediv_nonneg h6 (by lia)
    refine ⟨_, by lia, _, _, by walk_at "m_look", by walk_at "m_look", by walk_at "m_look", by walk_at "m_look", by walk_at "m_led", h8, rfl, ?_⟩
    rw [← h7, D_pos hb hm', List.append_assoc]; rfl
  · rename_i hm
    refine Bk.own h5 ?_
    rw [← h7, D_zero (by lia), List.append_nil]
end

-- part f03
section
variable {prog : Program} {w : World} {B : Heap} {d : Nat}
set_option maxHeartbeats 400000 in
theorem compare_ok (G : GOk B (kap.heap_1 w.params)) {b m n : Int} (hb : 2 ≤ b) (hm : Sm m) (hn : Sm n) : CallG prog w B (d + 1) 84 [.par (D b m), .par (D b n)] pur (fun V _ => V = .int (cmp m n)) (fun _ => False) := by
  refine call_fn (names := ["a", "b"]) G (by rfl) (by rfl) rfl (by walk_at "m_bind") (by walk_at "m_names") (by decide) rfl rfl rfl ?_
  intro A outer h0 R s0 L O
  have hl := hm.len hb
  have hl' := hn.len hb
  have em := D_val hb hm.pos
  have en := D_val hb hn.pos
  walk_at "m_go"
  · have := D_len_lt hb (m := m) (n := n) (by lia)
    exact Bk.pure (by simp [cmp, this]) rfl
  · have := D_len_lt hb (m := n) (n := m) (by lia)
    exact Bk.pure (by rw [cmp, if_neg (by lia), if_pos this]) rfl
  rename_i hq
  have hq : (D b m).length = (D b n).length := by lia
  refine ⟨fun i ρ σ => i ≤ (D b m).length ∧ ρ "a" = some (.par (D b m)) ∧ ρ "b" = some (.par (D b n)) ∧ σ = pur ∧ (D b m).drop ((D b m).length - i) = (D b n).drop ((D b m).length - i),
    ⟨by lia, by walk_at "m_look", by walk_at "m_look", rfl, by rw [List.drop_of_length_le (by lia), List.drop_of_length_le (by lia)]⟩, ?_, ?_⟩
  · rintro i ρ σ hi ⟨h1, h2, h3, rfl, h4⟩
    have ei : ((D b m).length : Int) - 1 - i = (((D b m).length - 1 - i : Nat) : Int) := by lia
    have ej : (D b m).length - i = (D b m).length - 1 - i + 1 := by lia
    rw [ej] at h4
    walk_at "m_go"
    · rename_i g1 g2
      rw [ei, Int.toNat_natCast] at g1 g2
      have := cmp_lt hb (D_lim hb) (D_lim hb) hq (by lia) h4 g2
      rw [em, en] at this
      exact Bk.pure (by simp [cmp, this]) rfl
    · rename_i g1 g2
      rw [ei, Int.toNat_natCast] at g1 g2
      have := cmp_lt hb (D_lim hb) (D_lim hb) hq.symm (by lia) h4.symm (by lia)
      rw [em, en] at this
      exact Bk.pure (by rw [cmp, if_neg (by lia), if_pos this]) rfl
    · rename_i g1
      rw [ei, Int.toNat_natCast] at g1
      refine ⟨by lia, by walk_at "m_look", by walk_at "m_look", rfl, ?_⟩
      rw [show (D b m).length - (i + 1) = (D b m).length - 1 - i by lia, drop_get (by lia), drop_get (xs := D b n) (by lia), h4]
      simpa using g1
  · rintro ρ σ ⟨h1, h2, h3, rfl, h4⟩
    walk_at "m_go"
    rw [show (D b m).length - ((D b m).length - 1 + 1 : Int).toNat = 0 by lia] at h4
    have h5 : D b m = D b n := h4
    have : m = n := by rw [← em, ← en, h5]
    exact Bk.pure (by simp [cmp, this]) rfl
end

-- part f04
section
variable {prog : Program} {w : World} {B : Heap} {d : Nat}
set_option maxHeartbeats 1000000 in
theorem add_ok (G : GOk B (kap.heap_1 w.params)) {v m n : Int} (hv : 1 ≤ v ∧ v ≤ 9) (hm : Sm m) (hn : Sm n) : CallG prog w B (d + 1) 91 [.par (D (bs v) m), .par (D (bs v) n), .int v] pur (fun V _ => V = .lst (D (bs v) (m + n))) (fun _ => False) := by
  refine call_fn (names := ["a", "b", "w"]) G (by rfl) (by rfl) rfl (by walk_at "m_bind") (by walk_at "m_names") (by decide) rfl rfl rfl ?_
  intro A outer h0 R s0 L O
  have hb := bs2 hv.1
  refine Ex.cons (Ex1.mono (N := fun ρ σ => E2 fun p q => C8 (Sm p) (Sm q) ((D (bs v) q).length ≤ (D (bs v) p).length) (p + q = m + n) (ρ "a" = some (.par (D (bs v) p))) (ρ "b" = some (.par (D (bs v) q))) (ρ "w" = some (.int v)) (σ = pur)) (Rt := fun _ _ => False) ?_ ?_ fun _ _ h => h.elim)
  · have hl := hm.len hb
    have hl' := hn.len hb
    walk_at "m_go"
    · exact ⟨n, m, hn, hm, by lia, by lia, by walk_at "m_look", by walk_at "m_look", by walk_at "m_look", rfl⟩
    · exact ⟨m, n, hm, hn, by lia, by lia, by walk_at "m_look", by walk_at "m_look", by walk_at "m_look", rfl⟩
  rintro ρ σ ⟨p, q, hp, hq, hle, hs, h1, h2, h3, rfl⟩
  have hl := hp.len hb
  have hl' := hq.len hb
  have eq := D_val hb hq.pos
  have ep := D_val hb hp.pos
  have LP := D_lim hb (n := p)
  have LQ := D_lim hb (n := q)
  generalize eQ : D (bs v) q = Q at *
  generalize eP : D (bs v) p = P at *
  walk_at "m_go"
  rename_i a ha
  let J : Nat → Rho → Led → Prop := fun i ρ σ => E2 fun zs c => C11 (ρ "a" = some (.par P)) (ρ "b" = some (.par Q)) (ρ "w" = some (.int v)) (ρ "mask" = some (.int (1 * 2 ^ v.toNat - 1))) (ρ "found" = some (.own a)) (ρ "carry" = some (.int c)) (σ a = some (.li zs)) ((0 ≤ c ∧ c ≤ 1)) (Lim (bs v) zs) (zs.length = i) (val (bs v) zs + bs v ^ i * c = val (bs v) (P.take i) + val (bs v) (Q.take i))
  refine ⟨J, ⟨[], 0, by walk_at "m_look", by walk_at "m_look", by walk_at "m_look", by walk_at "m_look", by walk_at "m_look", by walk_at "m_look", by walk_at "m_led", by lia, Lim.nil, rfl, by simp [val]⟩, ?_, ?_⟩
  · rintro i ρ σ hi ⟨zs, c, h1, h2, h3, h4, h5, h6, h7, h8, h9, h10, h11⟩
    walk_at "m_go"
    rw [Int.toNat_natCast] at *
    have g1 := LP.getD hb i
    have g2 := LQ.getD hb i
    have g3 := div_two hb (s := c + (P.getD i 0 + Q.getD i 0)) (by lia) (by lia)
    rw [and_bs (by lia), shr_bs (by lia)]
    refine ⟨_, _, by walk_at "m_look", by walk_at "m_look", by walk_at "m_look", by walk_at "m_look", by walk_at "m_look", by walk_at "m_look", by walk_at "m_led", g3, h9.snoc (mod_lim hb _).1 (mod_lim hb _).2, by simp [h10], ?_⟩
    rw [carry_step h10, val_take_succ (by lia), val_take_succ (xs := Q) (by lia)]
    grind
  rintro ρ σ ⟨zs, c, h1, h2, h3, h4, h5, h6, h7, h8, h9, h10, h11⟩
  rw [Int.toNat_natCast] at h10 h11
  have tQ : Q.take Q.length = Q := List.take_length
  rw [tQ] at h11
  walk_at "m_go"
  let J2 : Nat → Rho → Led → Prop := fun i ρ σ => E2 fun zs c => C11 (ρ "a" = some (.par P)) (ρ "b" = some (.par Q)) (ρ "w" = some (.int v)) (ρ "mask" = some (.int (1 * 2 ^ v.toNat - 1))) (ρ "found" = some (.own a)) (ρ "carry" = some (.int c)) (σ a = some (.li zs)) ((0 ≤ c ∧ c ≤ 1)) (Lim (bs v) zs) (zs.length = Q.length + i) (val (bs v) zs + bs v ^ (Q.length + i) * c = val (bs v) (P.take (Q.length + i)) + val (bs v) Q)
  refine ⟨J2, ⟨zs, c, h1, h2, h3, h4, h5, h6, h7, h8, h9, h10, h11⟩, ?_, ?_⟩
  · clear h1 h2 h3 h4 h5 h6 h7 h8 h9 h10 h11
    rintro i ρ σ hi ⟨zs, c, h1, h2, h3, h4, h5, h6, h7, h8, h9, h10, h11⟩
    have ei : (Q.length : Int) + i = ((Q.length + i : Nat) : Int) := by lia
    walk_at "m_go"
    rw [ei, Int.toNat_natCast]
    have g1 := LP.getD hb (Q.length + i)
    have g3 := div_two hb (s := c + P.getD (Q.length + i) 0) (by lia) (by lia)
    rw [and_bs (by lia), shr_bs (by lia)]
    refine ⟨_, _, by walk_at "m_look", by walk_at "m_look", by walk_at "m_look", by walk_at "m_look", by walk_at "m_look", by walk_at "m_look", by walk_at "m_led", g3, h9.snoc (mod_lim hb _).1 (mod_lim hb _).2, by simp [h10]; lia, ?_⟩
    rw [← Nat.add_assoc, carry_step h10, val_take_succ (by lia)]
    grind
  clear h1 h2 h3 h4 h5 h6 h7 h8 h9 h10 h11
  rintro ρ σ ⟨zs, c, h1, h2, h3, h4, h5, h6, h7, h8, h9, h10, h11⟩
  have el : Q.length + ((P.length : Int) - Q.length).toNat = P.length := by lia
  rw [el] at h10 h11
  have tP : P.take P.length = P := List.take_length
  rw [tP, ep, eq, ← h10] at h11
  obtain ⟨e1, e2⟩ := add_end hb hp.pos hq.pos (by rw [h10, eP]) h9 h8 h11
  walk_at "m_go"
  · rename_i hc
    exact Bk.own (by walk_at "m_led") (by rw [e1 hc, hs])
  · rename_i hc
    exact Bk.own (by walk_at "m_led") (by rw [e2 hc, hs])
end

-- part f05
section
variable {prog : Program} {w : World} {B : Heap} {d : Nat}
set_option maxHeartbeats 1000000 in
theorem sub_ok (G : GOk B (kap.heap_1 w.params)) {v m n : Int} (hv : 1 ≤ v ∧ v ≤ 9) (hm : Sm m) (hn : Sm n) (hmn : n ≤ m) : CallG prog w B (d + 2) 98 [.par (D (bs v) m), .par (D (bs v) n), .int v] pur (fun V _ => V = .lst (D (bs v) (m - n))) (fun _ => False) := by
  refine call_fn (names := ["a", "b", "w"]) G (by rfl) (by rfl) rfl (by walk_at "m_bind") (by walk_at "m_names") (by decide) rfl rfl rfl ?_
  intro A outer h0 R s0 L O
  have hb := bs2 hv.1
  walk_at "m_go"
  refine opn_pure O (compare_ok G hb hm hn) (by walk_at "m_args") (fun _ h => h.elim) ?_
  rintro _ _ rfl
  have hc : ¬ cmp m n < 0 := by rw [cmp, if_neg (by lia)]; split <;> lia
  generalize cmp m n = cc at *
  have em := D_val hb hm.pos
  have en := D_val hb hn.pos
  have LP := D_lim hb (n := m)
  have LQ := D_lim hb (n := n)
  have hl := hm.len hb
  have hl' := hn.len hb
  generalize eP : D (bs v) m = P at *
  generalize eQ : D (bs v) n = Q at *
  walk_at "m_go"
  · lia
  rename_i a ha
  let J : Nat → Rho → Led → Prop := fun i ρ σ => E2 fun zs c => C10 (ρ "a" = some (.par P)) (ρ "b" = some (.par Q)) (ρ "base" = some (.int (1 * 2 ^ v.toNat))) (ρ "found" = some (.own a)) (ρ "borrow" = some (.int c)) (σ a = some (.li zs)) ((0 ≤ c ∧ c ≤ 1)) (Lim (bs v) zs) (zs.length = i) (val (bs v) zs + val (bs v) (Q.take i) = val (bs v) (P.take i) + bs v ^ i * c)
  refine ⟨J, ⟨[], 0, by walk_at "m_look", by walk_at "m_look", by walk_at "m_look", by walk_at "m_look", by walk_at "m_look", by walk_at "m_led", by lia, Lim.nil, rfl, by simp [val]⟩, ?_, ?_⟩
  · rintro i ρ σ hi ⟨zs, c, h1, h2, h4, h5, h6, h7, h8, h9, h10, h11⟩
    rw [Int.toNat_natCast] at hi
    have g1 := LP.getD hb i
    have g2 := LQ.getD hb i
    have e0 : (1 : Int) * 2 ^ v.toNat = bs v := by rw [bs]; lia
    have key : ∀ q, q = Q.getD i 0 → ∀ ρ σ l t c', ρ "a" = some (.par P) → ρ "b" = some (.par Q) → ρ "base" = some (.int (1 * 2 ^ v.toNat)) → ρ "found" = some (.own a) → ρ "borrow" = some (.int c') → σ a = some (.li (zs ++ [t])) → l = P.getD i 0 - c - q → (l < 0 ∧ t = l + 1 * 2 ^ v.toNat ∧ c' = 1) ∨ (¬ l < 0 ∧ t = l ∧ c' = 0) → J (i + 1) ρ σ := by
      intro q eq ρ σ l t c' h1 h2 h4 h5 h6 h7 el h
      rw [e0] at h
      rcases h with ⟨hl, ht, hc⟩ | ⟨hl, ht, hc⟩
      · refine ⟨_, _, h1, h2, h4, h5, h6, h7, by lia, h9.snoc (by lia) (by lia), by simp [h10], ?_⟩
        rw [val_snoc, val_take_get, val_take_get, h10, Int.pow_succ]
        grind
      · refine ⟨_, _, h1, h2, h4, h5, h6, h7, by lia, h9.snoc (by lia) (by lia), by simp [h10], ?_⟩
        rw [val_snoc, val_take_get, val_take_get, h10]
        grind
    walk_at "m_go"
    all_goals simp only [Int.toNat_natCast] at *
    all_goals first
      | exact key (Q.getD i 0) rfl _ _ _ _ _ (by walk_at "m_look") (by walk_at "m_look") (by walk_at "m_look") (by walk_at "m_look") (by walk_at "m_look") (by walk_at "m_led") rfl (by lia)
      | exact key 0 (by rw [List.getD_eq_getElem?_getD, List.getElem?_eq_none (by lia)]; rfl) _ _ _ _ _ (by walk_at "m_look") (by walk_at "m_look") (by walk_at "m_look") (by walk_at "m_look") (by walk_at "m_look") (by walk_at "m_led") rfl (by lia)
      | lia
  rintro ρ σ ⟨zs, c, h1, h2, h4, h5, h6, h7, h8, h9, h10, h11⟩
  rw [Int.toNat_natCast] at h10 h11
  have tP : P.take P.length = P := List.take_length
  have tQ : Q.take P.length = Q := List.take_of_length_le (by rw [← eP, ← eQ]; exact D_len_mono hb hmn)
  rw [tP, tQ, em, en] at h11
  have hz := val_lt hb h9
  have hz0 := val_nonneg hb h9
  rw [h10] at hz
  have e : val (bs v) zs = m - n := by
    by_cases q : c = 0
    · subst q; rw [Int.mul_zero] at h11; lia
    · obtain rfl : c = 1 := by lia
      rw [Int.mul_one] at h11; lia
  walk_at "m_go"
  refine opn_pure O (normal_ok G (xs := zs) (by lia)) (by walk_at "m_args") (fun _ h => h.elim) ?_
  rintro _ _ rfl
  exact Bk.pure (by rw [norm_D hb h9, e]) rfl
end

-- part f06
section
variable {prog : Program} {w : World} {B : Heap} {d : Nat}
set_option maxHeartbeats 1000000 in
theorem divrem_limb_ok (G : GOk B (kap.heap_1 w.params)) {v m l : Int} (hv : 1 ≤ v ∧ v ≤ 9) (hm : Sm m) (hl0 : 0 < l ∧ l < bs v) : CallG prog w B (d + 2) 105 [.par (D (bs v) m), .int l, .int v] pur (fun V _ => V = .tup [.lst (D (bs v) (m / l)), .int (m % l)]) (fun _ => False) := by
  refine call_fn (names := ["a", "limb", "w"]) G (by rfl) (by rfl) rfl (by walk_at "m_bind") (by walk_at "m_names") (by decide) rfl rfl rfl ?_
  intro A outer h0 R s0 L O
  have hb := bs2 hv.1
  have hbh := bs_hi hv.2
  have em := D_val hb hm.pos
  have LP := D_lim hb (n := m)
  have hl := hm.len hb
  generalize eP : D (bs v) m = P at *
  walk_at "m_go"
  · lia
  rename_i a0 ha0 a ha
  let J : Nat → Rho → Led → Prop := fun i ρ σ => E2 fun zs r => C11 (ρ "a" = some (.par P)) (ρ "limb" = some (.int l)) (ρ "w" = some (.int v)) (ρ "found" = some (.own a)) (ρ "rest" = some (.int r)) (σ a = some (.li zs)) (i ≤ P.length) ((0 ≤ r ∧ r < l)) (Lim (bs v) zs) (zs.length = P.length) (l * val (bs v) (zs.drop (P.length - i)) + r = val (bs v) (P.drop (P.length - i)))
  refine ⟨J, ⟨_, 0, by walk_at "m_look", by walk_at "m_look", by walk_at "m_look", by walk_at "m_look", by walk_at "m_look", by walk_at "m_led", by lia, by lia, Lim.rep hb _, by simp, by rw [Int.toNat_natCast, List.drop_of_length_le (by simp), List.drop_of_length_le (by lia)]; simp [val]⟩, ?_, ?_⟩
  · rintro i ρ σ hi ⟨zs, r, h1, h2, h3, h4, h5, h6, h7, h8, h9, h10, h11⟩
    have ei : (P.length : Int) - 1 - i = ((P.length - 1 - i : Nat) : Int) := by lia
    have ej : P.length - i = P.length - 1 - i + 1 := by lia
    have ek : P.length - (i + 1) = P.length - 1 - i := by lia
    rw [ej] at h11
    have g1 := LP.getD hb (P.length - 1 - i)
    walk_at "m_go"
    · simp only [ei, Int.toNat_natCast]
      rw [or_bs h8.1 g1.1 g1.2]
      obtain ⟨k1, k2, k3⟩ := limb_step (V := val (bs v) (zs.drop (P.length - 1 - i + 1))) hl0.1 hb h8 g1 rfl
      have hs0 := mul_nonneg' h8.1 (show 0 ≤ bs v by lia)
      rw [Int.fdiv_eq_ediv_of_nonneg _ (by lia), Int.fmod_eq_emod_of_nonneg _ (by lia)]
      refine ⟨_, _, by walk_at "m_look", by walk_at "m_look", by walk_at "m_look", by walk_at "m_look", by walk_at "m_look", by walk_at "m_led", by lia, k2, h9.set k1.1 k1.2, by simpa using h10, ?_⟩
      rw [ek, set_drop (by lia), val, k3, h11]
      exact (val_drop (by lia)).symm
  rintro ρ σ ⟨zs, r, h1, h2, h3, h4, h5, h6, h7, h8, h9, h10, h11⟩
  rw [show P.length - ((P.length : Int) - 1 + 1).toNat = 0 by lia] at h11
  have h12 : l * val (bs v) zs + r = m := by rw [← em]; exact h11
  obtain ⟨e1, e2⟩ := div_uniq hl0.1 h8 h12
  walk_at "m_go"
  refine opn_pure O (normal_ok G (xs := zs) (by lia)) (by walk_at "m_args") (fun _ h => h.elim) ?_
  rintro _ _ rfl
  walk_at "m_go"
  exact Bk.pure (by rw [norm_D hb h9, e1, e2]) rfl
end

-- part f07
section
variable {prog : Program} {w : World} {B : Heap} {d : Nat}
set_option maxHeartbeats 1000000 in
theorem shift_left_ok (G : GOk B (kap.heap_1 w.params)) {v m n : Int} (hv : 1 ≤ v ∧ v ≤ 9) (hm : Sm m) (hn : 0 ≤ n ∧ n ≤ 4096) : CallG prog w B (d + 1) 112 [.par (D (bs v) m), .int n, .int v] pur (fun V _ => V = .lst (D (bs v) (m * 2 ^ n.toNat))) (fun _ => False) := by
  refine call_fn (names := ["a", "n", "w"]) G (by rfl) (by rfl) rfl (by walk_at "m_bind") (by walk_at "m_names") (by decide) rfl rfl rfl ?_
  intro A outer h0 R s0 L O
  have hb := bs2 hv.1
  have hbh := bs_hi hv.2
  have em := D_val hb hm.pos
  have LP := D_lim hb (n := m)
  have hl := hm.len hb
  obtain ⟨f1, f2, f3⟩ := fmod_parts hn.1 hv.1
  have f4 := pow_parts hn.1 hv.1
  have hlow := D_lower hb (n := m)
  generalize eP : D (bs v) m = P at *
  walk_at "m_go"
  · rename_i h _ _
    have : P = [] := List.eq_nil_of_length_eq_zero (by lia)
    subst this
    simp only [val] at em
    exact Bk.own (by walk_at "m_led") (by rw [← em, Int.zero_mul, D_zero (by lia)])
  rename_i hne a0 ha0 a ha
  generalize eS : n.fdiv v = S at *
  generalize eF : n.fmod v = Fw at *
  have hf := pow_pos' (b := 2) (by lia) Fw.toNat
  have hfb : (2 : Int) ^ Fw.toNat ≤ bs v := pow_le_pow' (b := 2) (by lia) (by lia)
  generalize ef : (2 : Int) ^ Fw.toNat = f at *
  let J : Nat → Rho → Led → Prop := fun i ρ σ => E2 fun zs c => C10 (ρ "w" = some (.int v)) (ρ "few" = some (.int Fw)) (ρ "mask" = some (.int (1 * 2 ^ v.toNat - 1))) (ρ "found" = some (.own a)) (ρ "carry" = some (.int c)) (σ a = some (.li zs)) ((0 ≤ c ∧ c < f)) (Lim (bs v) zs) (zs.length = S.toNat + i) (val (bs v) zs + bs v ^ (S.toNat + i) * c = bs v ^ S.toNat * (f * val (bs v) (P.take i)))
  refine ⟨J, ⟨_, 0, by walk_at "m_look", by walk_at "m_look", by walk_at "m_look", by walk_at "m_look", by walk_at "m_look", by walk_at "m_led", by lia, Lim.rep hb _, by simp, by simp [val, val_rep]⟩, ?_, ?_⟩
  · rintro i ρ σ hi ⟨zs, c, h1, h2, h3, h4, h5, h6, h7, h8, h9, h10⟩
    have g1 := LP.getD hb i
    walk_at "m_go"
    have e0 : Builtin.bitOr c (P.getD i 0 * 2 ^ Fw.toNat) = P.getD i 0 * f + c := by
      rw [bitOr_comm, or_bs g1.1 h7.1 (by rw [bs, ef]; exact h7.2), bs, ef]
    obtain ⟨k1, k2, k3⟩ := shl_step hb hf h7 g1 rfl
    rw [e0, and_bs k1, shr_bs k1]
    refine ⟨_, _, by walk_at "m_look", by walk_at "m_look", by walk_at "m_look", by walk_at "m_look", by walk_at "m_look", by walk_at "m_led", ⟨k2, k3⟩, h8.snoc (mod_lim hb _).1 (mod_lim hb _).2, by simp [h9]; lia, ?_⟩
    rw [← Nat.add_assoc, carry_step h9, val_take_succ (by lia), Int.pow_add] at *
    grind
  rintro ρ σ ⟨zs, c, h1, h2, h3, h4, h5, h6, h7, h8, h9, h10⟩
  have tP : P.take P.length = P := List.take_length
  have eT : bs v ^ S.toNat * (f * m) = m * 2 ^ n.toNat := by rw [f4]; grind
  rw [tP, em, ← h9, eT] at h10
  obtain ⟨e1, e2⟩ := fin_end hb h8 ⟨h7.1, by lia⟩ h10 (fun k hk => by
    obtain ⟨j, hj⟩ : ∃ j, P.length = j + 1 := ⟨P.length - 1, by lia⟩
    have g1 := hlow j hj
    have g2 := pow_pos' hb S.toNat
    have : k = S.toNat + j := by lia
    rw [this, Int.pow_add, ← eT]
    refine Int.mul_le_mul_of_nonneg_left ?_ (Int.le_of_lt g2)
    have : 1 * m ≤ f * m := Int.mul_le_mul_of_nonneg_right (by lia) hm.pos
    lia)
  walk_at "m_go"
  · rename_i hc
    exact Bk.own (by walk_at "m_led") (by rw [e1 hc])
  · rename_i hc
    exact Bk.own (by walk_at "m_led") (by rw [e2 hc])
end

-- part f08
section
variable {prog : Program} {w : World} {B : Heap} {d : Nat}
theorem shr_step {b f g x y : Int} (hf : 0 < f) (hg : 0 < g) (hfg : f * g = b) (hx : 0 ≤ x ∧ x < b) (hy : 0 ≤ y) : (0 ≤ x / f ∧ x / f < g) ∧ 0 ≤ y * g + x / f ∧ (y * g + x / f) % b = y % f * g + x / f := by
  have h1 : 0 ≤ x / f := Int.ediv_nonneg hx.1 (by lia)
  have h2 : x / f < g := Int.ediv_lt_of_lt_mul hf (by rw [Int.mul_comm] at hfg; lia)
  have h3 := mul_nonneg' hy (show 0 ≤ g by lia)
  refine ⟨⟨h1, h2⟩, by lia, ?_⟩
  have e := Int.emod_add_mul_ediv y f
  have r0 := Int.emod_nonneg y (show f ≠ 0 by lia)
  have r1 := Int.emod_lt_of_pos y hf
  generalize y % f = r at *
  generalize y / f = q at *
  have e2 : y * g + x / f = (r * g + x / f) + b * q := by rw [← e, ← hfg]; grind
  rw [e2, Int.add_mul_emod_self_left]
  have h4 : r * g ≤ (f - 1) * g := Int.mul_le_mul_of_nonneg_right (by lia) (by lia)
  have h5 := mul_nonneg' r0 (show 0 ≤ g by lia)
  rw [Int.sub_mul, hfg] at h4
  exact Int.emod_eq_of_lt (by lia) (by lia)
set_option maxHeartbeats 1000000 in
theorem shift_right_ok (G : GOk B (kap.heap_1 w.params)) {v m n : Int} (hv : 1 ≤ v ∧ v ≤ 9) (hm : Sm m) (hn : 0 ≤ n ∧ n < v) : CallG prog w B (d + 2) 119 [.par (D (bs v) m), .int n, .int v] pur (fun V _ => V = .lst (D (bs v) (m / 2 ^ n.toNat))) (fun _ => False) := by
  refine call_fn (names := ["a", "n", "w"]) G (by rfl) (by rfl) rfl (by walk_at "m_bind") (by walk_at "m_names") (by decide) rfl rfl rfl ?_
  intro A outer h0 R s0 L O
  have hb := bs2 hv.1
  have hbh := bs_hi hv.2
  have em := D_val hb hm.pos
  have LP := D_lim hb (n := m)
  have hl := hm.len hb
  have e1 : n.fdiv v = 0 := by rw [Int.fdiv_eq_ediv_of_nonneg _ (by lia)]; exact Int.ediv_eq_zero_of_lt hn.1 hn.2
  have e2 : n.fmod v = n := by rw [Int.fmod_eq_emod_of_nonneg _ (by lia)]; exact Int.emod_eq_of_lt hn.1 hn.2
  generalize eP : D (bs v) m = P at *
  walk_at "m_go"
  rename_i a ha
  rw [e1, e2]
  have hf := pow_pos' (b := 2) (by lia) n.toNat
  have hg := pow_pos' (b := 2) (by lia) (v - n).toNat
  have hfg : (2 : Int) ^ n.toNat * 2 ^ (v - n).toNat = bs v := by rw [← Int.pow_add, bs]; congr 1; lia
  have g1 : ∀ i, (P.getD i 0).fdiv (2 ^ n.toNat) = P.getD i 0 / 2 ^ n.toNat := fun i => Int.fdiv_eq_ediv_of_nonneg _ (by lia)
  have gb : bs (v - n) = 2 ^ (v - n).toNat := rfl
  generalize ef : (2 : Int) ^ n.toNat = f at *
  let J : Nat → Rho → Led → Prop := fun i ρ σ => ∃ zs, C9 (ρ "a" = some (.par P)) (ρ "w" = some (.int v)) (ρ "few" = some (.int n)) (ρ "mask" = some (.int (1 * 2 ^ v.toNat - 1))) (ρ "found" = some (.own a)) (σ a = some (.li zs)) (Lim (bs v) zs) (zs.length = i) (f * val (bs v) zs + P.getD 0 0 % f = val (bs v) (P.take i) + bs v ^ i * (P.getD i 0 % f))
  refine ⟨J, ⟨_, by walk_at "m_look", by walk_at "m_look", by walk_at "m_look", by walk_at "m_look", by walk_at "m_look", by walk_at "m_led", Lim.nil, rfl, by simp [val]⟩, ?_, ?_⟩
  · rintro i ρ σ hi ⟨zs, h1, h2, h3, h4, h5, h6, h7, h8, h9⟩
    have ei : (0 : Int) + i = i := by lia
    have e9 : ((i : Int) + 1).toNat = i + 1 := by lia
    have gx := LP.getD hb i
    have gy := LP.getD hb (i + 1)
    have key : ∀ t ρ σ, t = P.getD (i + 1) 0 % f * 2 ^ (v - n).toNat + P.getD i 0 / f → ρ "a" = some (.par P) → ρ "w" = some (.int v) → ρ "few" = some (.int n) → ρ "mask" = some (.int (1 * 2 ^ v.toNat - 1)) → ρ "found" = some (.own a) → σ a = some (.li (zs ++ [t])) → J (i + 1) ρ σ := by
      intro t ρ σ et h1 h2 h3 h4 h5 h6
      obtain ⟨k1, k2, k3⟩ := shr_step (x := P.getD i 0) (y := P.getD (i + 1) 0) hf hg hfg gx gy.1
      have k4 := mod_lim hb (P.getD (i + 1) 0 * 2 ^ (v - n).toNat + P.getD i 0 / f)
      refine ⟨_, h1, h2, h3, h4, h5, h6, h7.snoc (by rw [et, ← k3]; exact k4.1) (by rw [et, ← k3]; exact k4.2), by simp [h8], ?_⟩
      have e := Int.emod_add_mul_ediv (P.getD i 0) f
      rw [val_snoc, val_take_get, h8, et, Int.pow_succ, ← hfg] at *
      generalize P.getD i 0 % f = r at *
      generalize P.getD i 0 / f = q at *
      generalize P.getD (i + 1) 0 % f = r2 at *
      generalize (2 : Int) ^ (v - n).toNat = g at *
      rw [← e]
      grind
    have key2 : ∀ y, y = P.getD (i + 1) 0 → Builtin.bitAnd (Builtin.bitOr (P.getD i 0 / f) (y * 2 ^ (v - n).toNat)) (1 * 2 ^ v.toNat - 1) = P.getD (i + 1) 0 % f * 2 ^ (v - n).toNat + P.getD i 0 / f := by
      rintro y rfl
      obtain ⟨k1, k2, k3⟩ := shr_step (x := P.getD i 0) (y := P.getD (i + 1) 0) hf hg hfg gx gy.1
      rw [bitOr_comm, or_bs gy.1 k1.1 (by rw [gb]; exact k1.2), gb, and_bs k2, k3]
    walk_at "m_go"
    all_goals simp only [ei, e9, Int.toNat_natCast, ef, g1] at *
    · exact key _ _ _ (key2 _ rfl) (by walk_at "m_look") (by walk_at "m_look") (by walk_at "m_look") (by walk_at "m_look") (by walk_at "m_look") (by walk_at "m_led")
    · exact key _ _ _ (key2 0 (by rw [List.getD_eq_getElem?_getD, List.getElem?_eq_none (by lia)]; rfl)) (by walk_at "m_look") (by walk_at "m_look") (by walk_at "m_look") (by walk_at "m_look") (by walk_at "m_look") (by walk_at "m_led")
  rintro ρ σ ⟨zs, h1, h2, h3, h4, h5, h6, h7, h8, h9⟩
  rw [show ((P.length : Int) - 0).toNat = P.length by lia] at h8 h9
  have tP : P.take P.length = P := List.take_length
  have t0 : P.getD P.length 0 = 0 := by rw [List.getD_eq_getElem?_getD, List.getElem?_eq_none (by lia)]; rfl
  rw [tP, em, t0, Int.zero_emod, Int.mul_zero, Int.add_zero] at h9
  obtain ⟨e3, _⟩ := div_uniq hf ⟨Int.emod_nonneg _ (by lia), Int.emod_lt_of_pos _ hf⟩ h9
  walk_at "m_go"
  refine opn_pure O (normal_ok G (xs := zs) (by lia)) (by walk_at "m_args") (fun _ h => h.elim) ?_
  rintro _ _ rfl
  exact Bk.pure (by rw [norm_D hb h7, e3]) rfl
set_option maxHeartbeats 1000000 in
theorem bits_ok (G : GOk B (kap.heap_1 w.params)) {v x : Int} (hv : 1 ≤ v ∧ v ≤ 9) : CallG prog w B (d + 1) 126 [.par [x], .int v] pur (fun V _ => V = .int (Builtin.Int.intBits x)) (fun _ => False) := by
  refine call_fn (names := ["a", "w"]) G (by rfl) (by rfl) rfl (by walk_at "m_bind") (by walk_at "m_names") (by decide) rfl rfl rfl ?_
  intro A outer h0 R s0 L O
  walk_at "m_go"
  · exact Bk.pure (by simp) rfl
  · rename_i h; simp at h
end

-- part f09
section
variable {prog : Program} {w : World} {B : Heap} {d : Nat}
set_option maxHeartbeats 1000000 in
theorem exact_small_ok (G : GOk B (kap.heap_1 w.params)) {v m dv : Int} {s : Bool} (hv : 1 ≤ v ∧ v ≤ 9) (hm : Sm m) (hd0 : dv < 2 ^ 20) : CallG prog w B (d + 2) 133 [.tup [.bool s, .lst (D (bs v) m)], .int dv, .int v] pur (fun V _ => V = .tup [.bool s, .lst (D (bs v) (m / dv))] ∧ 0 < dv ∧ m % dv = 0) (fun C => (C = 37 ∧ dv = 0) ∨ (C = 61 ∧ dv < 0) ∨ (C = 49 ∧ 0 < dv ∧ m % dv ≠ 0)) := by
  refine call_fn (names := ["x", "d", "w"]) G (by rfl) (by rfl) rfl (by walk_at "m_bind") (by walk_at "m_names") (by decide) rfl rfl rfl ?_
  intro A outer h0 R s0 L O
  have hb := bs2 hv.1
  have hbh := bs_hi hv.2
  have em := D_val hb hm.pos
  have LP := D_lim hb (n := m)
  have hl := hm.len hb
  generalize eP : D (bs v) m = P at *
  walk_at "m_go"
  · exact .inl ⟨rfl, by assumption⟩
  · exact .inr (.inl ⟨rfl, by assumption⟩)
  rename_i hd1 hd2 a ha
  have hdp : 0 < dv := by lia
  let J : Nat → Rho → Led → Prop := fun i ρ σ => E2 fun zs r => C11 (ρ "x" = some (.tup [.bool s, .lst P])) (ρ "d" = some (.int dv)) (ρ "w" = some (.int v)) (ρ "found" = some (.own a)) (ρ "rest" = some (.int r)) (σ a = some (.li zs)) (i ≤ P.length) ((0 ≤ r ∧ r < dv)) (Lim (bs v) zs) (zs.length = i) (dv * val (bs v) zs.reverse + r = val (bs v) (P.drop (P.length - i)))
  refine ⟨J, ⟨_, 0, by walk_at "m_look", by walk_at "m_look", by walk_at "m_look", by walk_at "m_look", by walk_at "m_look", by walk_at "m_led", by lia, by lia, Lim.nil, rfl, by rw [List.drop_of_length_le (by lia)]; simp [val]⟩, ?_, ?_⟩
  · rintro i ρ σ hi ⟨zs, r, h1, h2, h3, h4, h5, h6, h7, h8, h9, h10, h11⟩
    have ej : P.length - i = P.length - 1 - i + 1 := by lia
    have ek : P.length - (i + 1) = P.length - 1 - i := by lia
    rw [ej] at h11
    have g1 := LP.getD hb (P.length - 1 - i)
    walk_at "m_go"
    obtain ⟨k1, k2, k3⟩ := limb_step (V := val (bs v) zs.reverse) hdp hb h8 g1 rfl
    have hs0 := mul_nonneg' h8.1 (show 0 ≤ bs v by lia)
    have eb : r * 2 ^ v.toNat = r * bs v := rfl
    rw [eb, Int.fdiv_eq_ediv_of_nonneg _ (by lia), Int.fmod_eq_emod_of_nonneg _ (by lia)]
    refine ⟨_, _, by walk_at "m_look", by walk_at "m_look", by walk_at "m_look", by walk_at "m_look", by walk_at "m_look", by walk_at "m_led", by lia, k2, h9.snoc k1.1 k1.2, by simp [h10], ?_⟩
    rw [ek, List.reverse_append, List.reverse_singleton, List.singleton_append, val, k3, h11]
    exact (val_drop (by lia)).symm
  rintro ρ σ ⟨zs, r, h1, h2, h3, h4, h5, h6, h7, h8, h9, h10, h11⟩
  rw [show P.length - P.length = 0 by lia] at h11
  have h12 : dv * val (bs v) zs.reverse + r = m := by rw [← em]; exact h11
  obtain ⟨e1, e2⟩ := div_uniq hdp h8 h12
  walk_at "m_go"
  · exact .inr (.inr ⟨rfl, hdp, by lia⟩)
  refine opn_pure O (normal_ok G (xs := zs.reverse) (by simp; lia)) (by walk_at "m_args") (fun _ h => h.elim) ?_
  rintro _ _ rfl
  walk_at "m_go"
  exact Bk.pure ⟨by rw [norm_D hb h9.rev, e1], hdp, by lia⟩ rfl
end

-- part f10
section
variable {prog : Program} {w : World} {B : Heap} {d : Nat}
theorem val_set {b : Int} : ∀ {xs : List Int} {k : Nat} {x : Int}, k < xs.length → val b (xs.set k x) = val b xs + b ^ k * (x - xs.getD k 0)
  | [], k, x, h => absurd h (Nat.not_lt_zero _)
  | y :: ys, 0, x, h => by simp [val]; lia
  | y :: ys, k + 1, x, h => by
    have := val_set (b := b) (xs := ys) (k := k) (x := x) (by simpa using h)
    rw [List.set_cons_succ, val, val, this, List.getD_cons_succ, Int.pow_succ]
    grind
theorem getD_set_ne {xs : List Int} {i k : Nat} {x : Int} (h : i ≠ k) : (xs.set i x).getD k 0 = xs.getD k 0 := by
  rw [List.getD_eq_getElem?_getD, List.getElem?_set_ne h, ← List.getD_eq_getElem?_getD]
theorem getD_set_eq {xs : List Int} {i : Nat} {x : Int} (h : i < xs.length) : (xs.set i x).getD i 0 = x := by
  rw [List.getD_eq_getElem?_getD, List.getElem?_set_self h]; rfl
theorem getD_rep {k i : Nat} : (List.replicate k (0 : Int)).getD i 0 = 0 := by
  rw [List.getD_eq_getElem?_getD, List.getElem?_replicate]; split <;> rfl
theorem mul_lim {b x y : Int} (hx : 0 ≤ x ∧ x < b) (hy : 0 ≤ y ∧ y < b) : 0 ≤ x * y ∧ x * y ≤ (b - 1) * (b - 1) := ⟨mul_nonneg' hx.1 hy.1, Int.mul_le_mul (by lia) (by lia) hy.1 (by lia)⟩
theorem mul_carry {b c z x y s : Int} (hb : 2 ≤ b) (hc : 0 ≤ c ∧ c < b) (hz : 0 ≤ z ∧ z < b) (hx : 0 ≤ x ∧ x < b) (hy : 0 ≤ y ∧ y < b) (hs : s = c + (z + x * y)) : 0 ≤ s ∧ 0 ≤ s / b ∧ s / b < b := by
  have h1 := mul_lim hx hy
  have h2 : (b - 1) * (b - 1) = b * b - 2 * b + 1 := by grind
  refine ⟨by lia, Int.ediv_nonneg (by lia) (by lia), Int.ediv_lt_of_lt_mul (by lia) (by lia)⟩
theorem set_step {b : Int} {zs : List Int} {k : Nat} (hk : k < zs.length) (s : Int) : val b (zs.set k (s % b)) + b ^ (k + 1) * (s / b) = val b zs + b ^ k * (s - zs.getD k 0) := by
  have e := Int.emod_add_mul_ediv s b
  rw [val_set hk, Int.pow_succ]
  generalize s % b = r at *
  generalize s / b = q at *
  subst e
  grind
set_option maxHeartbeats 1000000 in
theorem mul_school_ok (G : GOk B (kap.heap_1 w.params)) {v m n : Int} (hv : 1 ≤ v ∧ v ≤ 9) (hm : Sm m) (hn : Sm n) : CallG prog w B (d + 2) 140 [.par (D (bs v) m), .par (D (bs v) n), .int v] pur (fun V _ => V = .lst (D (bs v) (m * n))) (fun _ => False) := by
  refine call_fn (names := ["a", "b", "w"]) G (by rfl) (by rfl) rfl (by walk_at "m_bind") (by walk_at "m_names") (by decide) rfl rfl rfl ?_
  intro A outer h0 R s0 L O
  have hb := bs2 hv.1
  have hbh := bs_hi hv.2
  have em := D_val hb hm.pos
  have LP := D_lim hb (n := m)
  have en := D_val hb hn.pos
  have LQ := D_lim hb (n := n)
  have hl := hm.len hb
  have hl' := hn.len hb
  generalize eP : D (bs v) m = P at *
  generalize eQ : D (bs v) n = Q at *
  walk_at "m_go"
  rename_i a0 ha0 a ha
  let I : Nat → Rho → Prop := fun i ρ => C5 (ρ "a" = some (.par P)) (ρ "b" = some (.par Q)) (ρ "w" = some (.int v)) (ρ "mask" = some (.int (1 * 2 ^ v.toNat - 1))) (ρ "found" = some (.own a))
  let J : Nat → Rho → Led → Prop := fun i ρ σ => ∃ zs, C6 (I i ρ) (σ a = some (.li zs)) (Lim (bs v) zs) (zs.length = P.length + Q.length) (val (bs v) zs = val (bs v) (P.take i) * n) (∀ k, i + Q.length ≤ k → zs.getD k 0 = 0)
  refine ⟨J, ⟨_, ⟨by walk_at "m_look", by walk_at "m_look", by walk_at "m_look", by walk_at "m_look", by walk_at "m_look"⟩, by walk_at "m_led", Lim.rep hb _, by simp; lia, by simp [val, val_rep], fun k _ => getD_rep⟩, ?_, ?_⟩
  · rintro i ρ σ hi ⟨zs, ⟨h1, h2, h3, h4, h5⟩, h6, h7, h8, h9, h10⟩
    have gx := LP.getD hb i
    walk_at "m_go"
    let J2 : Nat → Rho → Led → Prop := fun j ρ σ => E2 fun ys c => C10 (I i ρ) (ρ "at" = some (.int i)) (ρ "limb" = some (.int (P.getD i 0))) (ρ "carry" = some (.int c)) (σ a = some (.li ys)) ((0 ≤ c ∧ c < bs v)) (Lim (bs v) ys) (ys.length = P.length + Q.length) ((∀ k, i + Q.length ≤ k → ys.getD k 0 = 0)) (val (bs v) ys + bs v ^ (i + j) * c = val (bs v) zs + bs v ^ i * (P.getD i 0 * val (bs v) (Q.take j)))
    refine ⟨J2, ⟨_, 0, ⟨by walk_at "m_look", by walk_at "m_look", by walk_at "m_look", by walk_at "m_look", by walk_at "m_look"⟩, by walk_at "m_look", by walk_at "m_look", by walk_at "m_look", by walk_at "m_led", by lia, h7, h8, h10, by simp [val]⟩, ?_, ?_⟩
    · clear h1 h2 h3 h4 h5 h6
      rintro j ρ σ hj ⟨ys, c, ⟨h1, h2, h3, h4, h5⟩, a1, a2, a3, a4, a5, a6, a7, a8, a9⟩
      have gy := LQ.getD hb j
      have gz := a6.getD hb (i + j)
      walk_at "m_go"
      rw [show ((i : Int) + j).toNat = i + j by lia]
      obtain ⟨k1, k2, k3⟩ := mul_carry hb a5 gz gx gy rfl
      have k4 := mod_lim hb (c + (ys.getD (i + j) 0 + P.getD i 0 * Q.getD j 0))
      rw [and_bs k1, shr_bs k1]
      refine ⟨_, _, ⟨by walk_at "m_look", by walk_at "m_look", by walk_at "m_look", by walk_at "m_look", by walk_at "m_look"⟩, by walk_at "m_look", by walk_at "m_look", by walk_at "m_look", by walk_at "m_led", ⟨k2, k3⟩, a6.set k4.1 k4.2, by simpa using a7, fun k hk => by rw [getD_set_ne (by lia)]; exact a8 k hk, ?_⟩
      rw [← Nat.add_assoc, set_step (by lia), val_take_succ (xs := Q) (by lia)]
      generalize P.getD i 0 = x at *
      generalize ys.getD (i + j) 0 = z at *
      generalize Q.getD j 0 = y at *
      rw [Int.pow_add] at *
      grind
    clear h1 h2 h3 h4 h5 h6
    rintro ρ σ ⟨ys, c, ⟨h1, h2, h3, h4, h5⟩, a1, a2, a3, a4, a5, a6, a7, a8, a9⟩
    have tQ : Q.take Q.length = Q := List.take_length
    rw [tQ, en] at a9
    walk_at "m_go"
    rw [show ((i : Int) + Q.length).toNat = i + Q.length by lia]
    refine ⟨_, ⟨by walk_at "m_look", by walk_at "m_look", by walk_at "m_look", by walk_at "m_look", by walk_at "m_look"⟩, by walk_at "m_led", a6.set a5.1 a5.2, by simpa using a7, ?_, fun k hk => by rw [getD_set_ne (by lia)]; exact a8 k (by lia)⟩
    rw [val_set (by lia), a8 _ (Nat.le_refl _), val_take_succ (xs := P) (by lia)]
    grind
  rintro ρ σ ⟨zs, ⟨h1, h2, h3, h4, h5⟩, h6, h7, h8, h9, h10⟩
  have tP : P.take P.length = P := List.take_length
  rw [tP, em] at h9
  walk_at "m_go"
  refine opn_pure O (normal_ok G (xs := zs) (by lia)) (by walk_at "m_args") (fun _ h => h.elim) ?_
  rintro _ _ rfl
  exact Bk.pure (by rw [norm_D hb h7, h9]) rfl
end

-- part f11
section
variable {prog : Program} {w : World} {B : Heap} {d : Nat}
set_option maxHeartbeats 1000000 in
theorem divrem_small_ok (G : GOk B (kap.heap_1 w.params)) {v m l : Int} (hv : 1 ≤ v ∧ v ≤ 9) (hm : Sm m) (hl0 : 0 < l ∧ l < bs v) : CallG prog w B (d + 3) 147 [.par (D (bs v) m), .par [l], .int v] pur (fun V _ => V = .tup [.lst (D (bs v) (m / l)), .lst (D (bs v) (m % l))]) (fun _ => False) := by
  refine call_fn (names := ["a", "b", "w"]) G (by rfl) (by rfl) rfl (by walk_at "m_bind") (by walk_at "m_names") (by decide) rfl rfl rfl ?_
  intro A outer h0 R s0 L O
  have hb := bs2 hv.1
  have mk : Frz := trivial
  have k0 := Int.emod_nonneg m (show l ≠ 0 by lia)
  have k1 := Int.emod_lt_of_pos m hl0.1
  walk_at "m_go"
  refine opn_pure O (divrem_limb_ok G hv hm hl0) (ArgsOk.c Arg.same (ArgsOk.c Arg.same (ArgsOk.c Arg.same ArgsOk.n))) (fun _ h => h.elim) ?_
  rintro _ _ rfl
  walk_at "m_go"
  · rename_i hr
    have e : D (bs v) (m % l) = [m % l] := by
      rw [D_pos hb hr, D_zero (n := m % l / bs v) (by rw [Int.ediv_eq_zero_of_lt k0 (by lia)]; lia), Int.emod_eq_of_lt k0 (by lia)]
    exact Bk.pure (by rw [e]) rfl
  · exact Bk.pure (by rw [D_zero (n := m % l) (by lia)]) rfl
theorem gl_init {b hi t0 f s p : Int} (hb : 2 ≤ b) (h0 : 0 ≤ t0 ∧ t0 < b) (hf : 0 < f) (hs : 0 ≤ s) (h : p * (f * b + s) ≤ hi * b + t0) (hp : 0 ≤ p) : p ≤ hi / f := by
  refine (Int.le_ediv_iff_mul_le hf).mpr ?_
  have h1 := mul_nonneg' hp hs
  have h2 : p * f * b < (hi + 1) * b := by rw [Int.mul_add] at h; rw [Int.add_mul, Int.mul_assoc]; lia
  have := Int.lt_of_mul_lt_mul_right h2 (by lia)
  lia
set_option maxHeartbeats 1000000 in
theorem guessed_limb_ok (G : GOk B (kap.heap_1 w.params)) {v t0 t1 t2 f s : Int} (hv : 1 ≤ v ∧ v ≤ 9) (g0 : 0 ≤ t0 ∧ t0 < bs v) (g1 : 0 ≤ t1 ∧ t1 < bs v) (g2 : 0 ≤ t2 ∧ t2 < bs v) (gf : 0 < f ∧ f < bs v) (gs : 0 ≤ s ∧ s < bs v) :
    CallG prog w B (d + 1) 154 [.par [t0, t1, t2], .int f, .int s, .int v] pur (fun V _ => ∃ q, V = .int q ∧ (0 ≤ q ∧ q < bs v) ∧ q * (f * bs v + s) ≤ (t2 * bs v + t1) * bs v + t0 ∧ ∀ p, p < bs v → p * (f * bs v + s) ≤ (t2 * bs v + t1) * bs v + t0 → p ≤ q) (fun _ => False) := by
  refine call_fn (names := ["top", "first", "second", "w"]) G (by rfl) (by rfl) rfl (by walk_at "m_bind") (by walk_at "m_names") (by decide) rfl rfl rfl ?_
  intro A outer h0 R s0 L O
  have hb := bs2 hv.1
  have hbh := bs_hi hv.2
  have e0 : (1 : Int) * 2 ^ v.toNat = bs v := by rw [bs]; lia
  walk_at "m_go"
  · show t2.natAbs < 2 ^ 64; lia
  have eh : Builtin.bitOr ([t0, t1, t2].getD (Int.toNat 2) 0 * 2 ^ v.toNat) ([t0, t1, t2].getD (Int.toNat 1) 0) = t2 * bs v + t1 := or_bs g2.1 g1.1 g1.2
  rw [eh, e0]
  have hh : 0 ≤ t2 * bs v + t1 := by have := mul_nonneg' g2.1 (show 0 ≤ bs v by lia); lia
  generalize eH : t2 * bs v + t1 = H at *
  rw [Int.fdiv_eq_ediv_of_nonneg _ (by lia)]
  have hq0 : 0 ≤ H / f := Int.ediv_nonneg hh (by lia)
  have hq1 : H / f * f ≤ H := Int.ediv_mul_le H (by lia)
  generalize eL : (if bs v - 1 < H / f then bs v - 1 else H / f) = q0
  have hq2 : (0 ≤ q0 ∧ q0 < bs v) ∧ q0 ≤ H / f ∧ (q0 = bs v - 1 ∨ q0 = H / f) := by split at eL <;> lia
  have hq3 : q0 * f ≤ H := by
    have : q0 * f ≤ H / f * f := Int.mul_le_mul_of_nonneg_right hq2.2.1 (by lia)
    lia
  let J : Nat → Rho → Led → Prop := fun k ρ σ => ∃ q, C11 (ρ "top" = some (.par [t0, t1, t2])) (ρ "first" = some (.int f)) (ρ "second" = some (.int s)) (ρ "w" = some (.int v)) (ρ "base" = some (.int (bs v))) (ρ "limb" = some (.int q)) (ρ "rest" = some (.int (H - q * f))) (k = q.toNat) ((0 ≤ q ∧ q < bs v)) (q * f ≤ H) (∀ p, p < bs v → p * (f * bs v + s) ≤ H * bs v + t0 → p ≤ q)
  refine Ex1.whi J q0.toNat ⟨q0, by walk_at "m_look", by walk_at "m_look", by walk_at "m_look", by walk_at "m_look", by walk_at "m_look", by walk_at "m_look", by walk_at "m_look", rfl, hq2.1, hq3, fun p hp h => ?_⟩ ?_
  · by_cases hp0 : 0 ≤ p
    · have := gl_init hb g0 gf.1 gs.1 h hp0
      lia
    · lia
  rintro k ρ σ ⟨q, h1, h2, h3, h4, h5, h6, h7, rfl, h8, h9, h10⟩
  have eo : Builtin.bitOr ((H - q * f) * 2 ^ v.toNat) ([t0, t1, t2].getD (Int.toNat 0) 0) = (H - q * f) * bs v + t0 := or_bs (by lia) g0.1 g0.2
  have e3 : (H - q * f) * bs v = H * bs v - q * (f * bs v) := by grind
  have e4 : q * (f * bs v + s) = q * (f * bs v) + q * s := by grind
  walk_at "m_go"
  · rename_i c1 c2
    rw [eo, e3] at c2
    have hqp : 0 < q := by
      by_cases z : q = 0
      · subst z
        have := mul_nonneg' hh (show 0 ≤ bs v by lia)
        simp at c2; lia
      · lia
    have e5 : H - q * f + f = H - (q - 1) * f := by grind
    have e6 : (q - 1) * f ≤ H := by have : (q - 1) * f = q * f - f := by grind
                                    lia
    refine ⟨_, by lia, q - 1, by walk_at "m_look", by walk_at "m_look", by walk_at "m_look", by walk_at "m_look", by walk_at "m_look", by walk_at "m_look", by rw [← e5]; walk_at "m_look", rfl, by lia, e6, fun p hp h => ?_⟩
    have := h10 p hp h
    by_cases z : p = q
    · subst z; lia
    · lia
  · rename_i c1 c2
    rw [eo, e3] at c2
    exact Bk.pure ⟨q, rfl, h8, by lia, h10⟩ rfl
  · rename_i c1
    have g3 : q * s ≤ (bs v - 1) * (bs v - 1) := Int.mul_le_mul (by lia) (by lia) gs.1 (by lia)
    have g4 : bs v * bs v ≤ (H - q * f) * bs v := Int.mul_le_mul_of_nonneg_right (by lia) (by lia)
    have g5 : (bs v - 1) * (bs v - 1) = bs v * bs v - 2 * bs v + 1 := by grind
    exact Bk.pure ⟨q, rfl, h8, by lia, h10⟩ rfl
end

-- part f12
section
variable {prog : Program} {w : World} {B : Heap} {d : Nat}
theorem Bk.mut {Q : V → Led → Prop} {r : Addr} {rs ys : List Int} {U : V} {σ' : Led} (hs : σ' r = some (.li ys)) (h : Q U σ') (hf : fz U = true) : Bk (upd pur r (.li rs)) Q U σ' :=
  ⟨fun a ob e e' => by
    by_cases q : a = r
    · subst q; rw [hs] at e'; obtain rfl := Option.some.inj e'; rfl
    · exact absurd (by simp [upd, q, pur]) e, U, h, hf, .inl rfl⟩
theorem Bk.mutOwn {Q : V → Led → Prop} {r a : Addr} {rs ys zs : List Int} {σ' : Led} (hs : σ' r = some (.li ys)) (ha : σ' a = some (.li zs)) (hn : a ≠ r) (h : Q (.lst zs) σ') : Bk (upd pur r (.li rs)) Q (.own a) σ' :=
  ⟨fun a ob e e' => by
    by_cases q : a = r
    · subst q; rw [hs] at e'; obtain rfl := Option.some.inj e'; rfl
    · exact absurd (by simp [upd, q, pur]) e, .lst zs, h, rfl, .inr ⟨a, zs, rfl, by simp [upd, hn, pur], ha, rfl⟩⟩
theorem take_step {b x y c z t h : Int} (hb : 2 ≤ b) (hx : 0 ≤ x ∧ x < b) (hy : 0 ≤ y ∧ y < b) (hc : 0 ≤ c ∧ c ≤ b) (hz : 0 ≤ z ∧ z < b) (ht : t = x * y + c) (hh : h = z - t % b) :
    0 ≤ t ∧ (0 ≤ t / b ∧ t / b ≤ b - 1) ∧ h - b * (t / b) = z - t ∧ -b < h ∧ h < b := by
  have h1 := mul_lim hx hy
  have h2 : (b - 1) * (b - 1) = b * b - 2 * b + 1 := by grind
  have h3 := mod_lim hb t
  have e := Int.emod_add_mul_ediv t b
  have h4 : t / b < b := Int.ediv_lt_of_lt_mul (by lia) (by lia)
  exact ⟨by lia, ⟨Int.ediv_nonneg (by lia) (by lia), by lia⟩, by lia, by lia, by lia⟩
theorem drop_set_lt {xs : List Int} {i k : Nat} {x : Int} (h : i < k) : (xs.set i x).drop k = xs.drop k := List.drop_set_of_lt h
theorem getD_drop {xs : List Int} {k : Nat} : xs.getD k 0 = (xs.drop k).getD 0 0 := by
  rw [List.getD_eq_getElem?_getD, List.getD_eq_getElem?_getD, List.getElem?_drop]; rfl
set_option maxHeartbeats 2000000 in
theorem take_away_ok (G : GOk B (kap.heap_1 w.params)) {v lb : Int} {r : Addr} {rs bl : List Int} {k : Nat} (hv : 1 ≤ v ∧ v ≤ 9) (LR : Lim (bs v) rs) (LB : Lim (bs v) bl) (hk : k + bl.length < rs.length) (hz : rs.length < 2 ^ 16) (hlb : 0 ≤ lb ∧ lb < bs v) :
    CallG prog w B (d + 1) 161 [.own r, .par bl, .int lb, .int k, .int v] (upd pur r (.li rs)) (fun V σ' => ∃ ys e, V = .int e ∧ σ' r = some (.li ys) ∧ (e = 0 ∨ e = 1) ∧ Lim (bs v) ys ∧ ys.length = rs.length ∧ val (bs v) ys = val (bs v) rs - bs v ^ k * (lb * val (bs v) bl) + e * bs v ^ (k + bl.length + 1) ∧ ys.drop (k + bl.length + 1) = rs.drop (k + bl.length + 1)) (fun _ => False) := by
  refine call_fn (names := ["rest", "b", "limb", "at", "w"]) G (by rfl) (by rfl) rfl (by walk_at "m_bind") (by walk_at "m_names") (by decide) rfl rfl rfl ?_
  intro A outer h0 R s0 L O
  have hb := bs2 hv.1
  have hbh := bs_hi hv.2
  have e0 : (1 : Int) * 2 ^ v.toNat = bs v := by rw [bs]; lia
  walk_at "m_go"
  let I : Rho → Prop := fun ρ => C6 (ρ "rest" = some (.own r)) (ρ "b" = some (.par bl)) (ρ "limb" = some (.int lb)) (ρ "at" = some (.int k)) (ρ "w" = some (.int v)) (ρ "base" = some (.int (1 * 2 ^ v.toNat)))
  let J : Nat → Rho → Led → Prop := fun j ρ σ => E2 fun ys c => C8 (I ρ) (ρ "carry" = some (.int c)) (σ r = some (.li ys)) ((0 ≤ c ∧ c ≤ bs v)) (Lim (bs v) ys) (ys.length = rs.length) (ys.drop (k + bl.length) = rs.drop (k + bl.length)) (val (bs v) ys + bs v ^ k * (lb * val (bs v) (bl.take j)) = val (bs v) rs + bs v ^ (k + j) * c)
  refine ⟨J, ⟨_, 0, ⟨by walk_at "m_look", by walk_at "m_look", by walk_at "m_look", by walk_at "m_look", by walk_at "m_look", by walk_at "m_look"⟩, by walk_at "m_look", by walk_at "m_led", by lia, LR, rfl, rfl, by simp [val]⟩, ?_, ?_⟩
  · rintro j ρ σ hj ⟨ys, c, ⟨h1, h2, h3, h4, h5, h6⟩, a1, a2, a3, a4, a5, a6, a7⟩
    have gy := LB.getD hb j
    have gz := a4.getD hb (k + j)
    obtain ⟨k1, k2, k3, k4, k5⟩ := take_step (x := lb) (y := bl.getD j 0) (c := c) (z := ys.getD (k + j) 0) hb hlb gy a3 gz rfl rfl
    have ef : (lb * bl.getD j 0 + c).fmod (bs v) = (lb * bl.getD j 0 + c) % bs v := Int.fmod_eq_emod_of_nonneg _ (by lia)
    have ed : (lb * bl.getD j 0 + c).fdiv (bs v) = (lb * bl.getD j 0 + c) / bs v := Int.fdiv_eq_ediv_of_nonneg _ (by lia)
    have ek : ((k : Int) + j).toNat = k + j := by lia
    have key : ∀ h z' c' ρ σ, h = ys.getD (k + j) 0 - (lb * bl.getD j 0 + c) % bs v → ρ "rest" = some (.own r) → ρ "b" = some (.par bl) → ρ "limb" = some (.int lb) → ρ "at" = some (.int k) → ρ "w" = some (.int v) → ρ "base" = some (.int (1 * 2 ^ v.toNat)) → ρ "carry" = some (.int c') → σ r = some (.li (ys.set (k + j) z')) → ((h < 0 ∧ z' = h + bs v ∧ c' = (lb * bl.getD j 0 + c) / bs v + 1) ∨ (¬ h < 0 ∧ z' = h ∧ c' = (lb * bl.getD j 0 + c) / bs v + 0)) → J (j + 1) ρ σ := by
      intro h z' c' ρ σ eh h1 h2 h3 h4 h5 h6 h7 h8 hc
      rw [← eh] at k3 k4 k5
      have e9 : z' - bs v * c' = ys.getD (k + j) 0 - (lb * bl.getD j 0 + c) := by
        rcases hc with ⟨q1, q2, q3⟩ | ⟨q1, q2, q3⟩
        · rw [q2, q3, Int.mul_add]; lia
        · rw [q2, q3, Int.mul_add]; lia
      refine ⟨_, _, ⟨h1, h2, h3, h4, h5, h6⟩, h7, h8, by lia, a4.set (by lia) (by lia), by simpa using a5, by rw [drop_set_lt (by lia)]; exact a6, ?_⟩
      rw [val_set (by lia), val_take_succ (by lia), ← Nat.add_assoc, Int.pow_succ (bs v) (k + j), Int.pow_add] at *
      have e10 : z' - ys.getD (k + j) 0 = bs v * c' - (lb * bl.getD j 0 + c) := by lia
      rw [e10]
      generalize bl.getD j 0 = y at *
      clear e9 e10 hc k1 k2 k3 k4 k5 eh ef ed
      grind
    rw [e0] at *
    walk_at "m_go"
    all_goals rw [ek, ef, ed]
    all_goals exact key _ _ _ _ _ rfl (by walk_at "m_look") (by walk_at "m_look") (by walk_at "m_look") (by walk_at "m_look") (by walk_at "m_look") (by walk_at "m_look") (by walk_at "m_look") (by walk_at "m_led") (by rw [ek, ef] at *; lia)
  rintro ρ σ ⟨ys, c, ⟨h1, h2, h3, h4, h5, h6⟩, a1, a2, a3, a4, a5, a6, a7⟩
  have tB : bl.take bl.length = bl := List.take_length
  rw [tB] at a7
  have gz := a4.getD hb (k + bl.length)
  have ek : ((k : Int) + bl.length).toNat = k + bl.length := by lia
  have key : ∀ h z' e σ, h = ys.getD (k + bl.length) 0 - c → σ r = some (.li (ys.set (k + bl.length) z')) → ((h < 0 ∧ z' = h + bs v ∧ e = 1) ∨ (¬ h < 0 ∧ z' = h ∧ e = 0)) → Bk (upd pur r (.li rs)) (fun V σ' => ∃ ys e, V = .int e ∧ σ' r = some (.li ys) ∧ (e = 0 ∨ e = 1) ∧ Lim (bs v) ys ∧ ys.length = rs.length ∧ val (bs v) ys = val (bs v) rs - bs v ^ k * (lb * val (bs v) bl) + e * bs v ^ (k + bl.length + 1) ∧ ys.drop (k + bl.length + 1) = rs.drop (k + bl.length + 1)) (.int e) σ := by
    intro h z' e σ eh hs hc
    have e9 : z' - ys.getD (k + bl.length) 0 = e * bs v - c := by
      rcases hc with ⟨q1, q2, q3⟩ | ⟨q1, q2, q3⟩
      · rw [q2, q3]; lia
      · rw [q2, q3]; lia
    refine Bk.mut hs ⟨_, e, rfl, hs, by lia, a4.set (by lia) (by lia), by simpa using a5, ?_, ?_⟩ rfl
    · rw [val_set (by lia), e9, Int.pow_succ]
      clear e9 hc eh
      grind
    · rw [drop_set_lt (by lia), ← List.drop_drop, a6, List.drop_drop]
  rw [e0] at *
  walk_at "m_go"
  all_goals exact key _ _ _ _ rfl (by rw [ek]; walk_at "m_led") (by rw [ek] at *; lia)
end

-- part f13
section
variable {prog : Program} {w : World} {B : Heap} {d : Nat}
set_option maxHeartbeats 2000000 in
theorem put_back_ok (G : GOk B (kap.heap_1 w.params)) {v : Int} {r : Addr} {rs bl : List Int} {k : Nat} (hv : 1 ≤ v ∧ v ≤ 9) (LR : Lim (bs v) rs) (LB : Lim (bs v) bl) (hk : k + bl.length < rs.length) (hz : rs.length < 2 ^ 16) :
    CallG prog w B (d + 1) 168 [.own r, .par bl, .int k, .int v] (upd pur r (.li rs)) (fun V σ' => ∃ ys e, V = .none ∧ σ' r = some (.li ys) ∧ (0 ≤ e ∧ e ≤ 1) ∧ Lim (bs v) ys ∧ ys.length = rs.length ∧ val (bs v) ys = val (bs v) rs + bs v ^ k * val (bs v) bl - e * bs v ^ (k + bl.length + 1) ∧ ys.drop (k + bl.length + 1) = rs.drop (k + bl.length + 1)) (fun _ => False) := by
  refine call_fn (names := ["rest", "b", "at", "w"]) G (by rfl) (by rfl) rfl (by walk_at "m_bind") (by walk_at "m_names") (by decide) rfl rfl rfl ?_
  intro A outer h0 R s0 L O
  have hb := bs2 hv.1
  have hbh := bs_hi hv.2
  walk_at "m_go"
  let I : Rho → Prop := fun ρ => C5 (ρ "rest" = some (.own r)) (ρ "b" = some (.par bl)) (ρ "at" = some (.int k)) (ρ "w" = some (.int v)) (ρ "mask" = some (.int (1 * 2 ^ v.toNat - 1)))
  let J : Nat → Rho → Led → Prop := fun j ρ σ => E2 fun ys c => C8 (I ρ) (ρ "carry" = some (.int c)) (σ r = some (.li ys)) ((0 ≤ c ∧ c ≤ 1)) (Lim (bs v) ys) (ys.length = rs.length) (ys.drop (k + bl.length) = rs.drop (k + bl.length)) (val (bs v) ys + bs v ^ (k + j) * c = val (bs v) rs + bs v ^ k * val (bs v) (bl.take j))
  refine ⟨J, ⟨_, 0, ⟨by walk_at "m_look", by walk_at "m_look", by walk_at "m_look", by walk_at "m_look", by walk_at "m_look"⟩, by walk_at "m_look", by walk_at "m_led", by lia, LR, rfl, rfl, by simp [val]⟩, ?_, ?_⟩
  · rintro j ρ σ hj ⟨ys, c, ⟨h1, h2, h4, h5, h6⟩, a1, a2, a3, a4, a5, a6, a7⟩
    have gy := LB.getD hb j
    have gz := a4.getD hb (k + j)
    have ek : ((k : Int) + j).toNat = k + j := by lia
    have g3 := div_two hb (s := c + (ys.getD (k + j) 0 + bl.getD j 0)) (by lia) (by lia)
    have k4 := mod_lim hb (c + (ys.getD (k + j) 0 + bl.getD j 0))
    walk_at "m_go"
    rw [ek, and_bs (by lia), shr_bs (by lia)]
    refine ⟨_, _, ⟨by walk_at "m_look", by walk_at "m_look", by walk_at "m_look", by walk_at "m_look", by walk_at "m_look"⟩, by walk_at "m_look", by walk_at "m_led", g3, a4.set k4.1 k4.2, by simpa using a5, by rw [drop_set_lt (by lia)]; exact a6, ?_⟩
    rw [← Nat.add_assoc, set_step (by lia), val_take_succ (by lia)]
    generalize bl.getD j 0 = y at *
    generalize ys.getD (k + j) 0 = z at *
    clear g3 k4
    rw [Int.pow_add] at *
    grind
  rintro ρ σ ⟨ys, c, ⟨h1, h2, h4, h5, h6⟩, a1, a2, a3, a4, a5, a6, a7⟩
  have tB : bl.take bl.length = bl := List.take_length
  rw [tB] at a7
  have gz := a4.getD hb (k + bl.length)
  have ek : ((k : Int) + bl.length).toNat = k + bl.length := by lia
  have g3 := div_two hb (s := ys.getD (k + bl.length) 0 + c) (by lia) (by lia)
  have k4 := mod_lim hb (ys.getD (k + bl.length) 0 + c)
  have k5 := set_step (b := bs v) (zs := ys) (k := k + bl.length) (by lia) (ys.getD (k + bl.length) 0 + c)
  walk_at "m_go"
  rw [ek, and_bs (by lia)]
  refine Bk.mut (by walk_at "m_led") ⟨_, (ys.getD (k + bl.length) 0 + c) / bs v, rfl, by walk_at "m_led", g3, a4.set k4.1 k4.2, by simpa using a5, ?_, ?_⟩ rfl
  · generalize (ys.getD (k + bl.length) 0 + c) % bs v = m at *
    generalize (ys.getD (k + bl.length) 0 + c) / bs v = q at *
    clear k4 g3
    grind
  · rw [drop_set_lt (by lia), ← List.drop_drop, a6, List.drop_drop]
end

-- part f14
section
variable {prog : Program} {w : World} {B : Heap} {d : Nat}
section
variable {K : Frag} {F : FC} {ρ : Rho} {σ : Led} {X X' : Addr → Prop} {Q : V → Led → Prop}
theorem opn_mut (O : FOk B d F) {q r : Addr} {rs : List Int} {args args' : List V} {Q' : V → Led → Prop} (hr : σ r = some (.li rs)) (C : CallG prog w B d q args' (upd pur r (.li rs)) Q' X') (ha : ArgsOk σ (upd pur r (.li rs)) args args') (hX : ∀ C, X' C → X C)
    (k : ∀ V σ', Q' V σ' → ∃ ob, σ' r = some ob ∧ Q V (upd σ r ob)) : OpN prog w B F (fun us => call (.ref q) us) args ρ σ X Q := by
  have aux : ∀ a ob, upd pur r (Ob.li rs) a = some ob → a = r ∧ ob = .li rs := fun a ob e => by
    by_cases z : a = r
    · subst z; simp [upd] at e; exact ⟨rfl, e.symm⟩
    · simp [upd, z, pur] at e
  refine opn_call O C (fun a ob e => ?_) (fun a ob e => ?_) ha hX fun V σ' q => ?_
  · obtain ⟨rfl, rfl⟩ := aux a ob e; exact hr
  · obtain ⟨rfl, rfl⟩ := aux a ob e; rfl
  · obtain ⟨ob, h1, h2⟩ := k V σ' q
    have : mrg σ (upd pur r (Ob.li rs)) σ' = upd σ r ob := by
      funext a
      by_cases z : a = r
      · subst z; simp [mrg, upd, h1]
      · simp [mrg, upd, z, pur]
    rw [this]; exact h2
end
theorem take3 {xs : List Int} {k : Nat} (h : k + 2 < xs.length) : (xs.drop k).take 3 = [xs.getD k 0, xs.getD (k + 1) 0, xs.getD (k + 2) 0] := by
  rw [drop_get (by lia), drop_get (k := k + 1) (by lia), drop_get (k := k + 1 + 1) (by lia)]; rfl
set_option maxHeartbeats 2000000 in
theorem divide_rows_ok (G : GOk B (kap.heap_1 w.params)) {v : Int} {r : Addr} {rs bl : List Int} {c : Nat} (hv : 1 ≤ v ∧ v ≤ 9) (LR : Lim (bs v) rs) (LB : Lim (bs v) bl) (hc : bl.length = c + 2) (hf : 1 ≤ bl.getD (c + 1) 0) (hk : bl.length < rs.length) (hz : rs.length < 2 ^ 16) (hW : val (bs v) rs < bs v ^ (rs.length - bl.length) * val (bs v) bl) :
    CallG prog w B (d + 2) 175 [.own r, .par bl, .int v] (upd pur r (.li rs)) (fun V σ' => ∃ zs ys, V = .lst zs ∧ σ' r = some (.li ys) ∧ Lim (bs v) zs ∧ zs.length = rs.length - bl.length ∧ Lim (bs v) ys ∧ ys.length = rs.length ∧ val (bs v) rs = val (bs v) zs * val (bs v) bl + val (bs v) ys ∧ 0 ≤ val (bs v) ys ∧ val (bs v) ys < val (bs v) bl) (fun _ => False) := by
  refine call_fn (names := ["rest", "b", "w"]) G (by rfl) (by rfl) rfl (by walk_at "m_bind") (by walk_at "m_names") (by decide) rfl rfl rfl ?_
  intro A outer h0 R s0 L O
  have hb := bs2 hv.1
  have hbh := bs_hi hv.2
  walk_at "m_go"
  rename_i a0 ha0 a ha
  have har : a ≠ r := (ne_some ha (by walk_at "m_led")).symm
  let I : Rho → Prop := fun ρ => C5 (ρ "rest" = some (.own r)) (ρ "b" = some (.par bl)) (ρ "w" = some (.int v)) (ρ "size" = some (.int bl.length)) (ρ "quotient" = some (.own a))
  let J : Nat → Rho → Led → Prop := fun i ρ σ => E2 fun zs ys => C10 (I ρ) (σ a = some (.li zs)) (σ r = some (.li ys)) (i ≤ rs.length - bl.length) (Lim (bs v) zs) (zs.length = rs.length - bl.length) (Lim (bs v) ys) (ys.length = rs.length) (val (bs v) rs = bs v ^ (rs.length - bl.length - i) * (val (bs v) (zs.drop (rs.length - bl.length - i)) * val (bs v) bl) + val (bs v) ys) (val (bs v) ys < bs v ^ (rs.length - bl.length - i) * val (bs v) bl)
  refine ⟨J, ⟨_, _, ⟨by walk_at "m_look", by walk_at "m_look", by walk_at "m_look", by walk_at "m_look", by walk_at "m_look"⟩, by walk_at "m_led", by walk_at "m_led", by lia, Lim.rep hb _, by simp, LR, rfl, by rw [List.drop_of_length_le (by simp)]; simp [val], hW⟩, ?_, ?_⟩
  · rintro i ρ σ hi ⟨zs, ys, ⟨h1, h2, h3, h4, h5⟩, a1, a2, a3, a4, a5, a6, a7, a8, a9⟩
    obtain ⟨k, hkk⟩ : ∃ k, rs.length - bl.length - i = k + 1 := ⟨rs.length - bl.length - i - 1, by lia⟩
    rw [hkk] at a8 a9
    have ek : (rs.length : Int) - bl.length - 1 - i = k := by lia
    have g0 := a6.getD hb (k + c)
    have g1 := a6.getD hb (k + c + 1)
    have g2 := a6.getD hb (k + c + 2)
    have b0 := LB.getD hb c
    have b1 := LB.getD hb (c + 1)
    have esl : (ys.drop (kms_lo (some ((k : Int) + bl.length - 2)) ys.length)).take (kms_hi (some ((k : Int) + bl.length + 1)) ys.length - kms_lo (some ((k : Int) + bl.length - 2)) ys.length) = [ys.getD (k + c) 0, ys.getD (k + c + 1) 0, ys.getD (k + c + 2) 0] := by
      rw [show (k : Int) + bl.length - 2 = ((k + c : Nat) : Int) by lia, show (k : Int) + bl.length + 1 = ((k + c + 3 : Nat) : Int) by lia, slc (by lia), show k + c + 3 - (k + c) = 3 by lia, take3 (by lia)]
    have ef : bl.getD ((bl.length : Int) - 1).toNat 0 = bl.getD (c + 1) 0 := by congr 1; lia
    have es : bl.getD ((bl.length : Int) - 2).toNat 0 = bl.getD c 0 := by congr 1; lia
    show Ex _ _ _ _ _ (sets ρ ["at"] [V.int ((rs.length : Int) - bl.length - 1 - i)]) _ _ _ _
    rw [ek]
    walk_at "m_go"
    rw [esl, ef, es]
    refine opn_pure O (guessed_limb_ok G hv g0 g1 g2 ⟨by lia, b1.2⟩ b0) (by walk_at "m_args") (fun _ h => h.elim) ?_
    rintro _ _ ⟨g, rfl, gl, gh1, gh2⟩
    obtain ⟨low, W, eW, hlow, hV0, hq, hr, hgq, htop⟩ := dr_guess hb LB a6 hc hf (by lia) a9 gl gh1 gh2
    walk_at "m_go"
    refine opn_mut O (by walk_at "m_led") (take_away_ok G (rs := ys) (k := k) (r := r) hv a6 LB (by lia) (by lia) gl) (by walk_at "m_args") (fun _ h => h.elim) ?_
    rintro _ σ' ⟨y1, e, rfl, s1, he, L1, l1, v1, d1⟩
    refine ⟨_, s1, ?_⟩
    rw [hc] at v1 d1
    rw [← d1] at htop
    have lt1 := val_lt_top hb L1 (by lia) htop
    have nn1 := val_nonneg hb L1
    have hK := pow_pos' hb k
    generalize hVV : val (bs v) bl = VV at *
    have key : ∀ y2 q ρ σ, q = W / VV → ρ "rest" = some (.own r) → ρ "b" = some (.par bl) → ρ "w" = some (.int v) → ρ "size" = some (.int bl.length) → ρ "quotient" = some (.own a) → σ a = some (.li (zs.set k q)) → σ r = some (.li y2) → Lim (bs v) y2 → y2.length = rs.length → val (bs v) y2 = low + bs v ^ k * W - bs v ^ k * (q * VV) → J (i + 1) ρ σ := by
      intro y2 q ρ σ eq h1 h2 h3 h4 h5 p1 p2 p3 p4 p5
      rw [← eq] at hr hq
      have p6 := dr_ok hb hK hlow hr p5
      have ek2 : rs.length - bl.length - (i + 1) = k := by lia
      refine ⟨_, _, ⟨h1, h2, h3, h4, h5⟩, p1, p2, by lia, a4.set hq.1 hq.2, by simpa using a5, p3, p4, ?_, ?_⟩
      · rw [ek2, set_drop (by lia), val, p5, a8, eW, Int.pow_succ]
        clear hq hr p6 hgq v1 lt1 nn1 hlow a9
        grind
      · rw [ek2, hVV]; exact p6.2
    walk_at "m_go"
    · rename_i he1
      subst he1
      -- the guess was one too high
      have hg1 : g = W / VV + 1 := by
        rcases hgq with z | z
        · exfalso
          rw [z] at v1
          have := dr_ok hb hK hlow hr rfl
          rw [Int.one_mul] at v1
          lia
        · exact z
      refine opn_mut O (by walk_at "m_led") (put_back_ok G (rs := y1) (k := k) (r := r) hv L1 LB (by lia) (by lia)) (by walk_at "m_args") (fun _ h => h.elim) ?_
      rintro _ σ2 ⟨y2, e2, rfl, s2, he2, L2, l2, v2, d2⟩
      refine ⟨_, s2, ?_⟩
      rw [hc] at v2 d2
      rw [← d2] at htop
      have lt2 := val_lt_top hb L2 (by lia) htop
      have hP := pow_pos' hb (k + (c + 2) + 1)
      have e5 : bs v ^ k * (g * VV) = bs v ^ k * (W / VV * VV) + bs v ^ k * VV := by rw [hg1]; grind
      have e6 := dr_ok hb hK hlow hr rfl
      have e7 : e2 = 1 := by
        by_cases z : e2 = 1
        · exact z
        · obtain rfl : e2 = 0 := by lia
          rw [hVV, Int.zero_mul] at v2
          rw [Int.one_mul] at v1
          lia
      subst e7
      walk_at "m_go"
      rw [Int.toNat_natCast]
      refine key y2 (g - 1) _ _ (by lia) (by walk_at "m_look") (by walk_at "m_look") (by walk_at "m_look") (by walk_at "m_look") (by walk_at "m_look") (by walk_at "m_led") (by walk_at "m_led") L2 (by lia) ?_
      rw [show g - 1 = W / VV by lia, v2, v1, hVV, e5, eW]
      lia
    · have e8 : e = 0 := by lia
      subst e8
      rw [Int.zero_mul] at v1
      have hg1 : g = W / VV := by
        rcases hgq with z | z
        · exact z
        · exfalso
          rw [z] at v1
          have := dr_neg hK hlow hr.2
          lia
      rw [Int.toNat_natCast]
      exact key y1 _ _ _ hg1 (by walk_at "m_look") (by walk_at "m_look") (by walk_at "m_look") (by walk_at "m_look") (by walk_at "m_look") (by walk_at "m_led") (by walk_at "m_led") L1 (by lia) (by rw [v1, eW]; lia)
  rintro ρ σ ⟨zs, ys, ⟨h1, h2, h3, h4, h5⟩, a1, a2, a3, a4, a5, a6, a7, a8, a9⟩
  have ez : rs.length - bl.length - ((rs.length : Int) - bl.length - 1 + 1).toNat = 0 := by lia
  rw [ez] at a8 a9
  simp only [List.drop_zero, Int.pow_zero, Int.one_mul] at a8 a9
  walk_at "m_go"
  exact Bk.mutOwn a2 a1 har ⟨zs, ys, rfl, a2, a4, a5, a6, a7, a8, val_nonneg hb a6, a9⟩
end

-- part f15
section
variable {prog : Program} {w : World} {B : Heap} {d : Nat}
set_option maxHeartbeats 2000000 in
theorem divrem_school_ok (G : GOk B (kap.heap_1 w.params)) {v m n : Int} (hv : 1 ≤ v ∧ v ≤ 9) (hm : Sq m) (hn : Sq n) (hn0 : 0 < n) :
    CallG prog w B (d + 4) 182 [.par (D (bs v) m), .par (D (bs v) n), .int v] pur (fun V _ => V = .tup [.lst (D (bs v) (m / n)), .lst (D (bs v) (m % n))]) (fun _ => False) := by
  refine call_fn (names := ["a", "b", "w"]) G (by rfl) (by rfl) rfl (by walk_at "m_bind") (by walk_at "m_names") (by decide) rfl rfl rfl ?_
  intro A outer h0 R s0 L O
  have hb := bs2 hv.1
  have hbh := bs_hi hv.2
  have mk : Frz := trivial
  have hl := hm.sm.len hb
  have hl' := hn.sm.len hb
  have hm0 := hm.pos
  obtain ⟨j, hj⟩ : ∃ j, (D (bs v) n).length = j + 1 := by rw [D_pos hb hn0]; exact ⟨_, rfl⟩
  walk_at "m_go"
  · lia
  refine opn_pure O (compare_ok G hb hm.sm hn.sm) (by walk_at "m_args") (fun _ h => h.elim) ?_
  rintro _ _ rfl
  have hcmp : cmp m n < 0 ↔ m < n := by rw [cmp]; split <;> (try split) <;> lia
  walk_at "m_go"
  · rename_i h
    rw [slcN]
    exact Bk.pure (by rw [D_zero (n := m / n) (by rw [Int.ediv_eq_zero_of_lt hm0 (hcmp.mp h)]; lia), Int.emod_eq_of_lt hm0 (hcmp.mp h)]) rfl
  · rename_i h
    obtain rfl : j = 0 := by lia
    have eV := D_val hb hn.pos
    obtain ⟨x, hx⟩ : ∃ x, D (bs v) n = [x] := List.length_eq_one_iff.mp hj
    have exn : x = n := by rw [hx] at eV; simpa [val] using eV
    subst exn
    have lx := D_lim hb (n := x) x (by rw [hx]; exact List.mem_singleton_self x)
    rw [hx]
    refine opn_pure O (divrem_small_ok G hv hm.sm ⟨hn0, lx.2⟩) (by walk_at "m_args") (fun _ h => h.elim) ?_
    rintro _ _ rfl
    exact Bk.pure rfl rfl
  rename_i hlt hl1
  have hmn : n ≤ m := by
    by_cases z : m < n
    · exact absurd (hcmp.mpr z) hlt
    · lia
  have hla := D_len_mono hb hmn
  have t1 := top_pos hb hj
  have t2 := (D_lim hb (n := n)).getD hb j
  have et : (D (bs v) n).getD (-1 + ((D (bs v) n).length : Int)).toNat 0 = (D (bs v) n).getD j 0 := by congr 1; lia
  rw [et]
  obtain ⟨k0, k1, k2⟩ := bits_of (v := v.toNat) t1 t2.2
  refine opn_pure O (bits_ok G (x := (D (bs v) n).getD j 0) hv) (by walk_at "m_args") (fun _ h => h.elim) ?_
  rintro _ _ rfl
  have hsh : ((D (bs v) n).getD j 0 + 1) * 2 ^ (v - (Builtin.Int.intBits ((D (bs v) n).getD j 0) : Int)).toNat ≤ bs v := by
    have a1 := pow_pos' (b := 2) (by decide) (v - (Builtin.Int.intBits ((D (bs v) n).getD j 0) : Int)).toNat
    have a2 : ((D (bs v) n).getD j 0 + 1) * 2 ^ (v - (Builtin.Int.intBits ((D (bs v) n).getD j 0) : Int)).toNat ≤ 2 ^ Builtin.Int.intBits ((D (bs v) n).getD j 0) * 2 ^ (v - (Builtin.Int.intBits ((D (bs v) n).getD j 0) : Int)).toNat := Int.mul_le_mul_of_nonneg_right k2 (by lia)
    rw [← Int.pow_add, show Builtin.Int.intBits ((D (bs v) n).getD j 0) + (v - (Builtin.Int.intBits ((D (bs v) n).getD j 0) : Int)).toNat = v.toNat by lia] at a2
    exact a2
  have hs0 : 0 ≤ v - (Builtin.Int.intBits ((D (bs v) n).getD j 0) : Int) ∧ v - (Builtin.Int.intBits ((D (bs v) n).getD j 0) : Int) < v := by lia
  walk_at "m_go"
  generalize v - (Builtin.Int.intBits ((D (bs v) n).getD j 0) : Int) = sh at *
  have hS := pow_pos' (b := 2) (by decide) sh.toNat
  have lB := sh_len hb hn.pos hj hsh
  have hSb : (2 : Int) ^ sh.toNat ≤ bs v := pow_le_pow' (b := 2) (by decide) (by lia)
  have lA := sh_len2 hb hm.pos hSb
  refine opn_pure O (shift_left_ok G (n := sh) hv hn.sm (by lia)) (by walk_at "m_args") (fun _ h => h.elim) ?_
  rintro _ _ rfl
  walk_at "m_go"
  refine opn_pure O (shift_left_ok G (n := sh) hv hm.sm (by lia)) (by walk_at "m_args") (fun _ h => h.elim) ?_
  rintro _ _ rfl
  walk_at "m_go"
  rename_i c hc
  have hT := pow_pos' hb
  have LA := D_lim hb (n := m * 2 ^ sh.toNat)
  have LD := D_lim hb (n := n * 2 ^ sh.toNat)
  have vA := D_val hb (n := m * 2 ^ sh.toNat) (mul_nonneg' hm0 (by lia))
  have vD := D_val hb (n := n * 2 ^ sh.toNat) (mul_nonneg' hn.pos (by lia))
  have tD := top_pos hb lB
  have hwin := win_ok hb (m := m) (n := n) (la := (D (bs v) m).length) (j := j) hS (D_lt hb hm0) (D_lower hb j hj) (by lia)
  obtain ⟨i, rfl⟩ : ∃ i, j = i + 1 := ⟨j - 1, by lia⟩
  generalize eR : D (bs v) (m * 2 ^ sh.toNat) ++ List.replicate (((D (bs v) m).length : Int) + 1 - ((D (bs v) (m * 2 ^ sh.toNat)).length : Int)).toNat 0 = RR at *
  have lR : RR.length = (D (bs v) m).length + 1 := by rw [← eR, List.length_append, List.length_replicate]; lia
  have LR : Lim (bs v) RR := by rw [← eR]; exact LA.app (Lim.rep hb _)
  have vR : val (bs v) RR = m * 2 ^ sh.toNat := by rw [← eR, val_app, val_rep, vA]; lia
  have hW : val (bs v) RR < bs v ^ (RR.length - (D (bs v) (n * 2 ^ sh.toNat)).length) * val (bs v) (D (bs v) (n * 2 ^ sh.toNat)) := by
    rw [vR, vD, lR, lB]
    with_reducible exact hwin
  refine opn_mut O (by walk_at "m_led") (divide_rows_ok G (rs := RR) (r := c) (c := i) hv LR LD lB tD (by lia) (by lia) hW) (by walk_at "m_args") (fun _ h => h.elim) ?_
  rintro _ σ' ⟨zs, ys, rfl, s1, Lz, lz, Ly, ly, ev, y0, y1⟩
  refine ⟨_, s1, ?_⟩
  rw [vR, vD] at ev
  rw [vD] at y1
  obtain ⟨d1, d2⟩ := div_back hS hn0 ev y0 y1
  walk_at "m_go"
  refine opn_pure O (normal_ok G (xs := zs) (by lia)) (by walk_at "m_args") (fun _ h => h.elim) ?_
  rintro _ _ rfl
  walk_at "m_go"
  refine opn_pure O (normal_ok G (xs := ys) (by lia)) (by walk_at "m_args") (fun _ h => h.elim) ?_
  rintro _ _ rfl
  walk_at "m_go"
  have hy : Sm (val (bs v) ys) := ⟨y0, Int.lt_of_lt_of_le y1 (Int.le_of_lt (hn.shl (s := sh.toNat) (by lia)).hi)⟩
  rw [norm_D hb Ly]
  refine opn_pure O (shift_right_ok G (n := sh) hv hy hs0) (by walk_at "m_args") (fun _ h => h.elim) ?_
  rintro _ _ rfl
  walk_at "m_go"
  exact Bk.pure (by rw [norm_D hb Lz, d1, d2]) rfl
end

-- part f16
section
variable {prog : Program} {w : World} {B : Heap} {d : Nat}
noncomputable def prd (xs : List Int) : Int := xs.foldr (· * ·) 1
theorem prd_app (xs ys : List Int) : prd (xs ++ ys) = prd xs * prd ys := by
  induction xs with
  | nil => simp [prd]
  | cons x xs ih => simp only [prd, List.cons_append, List.foldr_cons] at ih ⊢; rw [ih]; grind
theorem D_one {b : Int} (hb : 2 ≤ b) : D b 1 = [1] := by
  rw [D_pos hb (by decide), D_zero (n := 1 / b) (by rw [Int.ediv_eq_zero_of_lt (by decide) (by lia)]; decide), Int.emod_eq_of_lt (by decide) (by lia)]
theorem prd_lim {k : Nat} : ∀ {xs : List Int}, (∀ x ∈ xs, 0 ≤ x ∧ x < 2 ^ 20) → xs.length ≤ k → 0 ≤ prd xs ∧ prd xs ≤ (2 ^ 20) ^ k
  | [], _, _ => ⟨by simp [prd], by have := pow_pos' (b := 2 ^ 20) (by decide) k; show (1 : Int) ≤ _; lia⟩
  | x :: xs, h, hl => by
    cases k with
    | zero => simp at hl
    | succ k =>
      obtain ⟨i1, i2⟩ := prd_lim (k := k) (xs := xs) (fun y hy => h y (.tail _ hy)) (by simpa using hl)
      have hx := h x (.head _)
      have e : prd (x :: xs) = x * prd xs := rfl
      rw [e]
      refine ⟨mul_nonneg' hx.1 i1, ?_⟩
      rw [Int.pow_succ, Int.mul_comm]
      exact Int.mul_le_mul i2 (by lia) hx.1 (Int.le_trans i1 i2)
theorem prd_sm {xs : List Int} (h : ∀ x ∈ xs, 0 ≤ x ∧ x < 2 ^ 20) (hl : xs.length ≤ 20) : Sm (prd xs) := by
  obtain ⟨a, b⟩ := prd_lim h hl
  refine ⟨a, Int.lt_of_le_of_lt b ?_⟩
  decide
theorem sl_lo {xs : List Int} {h : Nat} (hh : h ≤ xs.length) {z : Int} (hz : z = (h : Int)) : (xs.drop (kms_lo none xs.length)).take (kms_hi (some z) xs.length - kms_lo none xs.length) = xs.take h := by
  subst hz
  have e : kms_hi (some (h : Int)) xs.length = h := by simp only [kms_hi]; rw [if_neg (by lia)]; lia
  rw [e]; simp [kms_lo]
theorem sl_hi {xs : List Int} {h : Nat} (hh : h ≤ xs.length) {z : Int} (hz : z = (h : Int)) : (xs.drop (kms_lo (some z) xs.length)).take (kms_hi none xs.length - kms_lo (some z) xs.length) = xs.drop h := by
  subst hz
  have e : kms_lo (some (h : Int)) xs.length = h := by simp only [kms_lo]; rw [if_neg (by lia)]; lia
  rw [e]; simp only [kms_hi]
  exact List.take_of_length_le (by simp)
set_option maxHeartbeats 1000000 in
theorem product_ok (G : GOk B (kap.heap_1 w.params)) {v : Int} (hv : 1 ≤ v ∧ v ≤ 9) : ∀ (k : Nat) (xs : List Int), (∀ x ∈ xs, 0 ≤ x ∧ x < 2 ^ 20) → xs.length ≤ k + 1 → k < 20 →
    CallG prog w B (d + k + 3) 189 [.par xs, .int v, .fn 140] pur (fun V _ => V = .lst (D (bs v) (prd xs))) (fun _ => False) := by
  intro k
  induction k using Nat.strongRecOn with
  | _ k ih =>
  intro xs hx hl hk
  refine call_fn (names := ["some", "w", "mul"]) G (by rfl) (by rfl) rfl (by walk_at "m_bind") (by walk_at "m_names") (by decide) rfl rfl rfl ?_
  intro A outer h0 R s0 L O
  have hb := bs2 hv.1
  have mk : Frz := trivial
  walk_at "m_go"
  · rename_i h0
    refine Bk.pure ?_ rfl
    have e : xs = [] := List.length_eq_zero_iff.mp (by lia)
    rw [e]; exact congrArg _ (D_one hb).symm
  · rename_i h0 h1
    obtain ⟨x, rfl⟩ := List.length_eq_one_iff.mp (show xs.length = 1 by lia)
    have hx1 := hx x (.head _)
    refine opn_pure O (nat_of_ok G (n := x) hv ⟨hx1.1, Int.lt_trans hx1.2 (by decide)⟩) (ArgsOk.c Arg.same (ArgsOk.c Arg.same ArgsOk.n)) (fun _ h => h.elim) ?_
    rintro _ _ rfl
    exact Bk.pure (by simp [prd]) rfl
  rename_i h0 h1
  obtain ⟨j, rfl⟩ : ∃ j, k = j + 1 := ⟨k - 1, by lia⟩
  have ez : (xs.length : Int).fdiv 2 = ((xs.length / 2 : Nat) : Int) := by rw [Int.fdiv_eq_ediv_of_nonneg _ (by decide)]; lia
  have t1 : ∀ x ∈ xs.take (xs.length / 2), 0 ≤ x ∧ x < 2 ^ 20 := fun x h => hx x (List.mem_of_mem_take h)
  have t2 : ∀ x ∈ xs.drop (xs.length / 2), 0 ≤ x ∧ x < 2 ^ 20 := fun x h => hx x (List.mem_of_mem_drop h)
  have l1 : (xs.take (xs.length / 2)).length ≤ j + 1 := by rw [List.length_take]; lia
  have l2 : (xs.drop (xs.length / 2)).length ≤ j + 1 := by rw [List.length_drop]; lia
  rw [sl_lo (h := xs.length / 2) (by lia) ez]
  refine opn_pure O (ih j (by lia) _ t1 l1 (by lia)) (by walk_at "m_args") (fun _ h => h.elim) ?_
  rintro _ _ rfl
  walk_at "m_go"
  rw [sl_hi (h := xs.length / 2) (by lia) ez]
  refine opn_pure O (ih j (by lia) _ t2 l2 (by lia)) (by walk_at "m_args") (fun _ h => h.elim) ?_
  rintro _ _ rfl
  walk_at "m_go"
  refine opn_pure O (mul_school_ok G hv (prd_sm t1 (by lia)) (prd_sm t2 (by lia))) (by walk_at "m_args") (fun _ h => h.elim) ?_
  rintro _ _ rfl
  exact Bk.pure (by rw [← prd_app, List.take_append_drop]) rfl
noncomputable def sg (s : Bool) (n : Int) : Int := if s then -n else n
/-- a number with its sign -/
noncomputable def S (b z : Int) : V := .tup [.bool (decide (z < 0)), .lst (D b z.natAbs)]
theorem S_sg {b : Int} {s : Bool} {n : Int} (hb : 2 ≤ b) (hn : 0 ≤ n) : V.tup [.bool (s && decide (0 < n)), .lst (D b n)] = S b (sg s n) := by
  have e : ((sg s n).natAbs : Int) = n := by unfold sg; split <;> lia
  unfold S
  rw [e]
  congr 3
  cases s <;> simp [sg] <;> lia
theorem D_len_pos {b n : Int} (hb : 2 ≤ b) : (0 < (D b n).length) ↔ 0 < n := by
  constructor
  · intro h
    by_cases z : 0 < n
    · exact z
    · rw [D_zero (by lia)] at h; simp at h
  · intro h; rw [D_pos hb h]; simp
theorem signed_ok (G : GOk B (kap.heap_1 w.params)) {b n : Int} {s : Bool} (hb : 2 ≤ b) (hn : Sm n) : CallG prog w B (d + 1) 196 [.bool s, .lst (D b n)] pur (fun V _ => V = S b (sg s n)) (fun _ => False) := by
  refine call_fn (names := ["is_below", "nat"]) G (by rfl) (by rfl) rfl (by walk_at "m_bind") (by walk_at "m_names") (by decide) rfl rfl rfl ?_
  intro A outer h0 R s0 L O
  have hl := hn.len hb
  walk_at "m_go"
  cases s with
  | false =>
    walk_at "m_go"
    exact Bk.pure (by rw [← S_sg hb hn.pos, Bool.false_and]) rfl
  | true =>
    walk_at "m_go"
    refine Bk.pure ?_ rfl
    rw [← S_sg hb hn.pos, Bool.true_and]
    congr 3
    have := D_len_pos (n := n) hb
    rw [decide_eq_decide]
    lia
theorem s_add_ok (G : GOk B (kap.heap_1 w.params)) {v m n : Int} {s t : Bool} (hv : 1 ≤ v ∧ v ≤ 9) (hm : Sm m) (hn : Sm n) (hmn : Sm (m + n)) : CallG prog w B (d + 3) 203 [.tup [.bool s, .lst (D (bs v) m)], .tup [.bool t, .lst (D (bs v) n)], .int v] pur (fun V _ => V = S (bs v) (sg s m + sg t n)) (fun _ => False) := by
  refine call_fn (names := ["x", "y", "w"]) G (by rfl) (by rfl) rfl (by walk_at "m_bind") (by walk_at "m_names") (by decide) rfl rfl rfl ?_
  intro A outer h0 R s0 L O
  have hb := bs2 hv.1
  have sdl : ∀ {m n : Int}, Sm m → Sm n → n ≤ m → Sm (m - n) := fun h h' q => ⟨by lia, by have := h.hi; have := h'.pos; lia⟩
  walk_at "m_go"
  by_cases e : s = t
  · subst e
    rw [beq_self_eq_true]
    walk_at "m_go"
    refine opn_pure O (add_ok G hv hm hn) (by walk_at "m_args") (fun _ h => h.elim) ?_
    rintro _ _ rfl
    walk_at "m_go"
    refine opn_pure O (signed_ok G hb hmn) (by walk_at "m_args") (fun _ h => h.elim) ?_
    rintro _ _ rfl
    exact Bk.pure (by congr 1; unfold sg; split <;> lia) rfl
  · rw [beq_eq_false_iff_ne.mpr e]
    walk_at "m_go"
    refine opn_pure O (compare_ok G hb hm hn) (by walk_at "m_args") (fun _ h => h.elim) ?_
    rintro _ _ rfl
    walk_at "m_go"
    · rename_i hc
      have hlt : m < n := by
        by_cases z : m < n
        · exact z
        · exfalso; unfold cmp at hc; rw [if_neg z] at hc; split at hc <;> lia
      refine opn_pure O (sub_ok G hv hn hm (by lia)) (by walk_at "m_args") (fun _ h => h.elim) ?_
      rintro _ _ rfl
      walk_at "m_go"
      refine opn_pure O (signed_ok G hb (sdl hn hm (by lia))) (by walk_at "m_args") (fun _ h => h.elim) ?_
      rintro _ _ rfl
      exact Bk.pure (by congr 1; cases s <;> cases t <;> simp [sg] at e ⊢ <;> lia) rfl
    · rename_i hc
      have hge : n ≤ m := by
        by_cases z : m < n
        · exfalso; apply hc; unfold cmp; rw [if_pos z]; decide
        · lia
      refine opn_pure O (sub_ok G hv hm hn (by lia)) (by walk_at "m_args") (fun _ h => h.elim) ?_
      rintro _ _ rfl
      walk_at "m_go"
      refine opn_pure O (signed_ok G hb (sdl hm hn (by lia))) (by walk_at "m_args") (fun _ h => h.elim) ?_
      rintro _ _ rfl
      exact Bk.pure (by congr 1; cases s <;> cases t <;> simp [sg] at e ⊢ <;> lia) rfl
theorem s_mul_ok (G : GOk B (kap.heap_1 w.params)) {v m n : Int} {s t : Bool} (hv : 1 ≤ v ∧ v ≤ 9) (hm : Sm m) (hn : Sm n) (hmn : Sm (m * n)) : CallG prog w B (d + 3) 210 [.tup [.bool s, .lst (D (bs v) m)], .tup [.bool t, .lst (D (bs v) n)], .int v, .fn 140] pur (fun V _ => V = S (bs v) (sg s m * sg t n)) (fun _ => False) := by
  refine call_fn (names := ["x", "y", "w", "mul"]) G (by rfl) (by rfl) rfl (by walk_at "m_bind") (by walk_at "m_names") (by decide) rfl rfl rfl ?_
  intro A outer h0 R s0 L O
  have hb := bs2 hv.1
  walk_at "m_go"
  refine opn_pure O (mul_school_ok G hv hm hn) (by walk_at "m_args") (fun _ h => h.elim) ?_
  rintro _ _ rfl
  walk_at "m_go"
  refine opn_pure O (signed_ok G hb hmn) (by walk_at "m_args") (fun _ h => h.elim) ?_
  rintro _ _ rfl
  exact Bk.pure (by congr 1; cases s <;> cases t <;> simp [sg] <;> grind) rfl
end

-- part f17
section
variable {prog : Program} {w : World} {B : Heap} {d : Nat}
theorem opn_arc (G : GOk B (kap.heap_1 w.params)) {F : FC} {ρ : Rho} {σ : Led} {X : Addr → Prop} {Q : V → Led → Prop} {x : Int} (O : FOk B (d + 2) F) (h : Q (.inst 268 [("x", .int x)]) σ) :
    OpN prog w B F (fun us => call (.ref 268) us) [.int x] ρ σ X Q := fun us s T D => by
  simp only [DenL] at D
  obtain ⟨u, _, rfl, D1, rfl⟩ := D
  obtain ⟨tu, rfl⟩ := den_int D1
  refine wpAny_call ?_
  obtain ⟨hh, g, dr, t, os⟩ := s
  have XK := G.kin.keeps T.base
  have Y := makes_of (M := model prog w) XK (C := 268) (by with_unfolding_all rfl)
  have k : ∀ b o, hh.get? b = some o → ((hh.push emptyDict).push (instObj 268 hh.objs.size)).get? b = some o := fun b o e => Heap.get?_push_of_some _ (Heap.get?_push_of_some _ e)
  have f1 : hh.get? hh.objs.size = none := get_none_size0 hh
  have f2 : hh.get? (hh.objs.size + 1) = none := get_none_size hh 1
  have g1 : ((hh.push emptyDict).push (instObj 268 hh.objs.size)).get? hh.objs.size = some emptyDict := Heap.get?_push_of_some _ (Heap.get?_push_size _ rfl)
  have g2 : ((hh.push emptyDict).push (instObj 268 hh.objs.size)).get? (hh.objs.size + 1) = some (instObj 268 hh.objs.size) := by
    have := Heap.get?_push_size (hh.push emptyDict) (o := instObj 268 hh.objs.size) rfl
    rwa [Heap.size_push] at this
  have hsz : ((hh.push emptyDict).push (instObj 268 hh.objs.size)).objs.size = hh.objs.size + 2 := by rw [Heap.size_push, Heap.size_push]
  refine make_core Y (looks_findIn XK (name := "__init__") (r := some (.ref 258)) (by with_unfolding_all rfl)) (fun self => bind_fn XK self (by with_unfolding_all rfl)) (.inl rfl) ?_
  generalize hH : (hh.push emptyDict).push (instObj 268 hh.objs.size) = H at *
  have base1 : B.StaysIn H := fun b o e => k b o (T.base b o e)
  refine codeAny_call_def (binds := [("self", .ref (hh.objs.size + 1)), ("x", .int x tu)]) ?room (base1 _ _ (G.kin _ _ (show (kap.heap_1 w.params).lookup 258 = _ from by rfl))) rfl (G.lim.keeps base1) ((codeRec_of G.kin (by rfl)).keeps base1) rfl (.of_eq rfl) (by decide) (by intro q hq; simp only [List.mem_cons, List.not_mem_nil, or_false] at hq; rcases hq with rfl | rfl <;> rfl) (fun h₁ hns hk₁ => ?_) rfl rfl rfl
  case room =>
    have := O.hd
    have := depth_under_kw F.A 268 [.int x tu] []
    rw [this]
    lia
  refine wpAny_execs_cons (plainObj_wpAny_Assign_Attribute (wpAny_Name (wpAny_loadName_local rfl (by rfl) hns (by rfl) (wpAny_Name (wpAny_loadName_local rfl (by rfl) hns (by rfl) ?_) (by decide))) (by decide)))
  have F1 : Fr hh H.objs.size h₁ _ := ⟨hns, fun b o e => hk₁ b o (k b o e), by rw [hsz]; lia⟩
  have N1 : News hh H.objs.size h₁ ([(hh.objs.size + 1, instObj 268 hh.objs.size)] ++ (hh.objs.size, emptyDict) :: []) := by
    intro p hp
    simp only [List.singleton_append, List.mem_cons, List.not_mem_nil, or_false] at hp
    rcases hp with rfl | rfl
    · exact ⟨hk₁ _ _ g2, by rw [hsz]; show hh.objs.size + 1 ≠ hh.objs.size + 2; lia, f2⟩
    · exact ⟨hk₁ _ _ g1, by rw [hsz]; show hh.objs.size ≠ hh.objs.size + 2; lia, f1⟩
  have X1 : (kap.heap_1 w.params).In h₁ := fun b o e => hk₁ b o (base1 b o (G.kin b o e))
  have I : InstAt h₁ (hh.objs.size + 1) (instObj 268 hh.objs.size) 268 (some emptyDict) := ⟨hk₁ _ _ g2, rfl, rfl, hk₁ _ _ g1⟩
  refine set_plain X1 I (by with_unfolding_all rfl) (osa_dict F1 N1 X1 I rfl (by with_unfolding_all rfl) (by with_unfolding_all rfl) (by with_unfolding_all rfl) (by rfl) (by intro p hp; simp only [List.mem_singleton] at hp; subst hp; show hh.objs.size + 1 ≠ hh.objs.size; lia) (by intro p hp; cases hp) rfl (es := [_]) rfl (by simp) ?_)
  intro h' F' N'
  refine wpAny_execs_nil ?_
  refine And.intro rfl ?_
  have e1 := (N' (hh.objs.size + 1, instObj 268 hh.objs.size) (by simp)).1
  have e2 := (N' _ (List.mem_append_right _ (.head _))).1
  have z1 := T.fresh f1
  have z2 := T.fresh f2
  exact done T F'.keep (by simp only [Den]; exact ⟨_, _, _, _, _, rfl, e1, rfl, e2, z2.1, z2.2.1, z1.1, z1.2.1, by simp only [DenE, Den]; exact ⟨_, _, _, _, rfl, ⟨_, rfl⟩, rfl⟩⟩) h
end

-- part f18
section
variable {prog : Program} {w : World} {B : Heap} {d : Nat}
set_option maxHeartbeats 1000000 in
theorem euler_at_ok (G : GOk B (kap.heap_1 w.params)) {v : Int} (hv : 1 ≤ v ∧ v ≤ 9) : CallG prog w B (d + 2) 237 [.inst 240 [], .int 1, .int v, .fn 140] pur (fun V _ => V = .tup [.bool false, .lst (D (bs v) 1), .lst (D (bs v) 1), .lst (D (bs v) 1)]) (fun _ => False) := by
  refine call_fn (names := ["self", "k", "w", "mul"]) G (by rfl) (by rfl) rfl (by walk_at "m_bind") (by walk_at "m_names") (by decide) rfl rfl rfl ?_
  intro A outer h0 R s0 L O
  have hb := bs2 hv.1
  have mk : Frz := trivial
  walk_at "m_go"
  refine opn_pure O (nat_of_ok G (n := 1) hv ⟨by decide, by decide⟩) (by walk_at "m_args") (fun _ h => h.elim) ?_
  rintro _ _ rfl
  walk_at "m_go"
  exact Bk.pure (by rw [D_one hb]) rfl
set_option maxHeartbeats 1000000 in
theorem arctan_at_ok (G : GOk B (kap.heap_1 w.params)) {v x k : Int} (hv : 1 ≤ v ∧ v ≤ 9) (hx : 0 ≤ x ∧ x < 1000) (hk : 1 ≤ k ∧ k < 1000) : CallG prog w B (d + 6) 265 [.inst 268 [("x", .int x)], .int k, .int v, .fn 140] pur (fun V _ => V = .tup [.bool true, .lst (D (bs v) (2 * k - 1)), .lst (D (bs v) ((2 * k + 1) * (x * x))), .lst (D (bs v) 1)]) (fun _ => False) := by
  refine call_fn (names := ["self", "k", "w", "mul"]) G (by rfl) (by rfl) rfl (by walk_at "m_bind") (by walk_at "m_names") (by decide) rfl rfl rfl ?_
  intro A outer h0 R s0 L O
  have hb := bs2 hv.1
  have mk : Frz := trivial
  walk_at "m_go"
  refine opn_pure O (nat_of_ok G (n := 2 * k - 1) hv ⟨by lia, Int.lt_of_lt_of_le (b := 2 ^ 20) (by lia) (by decide)⟩) (by walk_at "m_args") (fun _ h => h.elim) ?_
  rintro _ _ rfl
  walk_at "m_go"
  refine Ev.attr G O (by walk_at "m_look") (by with_unfolding_all rfl) (by with_unfolding_all rfl) (by with_unfolding_all rfl) ?_
  walk_at "m_go"
  refine Ev.attr G O (by walk_at "m_look") (by with_unfolding_all rfl) (by with_unfolding_all rfl) (by with_unfolding_all rfl) ?_
  walk_at "m_go"
  refine opn_pure O (product_ok (d := d) G hv 2 [2 * k + 1, x, x] ?_ (by simp) (by decide)) (ArgsOk.c Arg.lst (ArgsOk.c Arg.same (ArgsOk.c Arg.same ArgsOk.n))) (fun _ h => h.elim) ?_
  · intro z hz
    simp only [List.mem_cons, List.not_mem_nil, or_false] at hz
    rcases hz with rfl | rfl | rfl <;> lia
  rintro _ _ rfl
  walk_at "m_go"
  exact Bk.pure (by rw [D_one hb]; simp [prd]) rfl
theorem sg_abs (z : Int) : sg (decide (z < 0)) (z.natAbs : Int) = z := by unfold sg; split <;> simp_all <;> lia
theorem S_nn {b z : Int} (h : 0 ≤ z) : V.tup [.bool false, .lst (D b z)] = S b z := by
  unfold S
  rw [show decide (z < 0) = false from by simp; lia, show ((z.natAbs : Int)) = z by lia]
/-- at most 2^k -/
def Up (k : Nat) (z : Int) : Prop := z.natAbs ≤ 2 ^ k
theorem Up.mul {i j : Nat} {x y : Int} (h : Up i x) (h' : Up j y) : Up (i + j) (x * y) := by
  unfold Up at *
  rw [Int.natAbs_mul, Nat.pow_add]; exact Nat.mul_le_mul h h'
theorem Up.mono {i j : Nat} {x : Int} (h : Up i x) (hij : i ≤ j) : Up j x := Nat.le_trans h (Nat.pow_le_pow_right (by decide) hij)
theorem Up.add {i : Nat} {x y : Int} (h : Up i x) (h' : Up i y) : Up (i + 1) (x + y) := by
  unfold Up at *
  rw [Nat.pow_succ]
  have := Int.natAbs_add_le x y
  lia
theorem Up.sm {i : Nat} {x : Int} (h : Up i x) (hi : i ≤ 4000) : Sm (x.natAbs : Int) := by
  have h1 := h.mono hi
  unfold Up at h1
  refine ⟨by lia, ?_⟩
  have h2 : (2 : Nat) ^ 4000 < 2 ^ 4096 := Nat.pow_lt_pow_right (by decide) (by decide)
  have h3 : x.natAbs < 2 ^ 4096 := Nat.lt_of_le_of_lt h1 h2
  exact_mod_cast h3
theorem Up.sq {i : Nat} {x : Int} (h : Up i x) (hi : i < 4000) (h0 : 0 ≤ x) : Sq x := by
  have h2 : (2 : Nat) ^ i < 2 ^ 4000 := Nat.pow_lt_pow_right (by decide) hi
  have h3 : x.natAbs < 2 ^ 4000 := Nat.lt_of_le_of_lt h h2
  refine ⟨h0, ?_⟩
  have : ((x.natAbs : Nat) : Int) < ((2 ^ 4000 : Nat) : Int) := by exact_mod_cast h3
  rw [show ((x.natAbs : Nat) : Int) = x by lia] at this
  exact_mod_cast this
theorem s_add_ok' (G : GOk B (kap.heap_1 w.params)) {v x y : Int} {i : Nat} (hv : 1 ≤ v ∧ v ≤ 9) (hx : Up i x) (hy : Up i y) (hi : i < 3000) : CallG prog w B (d + 3) 203 [S (bs v) x, S (bs v) y, .int v] pur (fun V _ => V = S (bs v) (x + y)) (fun _ => False) := by
  have h1 : Up i (x.natAbs : Int) := by unfold Up at *; lia
  have h2 : Up i (y.natAbs : Int) := by unfold Up at *; lia
  have h3 := h1.add h2
  have := s_add_ok (prog := prog) (d := d) (s := decide (x < 0)) (t := decide (y < 0)) G hv (hx.sm (by lia)) (hy.sm (by lia)) (by have := h3.sm (by lia); rwa [show (((x.natAbs : Int) + (y.natAbs : Int)).natAbs : Int) = (x.natAbs : Int) + (y.natAbs : Int) by lia] at this)
  rw [sg_abs, sg_abs] at this
  exact this
theorem s_mul_ok' (G : GOk B (kap.heap_1 w.params)) {v x y : Int} {i j : Nat} (hv : 1 ≤ v ∧ v ≤ 9) (hx : Up i x) (hy : Up j y) (hi : i + j < 3000) : CallG prog w B (d + 3) 210 [S (bs v) x, S (bs v) y, .int v, .fn 140] pur (fun V _ => V = S (bs v) (x * y)) (fun _ => False) := by
  have h3 := (hx.mul hy).sm (by lia)
  rw [Int.natAbs_mul, Int.natCast_mul] at h3
  have := s_mul_ok (prog := prog) (d := d) (s := decide (x < 0)) (t := decide (y < 0)) G hv (hx.sm (by lia)) (hy.sm (by lia)) h3
  rw [sg_abs, sg_abs] at this
  exact this
end

-- part f19
section
variable {prog : Program} {w : World} {B : Heap} {d : Nat}
/-- the pieces of a series: the step k multiplies by p k, below stands q k -/
noncomputable def sp (p q : Nat → Int) : Nat → Nat → Nat → Int × Int × Int
  | 0, k, _ => (p k, q k, p k)
  | f + 1, k, n => if n ≤ 1 then (p k, q k, p k) else
    let x := sp p q f k (n / 2)
    let y := sp p q f (k + n / 2) (n - n / 2)
    (x.1 * y.1, x.2.1 * y.2.1, x.2.2 * y.2.1 + x.1 * y.2.2)
theorem sp_lim {p q : Nat → Int} {N : Nat} (hp : ∀ k, k ≤ N → Up 20 (p k)) (hq : ∀ k, k ≤ N → Up 20 (q k) ∧ 0 ≤ q k) : ∀ (f k n : Nat), 1 ≤ n → k + n ≤ N + 1 →
    Up (20 * n) (sp p q f k n).1 ∧ Up (20 * n) (sp p q f k n).2.1 ∧ 0 ≤ (sp p q f k n).2.1 ∧ Up (21 * n) (sp p q f k n).2.2
  | 0, k, n, h, hk => by
    have a := hp k (by lia)
    have b := hq k (by lia)
    exact ⟨a.mono (by lia), b.1.mono (by lia), b.2, a.mono (by lia)⟩
  | f + 1, k, n, h, hk => by
    by_cases hn : n ≤ 1
    · have a := hp k (by lia)
      have b := hq k (by lia)
      simp only [sp, if_pos hn]
      exact ⟨a.mono (by lia), b.1.mono (by lia), b.2, a.mono (by lia)⟩
    · simp only [sp, if_neg hn]
      obtain ⟨a1, a2, a3, a4⟩ := sp_lim hp hq f k (n / 2) (by lia) (by lia)
      obtain ⟨b1, b2, b3, b4⟩ := sp_lim hp hq f (k + n / 2) (n - n / 2) (by lia) (by lia)
      refine ⟨(a1.mul b1).mono (by lia), (a2.mul b2).mono (by lia), mul_nonneg' a3 b3, ?_⟩
      exact (((a4.mul b2).mono (j := 21 * n - 1) (by lia)).add ((a1.mul b4).mono (by lia))).mono (by lia)
theorem Up.smp {i : Nat} {x : Int} (h : Up i x) (h0 : 0 ≤ x) (hi : i ≤ 4000) : Sm x := by
  have := h.sm hi
  rwa [show ((x.natAbs : Nat) : Int) = x by lia] at this
/-- the objects of a series -/
structure Ser (prog : Program) (w : World) (B : Heap) (v : Int) (C q : Addr) (es : List (Str × V)) (N : Nat) (s : Bool) (a b : Nat → Int) : Prop where
  g : plainGet (kap.heap_1 w.params) C "at" = true
  f : findIn (kap.heap_1 w.params) (.ref C) "at" = some (some (.ref q))
  t : isFn (kap.heap_1 w.params) (.ref q) = true
  k : keepIn (kap.heap_1 w.params) (.ref q) = true
  e : ∀ q ∈ es, (q.1 == ("at" : Str)) = false
  at_ : ∀ (d k : Nat), 1 ≤ k → k ≤ N → CallG prog w B (d + 6) q [.inst C es, .int k, .int v, .fn 140] pur (fun V _ => V = .tup [.bool s, .lst (D (bs v) (a k)), .lst (D (bs v) (b k)), .lst (D (bs v) 1)]) (fun _ => False)
  ua : ∀ k, 1 ≤ k → k ≤ N → 0 ≤ a k ∧ Up 20 (a k)
  ub : ∀ k, 1 ≤ k → k ≤ N → 0 ≤ b k ∧ Up 20 (b k)
noncomputable def cl (N : Nat) (f : Nat → Int) (k : Nat) : Int := if 1 ≤ k ∧ k ≤ N then f k else 0
theorem cl_of {N : Nat} {f : Nat → Int} {k : Nat} (h : 1 ≤ k) (h' : k ≤ N) : cl N f k = f k := if_pos ⟨h, h'⟩
theorem Up.zero {k : Nat} : Up k 0 := Nat.zero_le _
theorem Up.sg {k : Nat} {s : Bool} {z : Int} (h : Up k z) : Up k (sg s z) := by unfold Up at *; unfold Mine.sg; split <;> lia
theorem Ser.lim {v : Int} {C q : Addr} {es : List (Str × V)} {N : Nat} {s : Bool} {a b : Nat → Int} (H : Ser prog w B v C q es N s a b) : ∀ (f k n : Nat), 1 ≤ n → k + n ≤ N + 1 →
    Up (20 * n) (sp (cl N fun k => sg s (a k)) (cl N b) f k n).1 ∧ Up (20 * n) (sp (cl N fun k => sg s (a k)) (cl N b) f k n).2.1 ∧ 0 ≤ (sp (cl N fun k => sg s (a k)) (cl N b) f k n).2.1 ∧ Up (21 * n) (sp (cl N fun k => sg s (a k)) (cl N b) f k n).2.2 := by
  have up : ∀ k, k ≤ N → Up 20 (cl N (fun k => sg s (a k)) k) := fun k hk => by
    unfold cl; split
    · rename_i h; exact (H.ua k h.1 h.2).2.sg
    · exact Up.zero
  have uq : ∀ k, k ≤ N → Up 20 (cl N b k) ∧ 0 ≤ cl N b k := fun k hk => by
    unfold cl; split
    · rename_i h; exact ⟨(H.ub k h.1 h.2).2, (H.ub k h.1 h.2).1⟩
    · exact ⟨Up.zero, Int.le_refl _⟩
  exact sp_lim up uq
theorem sp_leaf {p q : Nat → Int} {f k n : Nat} (h : n ≤ 1) : sp p q f k n = (p k, q k, p k) := by cases f <;> simp [sp, h]
set_option maxHeartbeats 2000000 in
theorem split_ok (G : GOk B (kap.heap_1 w.params)) {v : Int} {C q : Addr} {es : List (Str × V)} {N : Nat} {s : Bool} {a b : Nat → Int} (hv : 1 ≤ v ∧ v ≤ 9) (H : Ser prog w B v C q es N s a b) (hN : N ≤ 20) : ∀ (f k n : Nat), 1 ≤ n → n ≤ f + 1 → 1 ≤ k → k + n ≤ N + 1 →
    CallG prog w B (d + f + 7) 300 [.inst C es, .int k, .int ((k + n : Nat) : Int), .int v, .fn 140] pur (fun V _ => V = .tup [S (bs v) (sp (cl N fun k => sg s (a k)) (cl N b) f k n).1, .lst (D (bs v) (sp (cl N fun k => sg s (a k)) (cl N b) f k n).2.1), S (bs v) (sp (cl N fun k => sg s (a k)) (cl N b) f k n).2.2]) (fun _ => False) := by
  intro f
  have hb := bs2 hv.1
  have lim := H.lim
  induction f using Nat.strongRecOn with
  | _ f ih =>
  intro k n hn hf hk hkn
  refine call_fn (names := ["series", "begin", "end", "w", "mul"]) G (by rfl) (by rfl) rfl (by walk_at "m_bind") (by walk_at "m_names") (by decide) rfl rfl rfl ?_
  intro A outer h0 R s0 L O
  have mk : Frz := trivial
  walk_at "m_go"
  · lia
  · lia
  · rename_i c1 c2 c3
    have n1 : n = 1 := by lia
    subst n1
    obtain ⟨ua0, ua⟩ := H.ua k hk (by lia)
    obtain ⟨ub0, ub⟩ := H.ub k hk (by lia)
    have sa := ua.smp ua0 (by lia)
    refine Ev.meth G O (by walk_at "m_look") H.e H.g H.f H.t H.k ?_
    walk_at "m_go"
    refine opn_pure O (H.at_ (d + f) k hk (by lia)) (by walk_at "m_args") (fun _ h => h.elim) ?_
    rintro _ _ rfl
    refine ⟨_, _, _, _, rfl, ?_⟩
    walk_at "m_go"
    refine opn_pure O (signed_ok G hb sa) (by walk_at "m_args") (fun _ h => h.elim) ?_
    rintro _ _ rfl
    walk_at "m_go"
    refine opn_pure O (mul_school_ok G hv (m := 1) ⟨by decide, by decide⟩ sa) (by walk_at "m_args") (fun _ h => h.elim) ?_
    rintro _ _ rfl
    walk_at "m_go"
    refine opn_pure O (signed_ok G hb (n := 1 * a k) (by rw [Int.one_mul]; exact sa)) (by walk_at "m_args") (fun _ h => h.elim) ?_
    rintro _ _ rfl
    walk_at "m_go"
    refine Bk.pure ?_ rfl
    rw [sp_leaf (Nat.le_refl 1), cl_of hk (by lia), cl_of hk (by lia), Int.one_mul]
  rename_i c1 c2 c3
  obtain ⟨j, rfl⟩ : ∃ j, f = j + 1 := ⟨f - 1, by lia⟩
  have ez : ((k : Int) + ((k + n : Nat) : Int)).fdiv 2 = ((k + n / 2 : Nat) : Int) := by rw [Int.fdiv_eq_ediv_of_nonneg _ (by decide)]; lia
  have ez2 : ((k + n : Nat) : Int) = ((k + n / 2 + (n - n / 2) : Nat) : Int) := by lia
  rw [ez]
  refine opn_pure O (ih j (by lia) k (n / 2) (by lia) (by lia) hk (by lia)) (by walk_at "m_args") (fun _ h => h.elim) ?_
  rintro _ _ rfl
  walk_at "m_go"
  rw [ez2]
  refine opn_pure O (ih j (by lia) (k + n / 2) (n - n / 2) (by lia) (by lia) (by lia) (by lia)) (by walk_at "m_args") (fun _ h => h.elim) ?_
  rintro _ _ rfl
  obtain ⟨l1, l2, l3, l4⟩ := lim j k (n / 2) (by lia) (by lia)
  obtain ⟨r1, r2, r3, r4⟩ := lim j (k + n / 2) (n - n / 2) (by lia) (by lia)
  have es : sp (cl N fun k => sg s (a k)) (cl N b) (j + 1) k n = ((sp (cl N fun k => sg s (a k)) (cl N b) j k (n / 2)).1 * (sp (cl N fun k => sg s (a k)) (cl N b) j (k + n / 2) (n - n / 2)).1, (sp (cl N fun k => sg s (a k)) (cl N b) j k (n / 2)).2.1 * (sp (cl N fun k => sg s (a k)) (cl N b) j (k + n / 2) (n - n / 2)).2.1, (sp (cl N fun k => sg s (a k)) (cl N b) j k (n / 2)).2.2 * (sp (cl N fun k => sg s (a k)) (cl N b) j (k + n / 2) (n - n / 2)).2.1 + (sp (cl N fun k => sg s (a k)) (cl N b) j k (n / 2)).1 * (sp (cl N fun k => sg s (a k)) (cl N b) j (k + n / 2) (n - n / 2)).2.2) := by
    rw [sp, if_neg (by lia)]
  generalize sp (cl N fun k => sg s (a k)) (cl N b) j k (n / 2) = x at *
  generalize sp (cl N fun k => sg s (a k)) (cl N b) j (k + n / 2) (n - n / 2) = y at *
  rw [es]
  obtain ⟨P1, Q1, T1⟩ := x
  obtain ⟨P2, Q2, T2⟩ := y
  dsimp only at *
  walk_at "m_go"
  rw [S_nn r3]
  refine opn_pure O (s_mul_ok' G hv l4 r2 (by lia)) (by walk_at "m_args") (fun _ h => h.elim) ?_
  rintro _ _ rfl
  walk_at "m_go"
  refine opn_pure O (s_mul_ok' G hv l1 r4 (by lia)) (by walk_at "m_args") (fun _ h => h.elim) ?_
  rintro _ _ rfl
  walk_at "m_go"
  refine opn_pure O (s_add_ok' G hv (i := 21 * n) ((l4.mul r2).mono (by lia)) ((l1.mul r4).mono (by lia)) (by lia)) (by walk_at "m_args") (fun _ h => h.elim) ?_
  rintro _ _ rfl
  walk_at "m_go"
  refine opn_pure O (s_mul_ok' G hv l1 r1 (by lia)) (by walk_at "m_args") (fun _ h => h.elim) ?_
  rintro _ _ rfl
  walk_at "m_go"
  refine opn_pure O (mul_school_ok G hv (l2.smp l3 (by lia)) (r2.smp r3 (by lia))) (by walk_at "m_args") (fun _ h => h.elim) ?_
  rintro _ _ rfl
  walk_at "m_go"
  exact Bk.pure rfl rfl
theorem split_range (G : GOk B (kap.heap_1 w.params)) {v e : Int} {C : Addr} {es : List (Str × V)} (he : e < 1) : CallG prog w B (d + 1) 300 [.inst C es, .int 1, .int e, .int v, .fn 140] pur (fun _ _ => False) (fun X => X = 61) := by
  refine call_fn (names := ["series", "begin", "end", "w", "mul"]) G (by rfl) (by rfl) rfl (by walk_at "m_bind") (by walk_at "m_names") (by decide) rfl rfl rfl ?_
  intro A outer h0 R s0 L O
  have mk : Frz := trivial
  walk_at "m_go"
  · rfl
  all_goals lia
/-- above and below of a series' sum of N pieces -/
noncomputable def fr (s : Bool) (a b : Nat → Int) (N : Nat) : Int × Int := let x := sp (cl N fun k => sg s (a k)) (cl N b) (N - 1) 1 N; ((x.2.1 + x.2.2).natAbs, x.2.1)
set_option maxHeartbeats 2000000 in
theorem fraction_ok (G : GOk B (kap.heap_1 w.params)) {v : Int} {C q : Addr} {es : List (Str × V)} {N : Nat} {s : Bool} {a b : Nat → Int} (hv : 1 ≤ v ∧ v ≤ 9) (H : Ser prog w B v C q es N s a b) (h1 : 1 ≤ N) (hN : N ≤ 20) :
    CallG prog w B (d + N + 7) 307 [.inst C es, .int N, .int v, .fn 140] pur (fun V _ => V = .tup [.lst (D (bs v) (fr s a b N).1), .lst (D (bs v) (fr s a b N).2)]) (fun _ => False) := by
  obtain ⟨j, rfl⟩ : ∃ j, N = j + 1 := ⟨N - 1, by lia⟩
  refine call_fn (names := ["series", "many", "w", "mul"]) G (by rfl) (by rfl) rfl (by walk_at "m_bind") (by walk_at "m_names") (by decide) rfl rfl rfl ?_
  intro A outer h0 R s0 L O
  have mk : Frz := trivial
  walk_at "m_go"
  · lia
  have ez : (((j + 1 : Nat) : Int) + 1) = ((1 + (j + 1) : Nat) : Int) := by lia
  rw [ez]
  refine opn_pure O (split_ok (d := d) G hv H hN j 1 (j + 1) h1 (by lia) (by lia) (by lia)) (ArgsOk.c Arg.same (ArgsOk.c Arg.same (ArgsOk.c Arg.same (ArgsOk.c Arg.same (ArgsOk.c Arg.same ArgsOk.n))))) (fun _ h => h.elim) ?_
  rintro _ _ rfl
  refine ⟨_, _, _, rfl, ?_⟩
  walk_at "m_go"
  obtain ⟨l1, l2, l3, l4⟩ := H.lim j 1 (j + 1) (by lia) (by lia)
  have e : fr s a b (j + 1) = ((((sp (cl (j + 1) fun k => sg s (a k)) (cl (j + 1) b) j 1 (j + 1)).2.1 + (sp (cl (j + 1) fun k => sg s (a k)) (cl (j + 1) b) j 1 (j + 1)).2.2).natAbs : Int), (sp (cl (j + 1) fun k => sg s (a k)) (cl (j + 1) b) j 1 (j + 1)).2.1) := rfl
  rw [e]
  generalize sp (cl (j + 1) fun k => sg s (a k)) (cl (j + 1) b) j 1 (j + 1) = x at *
  obtain ⟨P1, Q1, T1⟩ := x
  dsimp only at *
  rw [S_nn l3]
  refine opn_pure O (s_add_ok' G hv (i := 21 * (j + 1)) (l2.mono (by lia)) l4 (by lia)) (by walk_at "m_args") (fun _ h => h.elim) ?_
  rintro _ _ rfl
  unfold S
  walk_at "m_go"
  exact Bk.pure rfl rfl
theorem need_ok (G : GOk B (kap.heap_1 w.params)) {n : Int} : CallG prog w B (d + 1) 314 [.int n] pur (fun V _ => V = .none ∧ 0 ≤ n) (fun X => X = 61 ∧ n < 0) := by
  refine call_fn (names := ["n"]) G (by rfl) (by rfl) rfl (by walk_at "m_bind") (by walk_at "m_names") (by decide) rfl rfl rfl ?_
  intro A outer h0 R s0 L O
  walk_at "m_go"
  · exact ⟨rfl, by assumption⟩
  · exact Bk.pure ⟨rfl, by lia⟩ rfl
set_option maxHeartbeats 1000000 in
theorem whole_ok (G : GOk B (kap.heap_1 w.params)) {v m k n : Int} (hv : 1 ≤ v ∧ v ≤ 9) (hm : Sm m) (hmn : 0 ≤ n → n ≤ 4096 ∧ Sq (m * 2 ^ n.toNat)) (hk : Sq k) (h0 : 0 < k) : CallG prog w B (d + 5) 321 [.lst (D (bs v) m), .lst (D (bs v) k), .int n, .int v, .fn 182] pur (fun V _ => V = .lst (D (bs v) (m * 2 ^ n.toNat / k)) ∧ 0 ≤ n) (fun X => X = 61 ∧ n < 0) := by
  refine call_fn (names := ["above", "below", "n", "w", "divrem"]) G (by rfl) (by rfl) rfl (by walk_at "m_bind") (by walk_at "m_names") (by decide) rfl rfl rfl ?_
  intro A outer h0 R s0 L O
  walk_at "m_go"
  refine opn_pure O (need_ok G) (by walk_at "m_args") (fun _ h => h) ?_
  rintro _ _ ⟨rfl, hn⟩
  walk_at "m_go"
  obtain ⟨n1, n2⟩ := hmn hn
  refine opn_pure O (shift_left_ok G hv hm ⟨hn, n1⟩) (by walk_at "m_args") (fun _ h => h.elim) ?_
  rintro _ _ rfl
  walk_at "m_go"
  refine opn_pure O (divrem_school_ok G hv n2 hk (by assumption)) (by walk_at "m_args") (fun _ h => h.elim) ?_
  rintro _ _ rfl
  walk_at "m_go"
  exact Bk.pure ⟨rfl, hn⟩ rfl
end

-- part f20
section
variable {prog : Program} {w : World} {B : Heap} {d : Nat}
theorem fraction_range (G : GOk B (kap.heap_1 w.params)) {v e : Int} {C : Addr} {es : List (Str × V)} (he : e < 0) : CallG prog w B (d + 2) 307 [.inst C es, .int e, .int v, .fn 140] pur (fun _ _ => False) (fun X => X = 61) := by
  refine call_fn (names := ["series", "many", "w", "mul"]) G (by rfl) (by rfl) rfl (by walk_at "m_bind") (by walk_at "m_names") (by decide) rfl rfl rfl ?_
  intro A outer h0 R s0 L O
  have mk : Frz := trivial
  walk_at "m_go"
  · lia
  refine opn_pure O (split_range G (e := e + 1) (by lia)) (by walk_at "m_args") (fun _ h => h) ?_
  intro _ _ h
  exact h.elim
/-- how many pieces the arc tangent takes -/
noncomputable def tm (x n : Int) : Int := ((n.fdiv (2 * ((Builtin.Int.intBits x : Int) - 1))).fdiv 2) * 2 + 1
theorem bits_x {x : Int} (hx : 2 ≤ x ∧ x ≤ 8) : 2 ≤ (Builtin.Int.intBits x : Int) ∧ (Builtin.Int.intBits x : Int) ≤ 4 := by
  have : x = 2 ∨ x = 3 ∨ x = 4 ∨ x = 5 ∨ x = 6 ∨ x = 7 ∨ x = 8 := by lia
  rcases this with rfl | rfl | rfl | rfl | rfl | rfl | rfl <;> decide
theorem terms_ok (G : GOk B (kap.heap_1 w.params)) {x n : Int} (hx : x ≤ 8) : CallG prog w B (d + 1) 342 [.int x, .int n] pur (fun V _ => V = .int (tm x n) ∧ 2 ≤ x) (fun X => X = 61 ∧ x < 2) := by
  refine call_fn (names := ["x", "n"]) G (by rfl) (by rfl) rfl (by walk_at "m_bind") (by walk_at "m_names") (by decide) rfl rfl rfl ?_
  intro A outer h0 R s0 L O
  walk_at "m_go"
  · exact ⟨rfl, by assumption⟩
  · rename_i h
    have := bits_x (x := x) ⟨by lia, hx⟩
    lia
  · rename_i h
    have := bits_x (x := x) ⟨by lia, hx⟩
    lia
  · exact Bk.pure ⟨rfl, by lia⟩ rfl
noncomputable def arA (k : Nat) : Int := 2 * (k : Int) - 1
noncomputable def arB (x : Int) (k : Nat) : Int := (2 * (k : Int) + 1) * (x * x)
theorem arc_ser (G : GOk B (kap.heap_1 w.params)) {v x : Int} (hv : 1 ≤ v ∧ v ≤ 9) (hx : 0 ≤ x ∧ x ≤ 8) {N : Nat} (hN : N ≤ 20) : Ser prog w B v 268 265 [("x", .int x)] N true arA (arB x) where
  g := by with_unfolding_all rfl
  f := by with_unfolding_all rfl
  t := by with_unfolding_all rfl
  k := by with_unfolding_all rfl
  e := by intro q hq; rw [List.mem_singleton.mp hq]; rfl
  at_ d k h1 h2 := arctan_at_ok G hv ⟨hx.1, by lia⟩ ⟨by lia, by lia⟩
  ua k h1 h2 := by unfold arA Up; exact ⟨by lia, Nat.le_trans (m := 64) (by lia) (by decide)⟩
  ub k h1 h2 := by
    have q1 : 0 ≤ x * x := mul_nonneg' hx.1 hx.1
    have q2 : x * x ≤ 8 * 8 := Int.mul_le_mul hx.2 hx.2 hx.1 (by decide)
    have q3 : 0 ≤ arB x k := mul_nonneg' (by lia) q1
    have q4 : arB x k ≤ 41 * (8 * 8) := Int.mul_le_mul (by lia) q2 q1 (by decide)
    exact ⟨q3, Nat.le_trans (m := 41 * 64) (by lia) (by decide)⟩
theorem eul_ser (G : GOk B (kap.heap_1 w.params)) {v : Int} (hv : 1 ≤ v ∧ v ≤ 9) : Ser prog w B v 240 237 [] 1 false (fun _ => 1) (fun _ => 1) where
  g := by with_unfolding_all rfl
  f := by with_unfolding_all rfl
  t := by with_unfolding_all rfl
  k := by with_unfolding_all rfl
  e := by decide
  at_ d k h1 h2 := by
    obtain rfl : k = 1 := by lia
    exact euler_at_ok (d := d + 4) G hv
  ua k h1 h2 := ⟨by decide, by unfold Up; decide⟩
  ub k h1 h2 := ⟨by decide, by unfold Up; decide⟩
theorem sp_pos {p q : Nat → Int} {N : Nat} (hq : ∀ k, 1 ≤ k → k ≤ N → 0 < q k) : ∀ (f k n : Nat), 1 ≤ n → 1 ≤ k → k + n ≤ N + 1 → 0 < (sp p q f k n).2.1
  | 0, k, n, h, h1, hk => hq k h1 (by lia)
  | f + 1, k, n, h, h1, hk => by
    by_cases hn : n ≤ 1
    · simp only [sp, if_pos hn]; exact hq k h1 (by lia)
    · simp only [sp, if_neg hn]
      exact Int.mul_pos (sp_pos hq f k (n / 2) (by lia) h1 (by lia)) (sp_pos hq f (k + n / 2) (n - n / 2) (by lia) (by lia) (by lia))
/-- the arc tangent told -/
noncomputable def arc (x n : Int) : Int := (fr true arA (arB x) (tm x n).toNat).1 * 2 ^ n.toNat / ((fr true arA (arB x) (tm x n).toNat).2 * x)
theorem tm_lim {x n : Int} (hx : 2 ≤ x ∧ x ≤ 8) (hn : 0 ≤ n ∧ n ≤ 16) : 1 ≤ tm x n ∧ tm x n ≤ 9 := by
  have := bits_x hx
  unfold tm
  generalize (Builtin.Int.intBits x : Int) = c at *
  rw [Int.fdiv_eq_ediv_of_nonneg _ (show 0 ≤ 2 * (c - 1) by lia), Int.fdiv_eq_ediv_of_nonneg _ (by decide)]
  have h1 : 0 ≤ n / (2 * (c - 1)) := Int.ediv_nonneg hn.1 (by lia)
  have h2 : n / (2 * (c - 1)) ≤ 8 := by
    have : n / (2 * (c - 1)) < 9 := Int.ediv_lt_of_lt_mul (by lia) (by lia)
    lia
  lia
theorem tm_neg {n : Int} (hn : n < 0) : tm 5 n < 0 := by
  unfold tm
  rw [show (Builtin.Int.intBits 5 : Int) = 3 from by decide, Int.fdiv_eq_ediv_of_nonneg _ (by decide), Int.fdiv_eq_ediv_of_nonneg _ (by decide)]
  lia
theorem FOk.le {d d' : Nat} {F : FC} (O : FOk B d F) (h : d' ≤ d) : FOk B d' F :=
  ⟨O.hh, O.hfr, by have := O.hd; lia, by have := O.hu; lia, O.hf, O.hk, O.hg, O.hb, O.RL, O.Rfr, O.h0L, O.h0c, O.cinj, O.BL⟩
set_option maxHeartbeats 1000000 in
theorem arctan_ok (G : GOk B (kap.heap_1 w.params)) {v x n : Int} (hv : 1 ≤ v ∧ v ≤ 9) (hx : -1 ≤ x ∧ x ≤ 8) (hn : n ≤ 16) (h5 : n < 0 → x = 5) :
    CallG prog w B (d + 19) 349 [.int x, .int n, .int v, .fn 140, .fn 182] pur (fun V _ => V = .lst (D (bs v) (arc x n)) ∧ 2 ≤ x ∧ 0 ≤ n) (fun X => X = 61 ∧ (x < 2 ∨ n < 0)) := by
  refine call_fn (names := ["x", "n", "w", "mul", "divrem"]) G (by rfl) (by rfl) rfl (by walk_at "m_bind") (by walk_at "m_names") (by decide) rfl rfl rfl ?_
  intro A outer h0 R s0 L O
  walk_at "m_go"
  refine Ev.callKN G O (by rfl) (by rfl) (by with_unfolding_all rfl) ?_
  walk_at "m_go"
  refine opn_arc (d := d + 16) G O ?_
  walk_at "m_go"
  refine opn_pure O (terms_ok (d := d + 17) G hx.2) (by walk_at "m_args") (fun _ h => ⟨h.1, .inl h.2⟩) ?_
  rintro _ _ ⟨rfl, hx2⟩
  walk_at "m_go"
  by_cases hn0 : n < 0
  · obtain rfl := h5 hn0
    refine opn_pure O (fraction_range (d := d + 16) G (tm_neg hn0)) (by walk_at "m_args") (fun _ h => ⟨h, .inr hn0⟩) ?_
    intro _ _ h
    exact h.elim
  have ht := tm_lim ⟨hx2, hx.2⟩ ⟨by lia, hn⟩
  unfold arc
  generalize tm x n = t at *
  obtain ⟨N, rfl⟩ := Int.eq_ofNat_of_zero_le (show 0 ≤ t by lia)
  have HS := arc_ser (prog := prog) G hv (x := x) ⟨by lia, hx.2⟩ (N := N) (by lia)
  refine opn_pure (O.le (d' := d + N + 7) (by lia)) (fraction_ok (d := d) G hv HS (by lia) (by lia)) (by walk_at "m_args") (fun _ h => h.elim) ?_
  rintro _ _ rfl
  rw [Int.toNat_natCast]
  obtain ⟨l1, l2, l3, l4⟩ := HS.lim (N - 1) 1 N (by lia) (by lia)
  have l5 := sp_pos (p := cl N fun k => sg true (arA k)) (q := cl N (arB x)) (N := N) (fun k h1 h2 => by
    rw [cl_of h1 h2]
    exact Int.mul_pos (by lia) (Int.mul_pos (by lia) (by lia))) (N - 1) 1 N (by lia) (by lia) (by lia)
  have l6 := (l2.mono (j := 21 * N) (by lia)).add l4
  have e1 : (fr true arA (arB x) N).1 = ((((sp (cl N fun k => sg true (arA k)) (cl N (arB x)) (N - 1) 1 N).2.1 + (sp (cl N fun k => sg true (arA k)) (cl N (arB x)) (N - 1) 1 N).2.2).natAbs : Nat) : Int) := rfl
  have e2 : (fr true arA (arB x) N).2 = (sp (cl N fun k => sg true (arA k)) (cl N (arB x)) (N - 1) 1 N).2.1 := rfl
  have u1 : 0 ≤ (fr true arA (arB x) N).1 := by rw [e1]; lia
  have u2 : Up (21 * N + 1) (fr true arA (arB x) N).1 := by rw [e1]; unfold Up at *; rw [Int.natAbs_natCast]; exact l6
  rw [← e2] at l2 l3 l5
  generalize fr true arA (arB x) N = z at *
  obtain ⟨a, b⟩ := z
  dsimp only at *
  refine ⟨_, _, rfl, ?_⟩
  walk_at "m_go"
  have ux : Up 3 x := by unfold Up; lia
  refine opn_pure O (nat_of_ok (d := d + 17) G (n := x) hv (ux.smp (by lia) (by lia))) (by walk_at "m_args") (fun _ h => h.elim) ?_
  rintro _ _ rfl
  walk_at "m_go"
  refine opn_pure O (mul_school_ok (d := d + 16) G hv (l2.smp l3 (by lia)) (ux.smp (by lia) (by lia))) (by walk_at "m_args") (fun _ h => h.elim) ?_
  rintro _ _ rfl
  walk_at "m_go"
  have un : Up 16 (2 ^ n.toNat : Int) := by
    unfold Up
    rw [show ((2 : Int) ^ n.toNat) = ((2 ^ n.toNat : Nat) : Int) by simp, Int.natAbs_natCast]
    exact Nat.pow_le_pow_right (by decide) (by lia)
  refine opn_pure O (whole_ok (d := d + 13) G hv (u2.smp u1 (by lia)) (fun _ => ⟨by lia, (u2.mul un).sq (by lia) (mul_nonneg' u1 (Int.le_of_lt (Int.pow_pos (by decide))))⟩) ((l2.mul ux).sq (by lia) (mul_nonneg' l3 (by lia))) (Int.mul_pos l5 (by lia))) (by walk_at "m_args") (fun _ h => ⟨h.1, .inr h.2⟩) ?_
  rintro _ _ ⟨rfl, h⟩
  exact Bk.pure ⟨rfl, hx2, h⟩ rfl
end

-- part f21
section
variable {prog : Program} {w : World} {B : Heap} {d : Nat}
theorem terms_e_ok (G : GOk B (kap.heap_1 w.params)) {n : Int} (hn : n < 0) : CallG prog w B (d + 1) 328 [.int n] pur (fun V _ => V = .int 1) (fun _ => False) := by
  refine call_fn (names := ["n"]) G (by rfl) (by rfl) rfl (by walk_at "m_bind") (by walk_at "m_names") (by decide) rfl rfl rfl ?_
  intro A outer h0 R s0 L O
  walk_at "m_go"
  refine Ex1.asgT2 O ?_
  walk_at "m_go"
  let J : Nat → Rho → Led → Prop := fun k ρ σ => C3 (ρ "n" = some (.int n)) (ρ "many" = some (.int 1)) (ρ "have" = some (.int 0))
  refine Ex1.whi J 0 ⟨by walk_at "m_look", by walk_at "m_look", by walk_at "m_look"⟩ ?_
  rintro k ρ σ ⟨h1, h2, h3⟩
  walk_at "m_go"
  · lia
  · exact Bk.pure rfl rfl
set_option maxHeartbeats 1000000 in
theorem e_bits_ok (G : GOk B (kap.heap_1 w.params)) {v n : Int} (hv : 1 ≤ v ∧ v ≤ 9) (hn : n < 0) : CallG prog w B (d + 19) 335 [.int n, .int v, .fn 140, .fn 182] pur (fun _ _ => False) (fun X => X = 61) := by
  refine call_fn (names := ["n", "w", "mul", "divrem"]) G (by rfl) (by rfl) rfl (by walk_at "m_bind") (by walk_at "m_names") (by decide) rfl rfl rfl ?_
  intro A outer h0 R s0 L O
  walk_at "m_go"
  refine Ev.callKN0 G O (by rfl) (by rfl) (by with_unfolding_all rfl) ?_
  refine opn_make0 G (by with_unfolding_all rfl) (by with_unfolding_all rfl) ?_
  walk_at "m_go"
  refine opn_pure O (terms_e_ok (d := d + 17) G hn) (by walk_at "m_args") (fun _ h => h.elim) ?_
  rintro _ _ rfl
  walk_at "m_go"
  refine opn_pure (O.le (d' := d + 1 + 7) (by lia)) (fraction_ok (d := d) G hv (eul_ser (prog := prog) G hv) (by lia) (by lia)) (ArgsOk.c Arg.same (ArgsOk.c Arg.same (ArgsOk.c Arg.same (ArgsOk.c Arg.same ArgsOk.n)))) (fun _ h => h.elim) ?_
  rintro _ _ rfl
  have e1 : (fr false (fun _ => 1) (fun _ => 1) 1).1 = 2 := by rfl
  have e2 : (fr false (fun _ => 1) (fun _ => 1) 1).2 = 1 := by rfl
  rw [e1, e2]
  refine ⟨_, _, rfl, ?_⟩
  walk_at "m_go"
  refine opn_pure O (whole_ok (d := d + 13) (m := 2) (k := 1) (n := n) G hv ⟨by decide, by decide⟩ (fun h => absurd hn (by lia)) ⟨by decide, by decide⟩ (by decide)) (by walk_at "m_args") (fun _ h => h.1) ?_
  rintro _ _ ⟨rfl, h⟩
  lia
theorem machin_ok (G : GOk B (kap.heap_1 w.params)) {v n : Int} (hn : n < 0) : CallG prog w B (d + 2) 356 [.int n, .int v, .fn 140, .fn 182] pur (fun _ _ => False) (fun X => X = 61) := by
  refine call_fn (names := ["n", "w", "mul", "divrem"]) G (by rfl) (by rfl) rfl (by walk_at "m_bind") (by walk_at "m_names") (by decide) rfl rfl rfl ?_
  intro A outer h0 R s0 L O
  walk_at "m_go"
  refine opn_pure O (need_ok G) (by walk_at "m_args") (fun _ h => h.1) ?_
  rintro _ _ ⟨rfl, h⟩
  lia
theorem chud_ok (G : GOk B (kap.heap_1 w.params)) {v n : Int} (hn : n < 0) : CallG prog w B (d + 2) 363 [.int n, .int v, .fn 140, .fn 182, .none] pur (fun _ _ => False) (fun X => X = 61) := by
  refine call_fn (names := ["n", "w", "mul", "divrem", "root"]) G (by rfl) (by rfl) rfl (by walk_at "m_bind") (by walk_at "m_names") (by decide) rfl rfl rfl ?_
  intro A outer h0 R s0 L O
  walk_at "m_go"
  refine opn_pure O (need_ok G) (by walk_at "m_args") (fun _ h => h.1) ?_
  rintro _ _ ⟨rfl, h⟩
  lia
theorem ten_ok (G : GOk B (kap.heap_1 w.params)) {v n : Int} (hn : n < 0) : CallG prog w B (d + 1) 370 [.int n, .int v, .fn 140] pur (fun _ _ => False) (fun X => X = 61) := by
  refine call_fn (names := ["many", "w", "mul"]) G (by rfl) (by rfl) rfl (by walk_at "m_bind") (by walk_at "m_names") (by decide) rfl rfl rfl ?_
  intro A outer h0 R s0 L O
  walk_at "m_go"
  · rfl
  all_goals lia
theorem digits_ok (G : GOk B (kap.heap_1 w.params)) {v n : Int} (hn : n < 0) : CallG prog w B (d + 2) 384 [.none, .int n, .int v, .fn 140] pur (fun _ _ => False) (fun X => X = 61) := by
  refine call_fn (names := ["told", "digits", "w", "mul"]) G (by rfl) (by rfl) rfl (by walk_at "m_bind") (by walk_at "m_names") (by decide) rfl rfl rfl ?_
  intro A outer h0 R s0 L O
  walk_at "m_go"
  refine opn_pure O (ten_ok G hn) (by walk_at "m_args") (fun _ h => h) ?_
  intro _ _ h
  exact h.elim
end

-- part f22
section
variable {prog : Program} {w : World} {B : Heap} {d : Nat}
section
variable {K : Frag} {F : FC} {ρ : Rho} {σ : Led} {X X' : Addr → Prop} {Q : V → Led → Prop}
theorem opn_mutG (O : FOk B d F) {q r : Addr} {rs : Ob} {args args' : List V} {Q' : V → Led → Prop} (hr : σ r = some rs) (hz : fzOb rs = true) (C : CallG prog w B d q args' (upd pur r rs) Q' X') (ha : ArgsOk σ (upd pur r rs) args args') (hX : ∀ C, X' C → X C)
    (k : ∀ V σ', Q' V σ' → ∃ ob, σ' r = some ob ∧ Q V (upd σ r ob)) : OpN prog w B F (fun us => call (.ref q) us) args ρ σ X Q := by
  have aux : ∀ a ob, upd pur r rs a = some ob → a = r ∧ ob = rs := fun a ob e => by
    by_cases z : a = r
    · subst z; simp [upd] at e; exact ⟨rfl, e.symm⟩
    · simp [upd, z, pur] at e
  refine opn_call O C (fun a ob e => ?_) (fun a ob e => ?_) ha hX fun V σ' q => ?_
  · obtain ⟨rfl, rfl⟩ := aux a ob e; exact hr
  · obtain ⟨rfl, rfl⟩ := aux a ob e; exact hz
  · obtain ⟨ob, h1, h2⟩ := k V σ' q
    have : mrg σ (upd pur r rs) σ' = upd σ r ob := by
      funext a
      by_cases z : a = r
      · subst z; simp [mrg, upd, h1]
      · simp [mrg, upd, z, pur]
    rw [this]; exact h2
end
theorem Bk.mutG {Q : V → Led → Prop} {r : Addr} {rs ys : Ob} {U : V} {σ' : Led} (hs : σ' r = some ys) (hz : fzOb ys = true) (h : Q U σ') (hf : fz U = true) : Bk (upd pur r rs) Q U σ' :=
  ⟨fun a ob e e' => by
    by_cases q : a = r
    · subst q; rw [hs] at e'; obtain rfl := Option.some.inj e'; exact hz
    · exact absurd (by simp [upd, q, pur]) e, U, h, hf, .inl rfl⟩
set_option maxHeartbeats 1000000 in
theorem next_ok (G : GOk B (kap.heap_1 w.params)) {r : Addr} {ys : List Int} {t many : Int} (hy : ys.length ≤ 20) (ht : 0 ≤ t ∧ t < 2 ^ 20) (hm : 0 < many) :
    CallG prog w B (d + 1) 391 [.own r, .int many] (upd pur r (.lv [.lst ys, .int t])) (fun V σ' => ∃ x, V = .int x ∧ 0 ≤ x ∧ x < many ∧ σ' r = some (.lv [.lst ys, .int (t + 1)])) (fun _ => False) := by
  refine call_fn (names := ["rope", "many"]) G (by rfl) (by rfl) rfl (by walk_at "m_bind") (by walk_at "m_names") (by decide) rfl rfl rfl ?_
  intro A outer h0 R s0 L O
  refine Ex.cons (Ex1.itemV O (by walk_at "m_look") ?_)
  walk_at "m_go"
  refine op_idxv (by walk_at "m_led") (by decide) (by decide) (by rfl) ?_
  walk_at "m_go"
  refine ⟨_, _, rfl, by walk_at "m_led", by decide, by simp, by simp, ?_⟩
  walk_at "m_go"
  refine op_idxv (by walk_at "m_led") (by decide) (by decide) (by rfl) ?_
  walk_at "m_go"
  refine op_idxv (by walk_at "m_led") (by decide) (by decide) (by rfl) ?_
  walk_at "m_go"
  · refine op_idxv (by walk_at "m_led") (by decide) (by decide) (by rfl) ?_
    walk_at "m_go"
    refine Bk.mutG (by walk_at "m_led") rfl ⟨_, rfl, ?_, ?_, by exact upd_same⟩ rfl
    · exact Int.fmod_nonneg_of_pos _ hm
    · exact Int.fmod_lt_of_pos _ hm
  exact Bk.mutG (by walk_at "m_led") rfl ⟨_, rfl, Int.fmod_nonneg_of_pos _ hm, Int.fmod_lt_of_pos _ hm, by exact upd_same⟩ rfl
set_option maxHeartbeats 1000000 in
theorem row_ok (G : GOk B (kap.heap_1 w.params)) {v n : Int} (hv : 1 ≤ v ∧ v ≤ 9) (hn : Sm n) : CallG prog w B (d + 1) 398 [.int n, .int v] pur (fun V _ => V = .lst (D (bs v) n)) (fun _ => False) := by
  refine call_fn (names := ["number", "w"]) G (by rfl) (by rfl) rfl (by walk_at "m_bind") (by walk_at "m_names") (by decide) rfl rfl rfl ?_
  intro A outer h0 R s0 L O
  have hb := bs2 hv.1
  have hbh := bs_hi hv.2
  walk_at "m_go"
  rename_i a ha
  have hn0 := hn.pos
  have hl := hn.len hb
  refine Ex1.whi (fun k ρ σ => E2 fun zs m => C7 (ρ "w" = some (.int v)) (ρ "found" = some (.own a)) (ρ "number" = some (.int m)) (σ a = some (.li zs)) (0 ≤ m) (k = m.toNat) (zs ++ D (bs v) m = D (bs v) n)) n.toNat
    ⟨[], n, by walk_at "m_look", by walk_at "m_look", by walk_at "m_look", by walk_at "m_led", by lia, rfl, rfl⟩ ?_
  rintro k ρ σ ⟨zs, m, h1, h3, h4, h5, h6, rfl, h7⟩
  have hlz : zs.length ≤ 4096 := by
    have := congrArg List.length h7
    rw [List.length_append] at this
    lia
  have hp : ((2 : Int) ^ v.toNat) = bs v := rfl
  walk_at "m_go"
  · rename_i hm
    have hm' : 0 < m := by lia
    rw [hp, Int.fdiv_eq_ediv_of_nonneg _ (by lia), Int.fmod_eq_emod_of_nonneg _ (by lia)]
    have := ediv_lt hb hm'
    have h8 : 0 ≤ m / bs v := Int.ediv_nonneg h6 (by lia)
    refine ⟨_, by lia, _, _, by walk_at "m_look", by walk_at "m_look", by walk_at "m_look", by walk_at "m_led", h8, rfl, ?_⟩
    rw [← h7, D_pos hb hm', List.append_assoc]; rfl
  · rename_i hm
    refine Bk.own h5 ?_
    rw [← h7, D_zero (by lia), List.append_nil]
noncomputable def arcP (x : Int) : Nat → Int → Int → Int → Int
  | 0, found, _, _ => found
  | f + 1, found, k, part => if 0 < part then arcP x f (found + if k % 2 = 0 then part / (2 * k + 1) else 0 - part / (2 * k + 1)) (k + 1) (part / (x * x)) else found
/-- the law's own arc tangent -/
noncomputable def arcL (x n : Int) : Int := arcP x ((2 ^ n.toNat / x).toNat + 1) 0 0 (2 ^ n.toNat / x)
theorem arcP_end {x : Int} : ∀ {f : Nat} {found k part : Int}, part ≤ 0 → arcP x f found k part = found
  | 0, _, _, _, _ => rfl
  | f + 1, _, _, _, h => by rw [arcP, if_neg (by lia)]
theorem arcP_succ {x : Int} (hx : 2 ≤ x) : ∀ {f : Nat} {found k part : Int}, part.toNat ≤ f → arcP x (f + 1) found k part = arcP x f found k part
  | 0, _, _, part, h => by rw [arcP_end (f := 1) (by lia)]; rfl
  | f + 1, found, k, part, h => by
    rw [arcP]
    conv => rhs; rw [arcP]
    split
    · rename_i hp
      have h1 : part / (x * x) < part := Int.ediv_lt_of_lt_mul (by have := Int.mul_pos (show 0 < x by lia) (show 0 < x by lia); lia) (by
        have : 4 ≤ x * x := Int.mul_le_mul (a := 2) (b := 2) hx hx (by decide) (by lia)
        have : part * 4 ≤ part * (x * x) := Int.mul_le_mul_of_nonneg_left this (by lia)
        lia)
      exact arcP_succ hx (by lia)
    · rfl
set_option maxHeartbeats 1000000 in
theorem law_arctan_ok (G : GOk B (kap.heap_1 w.params)) {x n : Int} (hx : 2 ≤ x ∧ x ≤ 8) (hn : 0 ≤ n ∧ n ≤ 56) : CallG prog w B (d + 1) 412 [.int x, .int n] pur (fun V _ => V = .int (arcL x n)) (fun _ => False) := by
  refine call_fn (names := ["x", "n"]) G (by rfl) (by rfl) rfl (by walk_at "m_bind") (by walk_at "m_names") (by decide) rfl rfl rfl ?_
  intro A outer h0 R s0 L O
  walk_at "m_go"
  have hs : 4 ≤ x * x ∧ x * x ≤ 64 := ⟨Int.mul_le_mul (a := 2) (b := 2) hx.1 hx.1 (by decide) (by lia), Int.mul_le_mul (c := 8) (d := 8) hx.2 hx.2 (by lia) (by decide)⟩
  have hpw : (1 : Int) ≤ 2 ^ n.toNat ∧ (2 : Int) ^ n.toNat ≤ 2 ^ 56 := ⟨by have := Int.pow_pos (n := 2) (m := n.toNat) (by decide); lia, pow_le_pow' (b := 2) (by decide) (by lia)⟩
  rw [Int.fdiv_eq_ediv_of_nonneg _ (show 0 ≤ x by lia)]
  have hd : 0 ≤ (2 : Int) ^ n.toNat / x ∧ (2 : Int) ^ n.toNat / x ≤ 2 ^ 56 := ⟨Int.ediv_nonneg (by lia) (by lia), by have := Int.ediv_le_self x (show 0 ≤ (2 : Int) ^ n.toNat by lia); lia⟩
  unfold arcL
  generalize (2 : Int) ^ n.toNat / x = p0 at *
  let J : Nat → Rho → Led → Prop := fun f ρ σ => E3 fun (found part : Int) (k : Nat) => C8 (ρ "x" = some (.int x)) (ρ "found" = some (.int found)) (ρ "k" = some (.int k)) (ρ "part" = some (.int part)) (0 ≤ part) (f = part.toNat) (part * 4 ^ k ≤ 2 ^ 56) (arcP x (part.toNat + 1) found k part = arcP x (p0.toNat + 1) 0 0 p0)
  refine Ex1.whi J p0.toNat ⟨0, p0, 0, by walk_at "m_look", by walk_at "m_look", by walk_at "m_look", by walk_at "m_look", hd.1, rfl, by lia, rfl⟩ ?_
  rintro f ρ σ ⟨found, part, k, h1, h2, h3, h4, h5, rfl, h6, h7⟩
  have hk : 0 < part → k ≤ 28 := fun hp => by
    by_cases z : k ≤ 28
    · exact z
    · exfalso
      have a1 : (4 : Int) ^ 29 ≤ 4 ^ k := pow_le_pow' (b := 4) (by decide) (by lia)
      have a2 : 1 * (4 : Int) ^ 29 ≤ part * 4 ^ k := Int.mul_le_mul (by lia) a1 (by decide) (by lia)
      have a3 : (2 : Int) ^ 56 < 1 * 4 ^ 29 := by decide
      lia
  have e2 : (k : Int).fmod 2 = (k : Int) % 2 := Int.fmod_eq_emod_of_nonneg _ (by decide)
  have key : 0 < part → ∀ z ρ', z = (found + if (k : Int) % 2 = 0 then part / (2 * (k : Int) + 1) else 0 - part / (2 * (k : Int) + 1)) → ρ' "x" = some (.int x) → ρ' "found" = some (.int z) → ρ' "k" = some (.int ((k : Int) + 1)) → ρ' "part" = some (.int (part.fdiv (x * x))) → ∃ m, m < part.toNat ∧ J m ρ' σ := by
    intro hp z ρ' ez g1 g2 g3 g4
    rw [Int.fdiv_eq_ediv_of_nonneg _ (show 0 ≤ x * x by lia)] at g4
    have b1 : 0 ≤ part / (x * x) := Int.ediv_nonneg h5 (by lia)
    have b2 : part / (x * x) * 4 ≤ part := by
      have q1 := Int.ediv_mul_le part (show x * x ≠ 0 by lia)
      have q2 : part / (x * x) * 4 ≤ part / (x * x) * (x * x) := Int.mul_le_mul_of_nonneg_left hs.1 b1
      lia
    refine ⟨_, by lia, z, part / (x * x), k + 1, g1, g2, by rw [g3]; rfl, g4, b1, rfl, ?_, ?_⟩
    · rw [Int.pow_succ, Int.mul_comm (4 ^ k) 4, ← Int.mul_assoc]
      exact Int.le_trans (Int.mul_le_mul_of_nonneg_right b2 (Int.le_of_lt (Int.pow_pos (by decide)))) h6
    · rw [← h7]
      have step : arcP x (part.toNat + 1) found k part = arcP x part.toNat z (k + 1) (part / (x * x)) := by rw [arcP, if_pos hp, ← ez]
      rw [step]
      have mono : ∀ (j f : Nat) (u c q : Int), q.toNat < f → arcP x (f + j) u c q = arcP x f u c q := by
        intro j
        induction j with
        | zero => intro f u c q _; rfl
        | succ j ih => intro f u c q hq; rw [← Nat.add_assoc, arcP_succ hx.1 (by lia), ih f u c q hq]
      have := mono (part.toNat - ((part / (x * x)).toNat + 1)) ((part / (x * x)).toNat + 1) z (k + 1) (part / (x * x)) (by lia)
      rw [show ((k + 1 : Nat) : Int) = (k : Int) + 1 from rfl, ← this, show (part / (x * x)).toNat + 1 + (part.toNat - ((part / (x * x)).toNat + 1)) = part.toNat by lia]
  walk_at "m_go"
  · rename_i c1 c2
    refine key c1 _ _ ?_ (by walk_at "m_look") (by walk_at "m_look") (by walk_at "m_look") (by walk_at "m_look")
    rw [if_pos (by lia), Int.fdiv_eq_ediv_of_nonneg _ (show 0 ≤ 2 * (k : Int) + 1 by lia)]
  · rename_i c1 c2
    refine key c1 _ _ ?_ (by walk_at "m_look") (by walk_at "m_look") (by walk_at "m_look") (by walk_at "m_look")
    rw [if_neg (by lia), Int.fdiv_eq_ediv_of_nonneg _ (show 0 ≤ 2 * (k : Int) + 1 by lia)]
  · rename_i c1
    refine Bk.pure ?_ rfl
    rw [← h7, arcP_end (by lia)]
end

-- part f23
section
variable {prog : Program} {w : World} {B : Heap} {d : Nat}
theorem rho_mem {x : Str} {V : Mine.V} : ∀ {names : List Str} {Vs : List Mine.V} {r : Rho}, sets r names Vs x = some V → (x, V) ∈ names.zip Vs ∨ r x = some V
  | [], [], r, e => .inr e
  | [], _ :: _, r, e => .inr e
  | _ :: _, [], r, e => .inr e
  | n :: names, W :: Vs, r, e => by
    rcases rho_mem (names := names) (Vs := Vs) e with q | q
    · exact .inl (.tail _ q)
    · unfold setv at q
      by_cases z : x = n
      · simp only [z, if_true, Option.some.injEq] at q; subst q; subst z; exact .inl (.head _)
      · simp only [z, if_false] at q; exact .inr q
theorem rho0_mem {x : Str} {V : Mine.V} {names : List Str} {Vs : List Mine.V} (e : rho0 names Vs x = some V) : (x, V) ∈ names.zip Vs := (rho_mem e).elim id fun q => by cases q
theorem clos_inj {cs : List (Str × Addr)} (h : cs.Pairwise fun x y => x.2 ≠ y.2) : ∀ x y c, cs.lookup x = some c → cs.lookup y = some c → x = y := fun _ _ _ e e' => name_of_addr h (mem_of_lookup e) (mem_of_lookup e')
set_option maxHeartbeats 4000000 in
theorem fewer_ok (G : GOk B (kap.heap_1 w.params)) (GB : Bm B) (C4 : CodeHd B 418 414) {v n : Int} (hv : 1 ≤ v ∧ v ≤ 9) (hn : n < 0) : CallG prog w B (d + 22) 419 [.int n, .int v] (upd pur 414 (.tb [])) (fun V σ' => V = .bool true ∧ ∃ l, σ' 414 = some (.tb l)) (fun _ => False) := by
  refine call_fnC (names := ["n", "w"]) G (by rfl) (by rfl) rfl (by walk_at "m_bind") (by intro x hx; simp only [List.mem_cons, List.not_mem_nil, or_false] at hx; rcases hx with rfl | rfl <;> exact .inr rfl) rfl rfl rfl ?_
  intro A outer h0 R s0 L O
  refine Ex.cons (Ex1.asg O (Ev.lvO (EvL.cons ?_)))
  refine Ev.heard (d := d + 19) (ρ2 := rho0 ["n", "w"] [.int n, .int v]) (Xb := fun C => C = 61) (Qb := fun _ => False) G GB O (by rfl) (by walk_at "m_led") (by decide) rfl C4 (by rfl) (by rfl) (fun _ _ _ => rfl) rfl rfl rfl (by decide) ?_ (clos_inj (by simp)) (fun _ h => .inr (.inr h)) ?_ ?_
  · intro x V e
    have q := rho0_mem e
    simp only [List.zip_cons_cons, List.zip_nil_right, List.mem_cons, List.not_mem_nil, or_false, Prod.mk.injEq] at q
    rcases q with ⟨rfl, rfl⟩ | ⟨rfl, rfl⟩ <;> exact ⟨by walk_at "m_look", by rfl, by rfl, by rfl⟩
  · intro lam c' A outer h0 R s0 L O2
    walk_at "m_go"
    refine opn_pure O2 (e_bits_ok G hv hn) (by walk_at "m_args") (fun _ h => h) ?_
    intro _ _ h
    exact h.elim
  rintro V (q | ⟨_, q⟩ | ⟨_, q⟩ | ⟨rfl, _⟩)
  · exact q.elim
  · exact absurd q (by decide)
  · exact absurd q (by decide)
  refine EvL.nil ⟨by simp, fun a ha => ?_⟩
  refine Ex.cons (Ex1.appendV O (by walk_at "m_look") ⟨_, by walk_at "m_led", fun _ q => by cases q⟩ ?_)
  refine Ev.heard (d := d + 19) (ρ2 := rho0 ["n", "w"] [.int n, .int v]) (Xb := fun C => C = 61) (Qb := fun _ => False) G GB O (by rfl) (by walk_at "m_led") (by decide) rfl C4 (by rfl) (by rfl) (fun _ _ _ => rfl) rfl rfl rfl (by decide) ?_ (clos_inj (by simp)) (fun _ h => .inr (.inr h)) ?_ ?_
  · intro x V e
    have q := rho0_mem e
    simp only [List.zip_cons_cons, List.zip_nil_right, List.mem_cons, List.not_mem_nil, or_false, Prod.mk.injEq] at q
    rcases q with ⟨rfl, rfl⟩ | ⟨rfl, rfl⟩ <;> exact ⟨by walk_at "m_look", by rfl, by rfl, by rfl⟩
  · intro lam c' A outer h0 R s0 L O2
    walk_at "m_go"
    refine opn_pure O2 ((arctan_ok (x := 5) G hv ⟨by decide, by decide⟩ (Int.le_trans (Int.le_of_lt hn) (by decide)) (fun _ => rfl))) (by walk_at "m_args") (fun _ h => h.1) ?_
    intro _ _ h
    exact absurd h.2.2 (by lia)
  rintro V (q | ⟨_, q⟩ | ⟨_, q⟩ | ⟨rfl, _⟩)
  · exact q.elim
  · exact absurd q (by decide)
  · exact absurd q (by decide)
  refine ⟨_, by walk_at "m_led", by simp, ?_⟩
  refine Ex.cons (Ex1.appendV O (by walk_at "m_look") ⟨_, by walk_at "m_led", fun _ q => by cases q⟩ ?_)
  refine Ev.heard (d := d + 19) (ρ2 := rho0 ["n", "w"] [.int n, .int v]) (Xb := fun C => C = 61) (Qb := fun _ => False) G GB O (by rfl) (by walk_at "m_led") (by decide) rfl C4 (by rfl) (by rfl) (fun _ _ _ => rfl) rfl rfl rfl (by decide) ?_ (clos_inj (by simp)) (fun _ h => .inr (.inr h)) ?_ ?_
  · intro x V e
    have q := rho0_mem e
    simp only [List.zip_cons_cons, List.zip_nil_right, List.mem_cons, List.not_mem_nil, or_false, Prod.mk.injEq] at q
    rcases q with ⟨rfl, rfl⟩ | ⟨rfl, rfl⟩ <;> exact ⟨by walk_at "m_look", by rfl, by rfl, by rfl⟩
  · intro lam c' A outer h0 R s0 L O2
    walk_at "m_go"
    refine opn_pure O2 ((machin_ok (d := d + 17) G hn)) (by walk_at "m_args") (fun _ h => h) ?_
    intro _ _ h
    exact h.elim
  rintro V (q | ⟨_, q⟩ | ⟨_, q⟩ | ⟨rfl, _⟩)
  · exact q.elim
  · exact absurd q (by decide)
  · exact absurd q (by decide)
  refine ⟨_, by walk_at "m_led", by simp, ?_⟩
  refine Ex.cons (Ex1.appendV O (by walk_at "m_look") ⟨_, by walk_at "m_led", fun _ q => by cases q⟩ ?_)
  refine Ev.heard (d := d + 19) (ρ2 := rho0 ["n", "w"] [.int n, .int v]) (Xb := fun C => C = 61) (Qb := fun _ => False) G GB O (by rfl) (by walk_at "m_led") (by decide) rfl C4 (by rfl) (by rfl) (fun _ _ _ => rfl) rfl rfl rfl (by decide) ?_ (clos_inj (by simp)) (fun _ h => .inr (.inr h)) ?_ ?_
  · intro x V e
    have q := rho0_mem e
    simp only [List.zip_cons_cons, List.zip_nil_right, List.mem_cons, List.not_mem_nil, or_false, Prod.mk.injEq] at q
    rcases q with ⟨rfl, rfl⟩ | ⟨rfl, rfl⟩ <;> exact ⟨by walk_at "m_look", by rfl, by rfl, by rfl⟩
  · intro lam c' A outer h0 R s0 L O2
    walk_at "m_go"
    refine opn_pure O2 ((chud_ok (d := d + 17) G hn)) (by walk_at "m_args") (fun _ h => h) ?_
    intro _ _ h
    exact h.elim
  rintro V (q | ⟨_, q⟩ | ⟨_, q⟩ | ⟨rfl, _⟩)
  · exact q.elim
  · exact absurd q (by decide)
  · exact absurd q (by decide)
  refine ⟨_, by walk_at "m_led", by simp, ?_⟩
  refine Ex.cons (Ex1.appendV O (by walk_at "m_look") ⟨_, by walk_at "m_led", fun _ q => by cases q⟩ ?_)
  refine Ev.heard (d := d + 19) (ρ2 := rho0 ["n", "w"] [.int n, .int v]) (Xb := fun C => C = 61) (Qb := fun _ => False) G GB O (by rfl) (by walk_at "m_led") (by decide) rfl C4 (by rfl) (by rfl) (fun _ _ _ => rfl) rfl rfl rfl (by decide) ?_ (clos_inj (by simp)) (fun _ h => .inr (.inr h)) ?_ ?_
  · intro x V e
    have q := rho0_mem e
    simp only [List.zip_cons_cons, List.zip_nil_right, List.mem_cons, List.not_mem_nil, or_false, Prod.mk.injEq] at q
    rcases q with ⟨rfl, rfl⟩ | ⟨rfl, rfl⟩ <;> exact ⟨by walk_at "m_look", by rfl, by rfl, by rfl⟩
  · intro lam c' A outer h0 R s0 L O2
    walk_at "m_go"
    refine opn_pure O2 ((digits_ok (d := d + 17) G hn)) (by walk_at "m_args") (fun _ h => h) ?_
    intro _ _ h
    exact h.elim
  rintro V (q | ⟨_, q⟩ | ⟨_, q⟩ | ⟨rfl, _⟩)
  · exact q.elim
  · exact absurd q (by decide)
  · exact absurd q (by decide)
  refine ⟨_, by walk_at "m_led", by simp, ?_⟩
  refine Ex.cons (Ex1.ret (Ev.cmp ?_))
  refine Ev.loc O (by walk_at "m_look") (Ev.lvO ?_)
  walk_at "m_go"
  rename_i b hb
  have hab : a ≠ b := ne_some hb (by walk_at "m_led")
  refine cm_eq_strs (m := "range") O (upd_ne hab upd_same) (by walk_at "m_led") range_shaped ?_
  refine Bk.mutG (ys := .tb _) (by walk_at "m_led") rfl ⟨rfl, _, by walk_at "m_led"⟩ rfl
end

-- part f24
section
variable {prog : Program} {w : World} {B : Heap} {d : Nat}
/-- the last test of the law, for one pair -/
noncomputable def chk (x n : Int) : Bool := decide (0 ≤ arc x n) && decide (arc x n * 2 ^ 40 ≤ arcL x (n + 40) + 4096) && decide (arcL x (n + 40) - 4096 < (arc x n + 2) * 2 ^ 40) && decide (arc x n < 2 ^ 60)
theorem chk_all : ∀ i : Fin 7, ∀ j : Fin 17, chk ((i.val : Int) + 2) (j.val : Int) = true := by decide +kernel
theorem chk_of {x n : Int} (hx : 2 ≤ x ∧ x ≤ 8) (hn : 0 ≤ n ∧ n ≤ 16) : 0 ≤ arc x n ∧ arc x n * 2 ^ 40 ≤ arcL x (n + 40) + 4096 ∧ arcL x (n + 40) - 4096 < (arc x n + 2) * 2 ^ 40 ∧ arc x n < 2 ^ 60 := by
  have h := chk_all ⟨(x - 2).toNat, by lia⟩ ⟨n.toNat, by lia⟩
  have e1 : (((x - 2).toNat : Nat) : Int) + 2 = x := by lia
  have e2 : ((n.toNat : Nat) : Int) = n := by lia
  simp only [e1, e2, chk, Bool.and_eq_true, decide_eq_true_eq] at h
  exact ⟨h.1.1.1, h.1.1.2, h.1.2, h.2⟩
theorem lbs_sum {v : Int} (hv : 0 ≤ v) : ∀ xs : List Int, (lbs v xs).sum = val (bs v) xs := by
  have key : ∀ (xs : List Int) (k : Nat), ((List.range xs.length).map fun (i : Nat) => xs.getD i 0 * 2 ^ (v * ((i + k : Nat) : Int)).toNat).sum = val (bs v) xs * 2 ^ (v * (k : Int)).toNat := by
    intro xs
    induction xs with
    | nil => intro k; simp [val]
    | cons x xs ih =>
      intro k
      rw [List.length_cons, List.range_succ_eq_map, List.map_cons, List.sum_cons, List.map_map]
      have e := ih (k + 1)
      have e2 : ((fun (i : Nat) => (x :: xs).getD i 0 * 2 ^ (v * ((i + k : Nat) : Int)).toNat) ∘ Nat.succ) = fun (i : Nat) => xs.getD i 0 * 2 ^ (v * ((i + (k + 1) : Nat) : Int)).toNat := by
        funext i
        simp only [Function.comp, List.getD_cons_succ]
        rw [show i.succ + k = i + (k + 1) by lia]
      rw [e2, e, val]
      have e3 : (v * ((k + 1 : Nat) : Int)).toNat = v.toNat + (v * (k : Int)).toNat := by
        have : v * ((k + 1 : Nat) : Int) = v + v * (k : Int) := by rw [Int.natCast_succ, Int.mul_add, Int.mul_one, Int.add_comm]
        rw [this]
        have h2 := Int.mul_nonneg hv (show (0 : Int) ≤ (k : Int) by lia)
        lia
      rw [e3, Int.pow_add]
      simp only [List.getD_cons_zero, Nat.zero_add, bs]
      grind
  intro xs
  have := key xs 0
  simpa [lbs] using this
section
variable {F : FC} {ρ : Rho} {σ : Led} {X : Addr → Prop} {Q : V → Led → Prop}
theorem opn_next (G : GOk B (kap.heap_1 w.params)) (O : FOk B (d + 1) F) {r : Addr} {ys : List Int} {t many : Int} (hr : σ r = some (.lv [.lst ys, .int t])) (hy : ys.length ≤ 20) (ht : 0 ≤ t ∧ t < 2 ^ 20) (hm : 0 < many)
    (h : ∀ x, 0 ≤ x → x < many → Q (.int x) (upd σ r (.lv [.lst ys, .int (t + 1)]))) : OpN prog w B F (fun us => call (.ref 391) us) [.own r, .int many] ρ σ X Q :=
  opn_mutG O hr rfl (next_ok G hy ht hm) (ArgsOk.c Arg.same (ArgsOk.c Arg.same ArgsOk.n)) (fun _ q => q.elim) fun V σ' ⟨x, e, h1, h2, e1⟩ => ⟨_, e1, by subst e; exact h x h1 h2⟩
end
end

-- part f25
section
variable {prog : Program} {w : World} {B : Heap} {d : Nat}
/-- what the law expects of the division -/
noncomputable def due (b : Int) (s : Bool) (m dv : Int) : V := if dv < 1 then (if dv = 0 then .str "nought" else .str "range") else if m % dv = 0 then .tup [.bool s, .lst (D b (m / dv))] else .str "rest"
/-- how the law ends -/
def LawEnd (V : V) (σ' : Led) : Prop := V = .bool true ∧ (∃ l, σ' 414 = some (.tb l)) ∧ ∃ l, σ' 421 = some (.tb l)
set_option maxHeartbeats 16000000 in
theorem law_ex (G : GOk B (kap.heap_1 w.params)) (GB : Bm B) (C4 : CodeHd B 418 414) (C21 : CodeHd B 423 421) {params : Arguments} {body : List Stmt} {scope : Scope} {dV kV doc pm cdv ct oc : Value} {an od : Option Addr} {osl : Array (Option Value)}
    (ho : (kap.heap_1 w.params).lookup 424 = some ⟨oc, od, .func (fnOf "law" "law" params body scope dV kV doc pm an cdv ct), osl⟩) {A : Around} {L fa : Addr} {h0 : PH} {R : Addr → Prop} {s0 : Shared}
    (O : FOk B 30 (mkF A (envOfC "law" scope L fa (.ref 423)) [] h0 R s0)) {xs : List Int} {σ : Led} (hxs : xs.length ≤ 63) (s4 : σ 414 = some (.tb [])) (s21 : σ 421 = some (.tb [])) :
    Ex prog w B (mkF A (envOfC "law" scope L fa (.ref 423)) [] h0 R s0) body (rho0 ["script"] [.par xs]) σ (fun _ => False) (fun _ _ => False) LawEnd := by
  have e := ho.symm.trans (rfl : (kap.heap_1 w.params).lookup 424 = some ⟨_, _, .func (fnOf _ _ _ _ _ _ _ _ _ _ _ _), _⟩)
  cases e
  clear ho
  refine Ex.cons (Ex1.asg O (Ev.lvO ?_))
  walk_at "m_go"
  rename_i r hr
  have hy : (List.take (kms_hi (some 20) xs.length - kms_lo none xs.length) (List.drop (kms_lo none xs.length) xs)).length ≤ 20 := by
    rw [List.length_take, List.length_drop]
    have : kms_hi (some 20) xs.length ≤ 20 := by simp only [kms_hi]; rw [if_neg (by decide)]; exact Nat.min_le_left _ _
    lia
  generalize List.take (kms_hi (some 20) xs.length - kms_lo none xs.length) (List.drop (kms_lo none xs.length) xs) = ys at *
  have n41 : (414 : Addr) ≠ 421 := by decide
  have r4 : r ≠ 414 := fun q => by rw [q, s4] at hr; cases hr
  have r21 : r ≠ 421 := fun q => by rw [q, s21] at hr; cases hr
  walk_at "m_go"
  with_reducible show OpN _ _ _ _ _ _ _ _ _ _
  refine opn_next G O (by walk_at "m_led") hy (by decide) (by decide) ?_
  intro x1 a1 a2
  walk_at "m_go"
  with_reducible show OpN _ _ _ _ _ _ _ _ _ _
  refine opn_next G O (by walk_at "m_led") hy (by decide) (by decide) ?_
  intro x2 b1 b2
  walk_at "m_go"
  refine ⟨_, _, _, rfl, ?_⟩
  walk_at "m_go"
  with_reducible show OpN _ _ _ _ _ _ _ _ _ _
  refine opn_next G O (by walk_at "m_led") hy (by decide) (by decide) ?_
  intro x3 c1 c2
  walk_at "m_go"
  have hv : 2 ≤ 2 + x1 ∧ 2 + x1 ≤ 9 := by lia
  have hdv : -3 ≤ x2 - 3 ∧ x2 - 3 ≤ 20 := by lia
  generalize 2 + x1 = v at *
  generalize x2 - 3 = dv at *
  have hb := bs2 (w := v) (by lia)
  have hbh := bs_hi (w := v) hv.2
  let J : Nat → Rho → Led → Prop := fun i ρ σ' => E2 fun m t => C9 (ρ "rope" = some (.own r)) (ρ "w" = some (.int v)) (ρ "d" = some (.int dv)) (ρ "size" = some (.int m)) ((0 ≤ m ∧ m < 512 ^ i)) (σ' r = some (.lv [.lst ys, .int t])) ((0 ≤ t ∧ t ≤ 10 + i)) (σ' 414 = some (.tb [])) (σ' 421 = some (.tb []))
  refine ⟨J, ⟨0, _, by walk_at "m_look", by walk_at "m_look", by walk_at "m_look", by walk_at "m_look", by lia, by walk_at "m_led", by lia, upd_ne (Ne.symm r4) (upd_ne (Ne.symm r4) (upd_ne (Ne.symm r4) (upd_ne (Ne.symm r4) s4))), upd_ne (Ne.symm r21) (upd_ne (Ne.symm r21) (upd_ne (Ne.symm r21) (upd_ne (Ne.symm r21) s21)))⟩, ?_, ?_⟩
  · rintro i ρ σ' hi ⟨m, t, h1, h2, h3, h4, h5, h6, h7, h8, h9⟩
    walk_at "m_go"
    with_reducible show OpN _ _ _ _ _ _ _ _ _ _
    refine opn_next G O (by walk_at "m_led") hy (by lia) (Int.pow_pos (by decide)) ?_
    intro x4 d1 d2
    walk_at "m_go"
    · have e2 : ((2 : Int) ^ v.toNat) = bs v := rfl
      rw [e2] at d2 ⊢
      have q1 : (m + 1) * bs v ≤ 512 ^ i * 512 := Int.mul_le_mul (by lia) hbh (by lia) (Int.le_of_lt (Int.pow_pos (by decide)))
      have q2 : 0 ≤ m * bs v := Int.mul_nonneg h5.1 (by lia)
      rw [Int.add_mul, Int.one_mul] at q1
      exact ⟨_, _, by walk_at "m_look", by walk_at "m_look", by walk_at "m_look", by walk_at "m_look", ⟨by lia, by rw [Int.pow_succ]; lia⟩, by walk_at "m_led", by lia, upd_ne (Ne.symm r4) h8, upd_ne (Ne.symm r21) h9⟩
    · have e2 : ((2 : Int) ^ v.toNat) = bs v := rfl
      rw [e2]; exact .inr (by lia)
  clear s4 s21
  rintro ρ σ' ⟨m, t, h1, h2, h3, h4, h5, h6, h7, s4, s21⟩
  have hm : m < 512 ^ 4 := Int.lt_of_lt_of_le h5.2 (pow_le_pow' (b := 512) (by decide) (by lia))
  replace h7 : 0 ≤ t ∧ t ≤ 20 := by lia
  replace h5 := h5.1
  clear J
  let I : Int → Int → Rho → Led → Prop := fun T M ρ σ' => ∃ t, C8 (ρ "rope" = some (.own r)) (ρ "w" = some (.int v)) (ρ "d" = some (.int dv)) (ρ "size" = some (.int M)) (σ' r = some (.lv [.lst ys, .int t])) ((0 ≤ t ∧ t ≤ T)) (σ' 414 = some (.tb [])) (σ' 421 = some (.tb []))
  refine Ex.cons (Ex1.mono (N := fun ρ σ' => ∃ M, (0 ≤ M ∧ M < 2 ^ 45) ∧ I 30 M ρ σ') (Rt := fun _ _ => False) ?_ ?_ (fun _ _ h => h.elim))
  · have mk : Frz := trivial
    walk_at "m_go"
    with_reducible show OpN _ _ _ _ _ _ _ _ _ _
    refine opn_next G O (by walk_at "m_led") hy (by lia) (by decide) ?_
    intro x5 e1 e2
    walk_at "m_go"
    with_reducible show OpN _ _ _ _ _ _ _ _ _ _
    refine opn_next G O (by walk_at "m_led") hy (by lia) (by decide) ?_
    intro x6 f1 f2
    walk_at "m_go"
    have gE : 0 ≤ [(0 : Int), 0, 1, x5].getD x6.toNat 0 ∧ [(0 : Int), 0, 1, x5].getD x6.toNat 0 < 30 := by
      have : x6 = 0 ∨ x6 = 1 ∨ x6 = 2 ∨ x6 = 3 := by lia
      rcases this with rfl | rfl | rfl | rfl
      · exact ⟨(by decide : (0 : Int) ≤ 0), (by decide : (0 : Int) < 30)⟩
      · exact ⟨(by decide : (0 : Int) ≤ 0), (by decide : (0 : Int) < 30)⟩
      · exact ⟨(by decide : (0 : Int) ≤ 1), (by decide : (1 : Int) < 30)⟩
      · exact ⟨e1, e2⟩
    have gC : 1 ≤ (if 1 > dv then 1 else dv) ∧ (if 1 > dv then 1 else dv) ≤ 20 := by split <;> lia
    have q1 : m * (if 1 > dv then 1 else dv) ≤ 512 ^ 4 * 20 := Int.mul_le_mul (by lia) gC.2 (by lia) (by decide)
    have q2 : 0 ≤ m * (if 1 > dv then 1 else dv) := Int.mul_nonneg h5 (by lia)
    refine ⟨_, ⟨Int.add_nonneg q2 gE.1, ?_⟩, _, by walk_at "m_look", by walk_at "m_look", by walk_at "m_look", by walk_at "m_look", by walk_at "m_led", by lia, by walk_at "m_led", by walk_at "m_led"⟩
    have q3 : (512 : Int) ^ 4 * 20 + 30 < 2 ^ 45 := by decide
    have q4 := gE.2
    show m * (if 1 > dv then 1 else dv) + [(0 : Int), 0, 1, x5].getD x6.toNat 0 < 2 ^ 45
    lia
  clear h1 h2 h3 h4 h6 h7 s4 s21
  rintro ρ σ' ⟨M, hM, t, h1, h2, h3, h4, h6, h7, s4, s21⟩
  refine Ex.cons (Ex1.mono (N := fun ρ σ' => ∃ s, I 31 M ρ σ' ∧ ρ "is_below" = some (.bool s)) (Rt := fun _ _ => False) ?_ ?_ (fun _ _ h => h.elim))
  · walk_at "m_go"
    with_reducible show OpN _ _ _ _ _ _ _ _ _ _
    refine opn_next G O (by walk_at "m_led") hy (by lia) (by decide) ?_
    intro x7 e1 e2
    walk_at "m_go"
    · exact ⟨_, ⟨_, by walk_at "m_look", by walk_at "m_look", by walk_at "m_look", by walk_at "m_look", by walk_at "m_led", by lia, by walk_at "m_led", by walk_at "m_led"⟩, by walk_at "m_look"⟩
    · exact ⟨_, ⟨_, by walk_at "m_look", by walk_at "m_look", by walk_at "m_look", by walk_at "m_look", by walk_at "m_led", by lia, by walk_at "m_led", by walk_at "m_led"⟩, by walk_at "m_look"⟩
  clear h1 h2 h3 h4 h6 h7 s4 s21
  rintro ρ σ' ⟨s, ⟨t, h1, h2, h3, h4, h6, h7, s4, s21⟩, h8⟩
  have sM : Sm M := ⟨hM.1, Int.lt_trans hM.2 (by decide)⟩
  refine Ex.cons (Ex1.asg O (Ev.heard (d := 28) (ρ2 := rho0 ["d", "is_below", "size", "w"] [.int dv, .bool s, .int M, .int v]) (Xb := fun C => (C = 37 ∧ dv = 0) ∨ (C = 61 ∧ dv < 0) ∨ (C = 49 ∧ 0 < dv ∧ M % dv ≠ 0)) (Qb := fun V => V = .tup [.bool s, .lst (D (bs v) (M / dv))] ∧ 0 < dv ∧ M % dv = 0)
    G GB O (by rfl) s21 (by decide) rfl C21 (by rfl) (by rfl) (fun _ _ _ => rfl) rfl rfl rfl (by decide) ?_ (clos_inj (by simp <;> lia)) ?_ ?_ ?_))
  · intro x V e
    have q := rho0_mem e
    simp only [List.zip_cons_cons, List.zip_nil_right, List.mem_cons, List.not_mem_nil, or_false, Prod.mk.injEq] at q
    rcases q with ⟨rfl, rfl⟩ | ⟨rfl, rfl⟩ | ⟨rfl, rfl⟩ | ⟨rfl, rfl⟩ <;> exact ⟨by assumption, by rfl, by rfl, by rfl⟩
  · rintro C (⟨rfl, _⟩ | ⟨rfl, _⟩ | ⟨rfl, _⟩)
    · exact .inl rfl
    · exact .inr (.inr rfl)
    · exact .inr (.inl rfl)
  · intro lam c' A outer h0 R s0 L O2
    walk_at "m_go"
    refine opn_pure O2 (row_ok (d := 27) G (v := v) (by lia) sM) (by walk_at "m_args") (fun _ h => h.elim) ?_
    rintro _ _ rfl
    walk_at "m_go"
    refine opn_pure O2 (exact_small_ok (d := 26) G (v := v) (m := M) (dv := dv) (s := s) (by lia) sM (by lia)) (by walk_at "m_args") (fun _ h => h) ?_
    rintro _ _ ⟨rfl, q1, q2⟩
    exact ⟨⟨rfl, q1, q2⟩, rfl⟩
  intro V hV
  have eV : V = due (bs v) s M dv := by
    unfold due
    rcases hV with ⟨rfl, q1, q2⟩ | ⟨rfl, (q | q | q)⟩ | ⟨rfl, (q | q | q)⟩ | ⟨rfl, (q | q | q)⟩
    · rw [if_neg (by lia), if_pos q2]
    · rw [if_pos (by lia), if_pos q.2]
    · exact absurd q.1 (by decide)
    · exact absurd q.1 (by decide)
    · exact absurd q.1 (by decide)
    · exact absurd q.1 (by decide)
    · rw [if_neg (by lia), if_neg q.2.2]
    · exact absurd q.1 (by decide)
    · rw [if_pos (by lia), if_neg (by lia)]
    · exact absurd q.1 (by decide)
  subst eV
  clear hV
  let I2 : Rho → Led → Prop := fun ρ σ' => E2 fun t l => C9 (ρ "rope" = some (.own r)) (ρ "w" = some (.int v)) (ρ "found" = some (due (bs v) s M dv)) (ρ "due" = some (due (bs v) s M dv)) (σ' r = some (.lv [.lst ys, .int t])) ((0 ≤ t ∧ t ≤ 31)) (σ' 414 = some (.tb [])) (σ' 421 = some (.tb l)) (((332 : Int), (22 : Int)) ∉ l)
  refine Ex.cons (Ex1.mono (N := I2) (Rt := fun _ _ => False) ?_ ?_ (fun _ _ h => h.elim))
  · walk_at "m_go"
    · have e : due (bs v) s M dv = .str "nought" := by unfold due; rw [if_pos (by lia), if_pos (by lia)]
      exact ⟨_, _, by walk_at "m_look", by walk_at "m_look", by walk_at "m_look", by rw [e]; walk_at "m_look", by walk_at "m_led", by lia, by walk_at "m_led", by walk_at "m_led", by decide⟩
    · have e : due (bs v) s M dv = .str "range" := by unfold due; rw [if_pos (by lia), if_neg (by lia)]
      exact ⟨_, _, by walk_at "m_look", by walk_at "m_look", by walk_at "m_look", by rw [e]; walk_at "m_look", by walk_at "m_led", by lia, by walk_at "m_led", by walk_at "m_led", by decide⟩
    · rename_i g1 g2
      rw [Int.fmod_eq_emod_of_nonneg _ (by lia)] at g2
      have e : due (bs v) s M dv = .tup [.bool s, .lst (D (bs v) (M / dv))] := by unfold due; rw [if_neg (by lia), if_pos g2]
      rw [Int.fdiv_eq_ediv_of_nonneg _ (show 0 ≤ dv by lia)]
      have q1 : 0 ≤ M / dv := Int.ediv_nonneg hM.1 (by lia)
      have q2 : M / dv ≤ M := Int.ediv_le_self dv hM.1
      refine opn_pure O (row_ok (d := 29) G (v := v) (n := M / dv) (by lia) ⟨q1, Int.lt_of_le_of_lt q2 sM.hi⟩) (by walk_at "m_args") (fun _ h => h.elim) ?_
      rintro _ _ rfl
      walk_at "m_go"
      exact ⟨_, _, by walk_at "m_look", by walk_at "m_look", by walk_at "m_look", by rw [e]; walk_at "m_look", by walk_at "m_led", by lia, by walk_at "m_led", by walk_at "m_led", by decide⟩
    · rename_i g1 g2
      rw [Int.fmod_eq_emod_of_nonneg _ (by lia)] at g2
      have e : due (bs v) s M dv = .str "rest" := by unfold due; rw [if_neg (by lia), if_neg g2]
      exact ⟨_, _, by walk_at "m_look", by walk_at "m_look", by walk_at "m_look", by rw [e]; walk_at "m_look", by walk_at "m_led", by lia, by walk_at "m_led", by walk_at "m_led", by decide⟩
  clear h1 h2 h3 h4 h6 h7 h8 s4 s21
  rintro ρ σ' ⟨t, l, h1, h2, h3, h4, h6, h7, s4, s21, hl⟩
  have key : ∀ {ρ : Rho} {σ : Led} {X : Addr → Prop} {P : Bool → Led → Prop} {F : FC}, FOk B 30 F → P false σ → CmT prog w B F .NotEq (due (bs v) s M dv) (due (bs v) s M dv) ρ σ X P := by
    intro ρ σ X P F O hP
    unfold due
    split
    · split
      · exact cm_nes (by simpa using hP)
      · exact cm_nes (by simpa using hP)
    · split
      · exact cm_ne_tup O hP
      · exact cm_nes (by simpa using hP)
  refine Ex.cons (Ex1.ife (Tst.cmp (Ev.loc O h3 (Ev.loc O h4 (key O ?_)))))
  walk_at "m_go"
  with_reducible show OpN _ _ _ _ _ _ _ _ _ _
  refine opn_next G O (by walk_at "m_led") hy (by lia) (by decide) ?_
  intro x8 e1 e2
  walk_at "m_go"
  with_reducible show OpN _ _ _ _ _ _ _ _ _ _
  refine opn_next G O (by walk_at "m_led") hy (by lia) (by decide) ?_
  intro n f1 f2
  walk_at "m_go"
  refine Tst.val ?_
  walk_at "m_go"
  with_reducible show OpN _ _ _ _ _ _ _ _ _ _
  refine opn_next G O (by walk_at "m_led") hy (by lia) (by decide) ?_
  intro x9 g1 g2
  walk_at "m_go"
  with_reducible show OpN _ _ _ _ _ _ _ _ _ _
  refine opn_mutG (d := 30) O (by walk_at "m_led") rfl (fewer_ok (d := 8) G GB C4 (v := v) (n := 0 - 1 - x9) (by lia) (by lia)) (by walk_at "m_args") (fun _ h => h.elim) ?_
  rintro _ _ ⟨rfl, l4, e4⟩
  refine ⟨_, e4, true, rfl, ?_⟩
  refine (show Ex prog w B _ _ _ _ _ _ _ from ?_)
  refine Ex.nil ?_
  have hx : -1 ≤ x8 - 1 ∧ x8 - 1 ≤ 8 := by lia
  generalize x8 - 1 = x at *
  refine Ex.cons (Ex1.asg O (Ev.heard (d := 28) (ρ2 := rho0 ["n", "w", "x"] [.int n, .int v, .int x]) (Xb := fun C => C = 61 ∧ (x < 2 ∨ n < 0)) (Qb := fun V => V = .lst (D (bs v) (arc x n)) ∧ 2 ≤ x ∧ 0 ≤ n)
    G GB O (by rfl) (by walk_at "m_led") hl rfl C21 (by rfl) (by rfl) (fun _ _ _ => rfl) rfl rfl rfl (by decide) ?_ (clos_inj (by simp <;> lia)) (fun C h => .inr (.inr h.1)) ?_ ?_))
  · intro z V e
    have q := rho0_mem e
    simp only [List.zip_cons_cons, List.zip_nil_right, List.mem_cons, List.not_mem_nil, or_false, Prod.mk.injEq] at q
    rcases q with ⟨rfl, rfl⟩ | ⟨rfl, rfl⟩ | ⟨rfl, rfl⟩ <;> exact ⟨by walk_at "m_look", by rfl, by rfl, by rfl⟩
  · intro lam c' A outer h0 R s0 L O2
    walk_at "m_go"
    with_reducible show OpN _ _ _ _ _ _ _ _ _ _
    refine opn_pure O2 (arctan_ok (d := 9) G (v := v) (x := x) (n := n) (by lia) hx (by lia) (fun h => absurd f1 (by lia))) (by walk_at "m_args") (fun _ h => h) ?_
    rintro _ _ ⟨rfl, q1, q2⟩
    exact ⟨⟨rfl, q1, q2⟩, rfl⟩
  intro V hV
  by_cases hx2 : x < 2
  · have eV : V = .str "range" := by
      rcases hV with ⟨rfl, q1, q2⟩ | ⟨rfl, q⟩ | ⟨rfl, q⟩ | ⟨rfl, q⟩
      · lia
      · exact absurd q.1 (by decide)
      · exact absurd q.1 (by decide)
      · rfl
    subst eV
    walk_at "m_go"
    · exact ⟨congrArg V.bool (by decide), ⟨_, by walk_at "m_led"⟩, ⟨_, by walk_at "m_led"⟩⟩
    · exfalso; lia
  have eV : V = .lst (D (bs v) (arc x n)) := by
    rcases hV with ⟨rfl, q1, q2⟩ | ⟨rfl, q⟩ | ⟨rfl, q⟩ | ⟨rfl, q⟩
    · rfl
    · exact absurd q.1 (by decide)
    · exact absurd q.1 (by decide)
    · rcases q.2 with q | q <;> lia
  subst eV
  clear hV
  walk_at "m_go"
  · exfalso; lia
  obtain ⟨z1, z2, z3, z4⟩ := chk_of (x := x) (n := n) ⟨by lia, hx.2⟩ ⟨f1, by lia⟩
  have sA : Sm (arc x n) := ⟨z1, Int.lt_trans z4 (by decide)⟩
  refine Ev.comp (v := v) O (Ev.blt G O (by rfl) (by rfl) (by rfl) (And.intro rfl ?_)) (by lia) (by walk_at "m_look") (by rfl) ?_ (by rfl) (by decide) rfl (by decide) (by rfl) (by rfl) (fun _ => by rfl)
  rotate_left
  · rfl
  walk_at "m_go"
  · exact Nat.lt_of_le_of_lt (sA.len hb) (by decide)
  refine ⟨fun y hy => ?_, ?_⟩
  · have := D_lim hb (n := arc x n) y hy
    lia
  walk_at "m_go"
  refine bl_sum O ?_
  rw [lbs_sum (by lia), D_val hb z1]
  walk_at "m_go"
  with_reducible show OpN _ _ _ _ _ _ _ _ _ _
  refine opn_pure O (law_arctan_ok (d := 29) G (x := x) (n := n + 40) ⟨by lia, hx.2⟩ ⟨by lia, by lia⟩) (by walk_at "m_args") (fun _ h => h.elim) ?_
  rintro _ _ rfl
  walk_at "m_go"
  · exact ⟨congrArg V.bool (decide_eq_true z3), ⟨_, by walk_at "m_led"⟩, ⟨_, by walk_at "m_led"⟩⟩
  · rename_i c
    exact absurd z2 c
end

-- part f26
section
variable {prog : Program} {w : World} {B : Heap} {d : Nat}
theorem cf_facts {L : Addr} : ∀ (names : List (Str × NameKind)) (n : Nat) (acc : List (Str × Addr)), L < n → (∀ p ∈ acc, L < p.2 ∧ p.2 < n) → (acc.Pairwise fun x y => x.2 ≠ y.2) →
    (∀ p ∈ cellsFrom n names acc, L < p.2) ∧ (cellsFrom n names acc).Pairwise fun x y => x.2 ≠ y.2
  | [], n, acc, _, h1, h2 => ⟨fun p hp => (h1 p hp).1, h2⟩
  | (name, kind) :: r, n, acc, h0, h1, h2 => by
    rw [cellsFrom]
    split
    · refine cf_facts r (n + 1) ((name, n) :: acc) (Nat.lt_succ_of_lt h0) (fun p hp => ?_) (List.pairwise_cons.mpr ⟨fun p hp => Nat.ne_of_gt (h1 p hp).2, h2⟩)
      rcases List.mem_cons.mp hp with rfl | hp
      · exact ⟨h0, Nat.lt_succ_self _⟩
      · exact ⟨(h1 p hp).1, Nat.lt_succ_of_lt (h1 p hp).2⟩
    · exact cf_facts r n acc h0 h1 h2
theorem law_entry {B h₁ : Heap} {s : Shared} {tk : Tok} {L fa a : Addr} {params : Arguments} {body : List Stmt} {scope : Scope} {dV kV doc pm cdv ct oc : Value} {an od : Option Addr} {osl : Array (Option Value)}
    (ho : (kap.heap_1 w.params).lookup 424 = some ⟨oc, od, .func (fnOf "law" "law" params body scope dV kV doc pm an cdv ct), osl⟩)
    (X : (kap.heap_1 w.params).In B) {p : Program} {loose : List Str} {mean : ExcName → Option Value} {mg mb : Str → Option Value} (T : Top p loose mean mg mb B) (C4 : CodeHd B 418 414) (C21 : CodeHd B 423 421)
    {m cm : Str → Option Value} (FR : Fr B L h₁ m) {cells : List (Addr × Obj)} (N : News B L h₁ (cells ++ [(414, tabObj #[]), (421, tabObj #[])])) (Y : CellsAre cm (cellsFrom (L + 1) scope.names []) cells)
    (hk : scope.kind = .function)
    (hm : m "script" = some (.ref a)) (hks : scope.names.lookup ("script" : Str) = some .local) {items : List Value} {xs : List Int} (hl : B.IsList a items.toArray) (hi : IntsAre items xs) (hlen : xs.length ≤ 63)
    (hlt : 414 < L ∧ 421 < L) {Q : Flow → Shared → Prop} {E : Value → Shared → Prop}
    (hQ : ∀ s' m', (∃ h t, s' = { s with heap := h, toks := t }) → Fr B L s'.heap m' → GrownAt 414 s'.heap → GrownAt 421 s'.heap → Q (.ret (.bool true)) s') :
    wpAny (model prog w) (callerA.deeper (envOfC "law" scope L fa (.ref 423))) (execs body (envOfC "law" scope L fa (.ref 423))) Q E { s with heap := h₁, toks := tk } := by
  have G : GOk B (kap.heap_1 w.params) := ⟨X, ⟨_, T.g⟩, ⟨_, T.b, T.builtins⟩, T.nolimit, ⟨_, _, _, _, topRead_of T⟩⟩
  have GB : Bm B := by
    obtain ⟨bm, ob, b1, b2, b3, b4, b5, b6⟩ := T.bmain
    refine ⟨mg, bm, ob, T.g, b1, b2, fun q => ?_, b3, b4, b5, b6⟩
    obtain ⟨o, es, ep, e, hd', _⟩ := T.g
    rw [q, e] at b3; cases b3; rw [hd'] at b6; cases b6
  obtain ⟨hab', hap⟩ := cf_facts (L := L) scope.names (L + 1) [] (Nat.lt_succ_self _) (fun _ h => nomatch h) List.Pairwise.nil
  have hab : ∀ n c, (n, c) ∈ cellsFrom (L + 1) scope.names [] → L < c := fun n c h => hab' _ h
  have big : ∀ c, L ≤ c → B.get? c = none := fun c hc => Heap.get?_none_of_le (Nat.le_trans FR.above hc)
  have N4 := N (414, tabObj #[]) (List.mem_append_right _ (.head _))
  have N21 := N (421, tabObj #[]) (List.mem_append_right _ (.tail _ (.head _)))
  have CL : Cl L (cellsFrom (L + 1) scope.names []) h₁ cm := Cl.of_news (own := []) (cells := cells) (fun q hq => N q (List.mem_append_left _ hq)) Y hap hab
  let F : FC := mkF (callerA.deeper (envOfC "law" scope L fa (.ref 423))) (envOfC "law" scope L fa (.ref 423)) [] (fun _ => none) (fun b => b = L) { s with heap := h₁, toks := tk }
  have O : FOk B 30 F := by
    refine ⟨rfl, rfl, by show 1 + claimMargin + 1 + 30 + 1 < recursionLimit; decide +kernel, by show 4 + 3 + 10 * 30 + 100 < cLine; decide +kernel, rfl, hk, rfl, rfl, rfl, fun b q => ?_, rfl, fun x c q q' => ⟨rfl, big c (Nat.le_of_lt (hab x c (mem_of_lookup q')))⟩, clos_inj hap, big L (Nat.le_refl _)⟩
    have : b ∈ ([] : List Addr) := q
    cases this
  let σ : Led := upd (upd pur 414 (.tb [])) 421 (.tb [])
  have s4 : σ 414 = some (.tb []) := upd_ne (by decide) upd_same
  have s21 : σ 421 = some (.tb []) := upd_same
  have sn : ∀ b ob, σ b = some ob → (b = 414 ∨ b = 421) ∧ ob = .tb [] := fun b ob e => by
    by_cases q : b = 421
    · subst q; rw [s21] at e; cases e; exact ⟨.inr rfl, rfl⟩
    · by_cases q' : b = 414
      · subst q'; rw [s4] at e; cases e; exact ⟨.inl rfl, rfl⟩
      · simp [σ, upd, q, q', pur] at e
  obtain ⟨oL, esL, epL, hLo, hLd⟩ := ns_get FR.ns
  have T0 : St B F (rho0 ["script"] [.par xs]) σ { s with heap := h₁, toks := tk } := by
    refine ⟨FR.keep, ?_, fun b o e => (by cases e), ⟨m, FR.ns, fun x V e => ?_⟩, fun x c q q' => ⟨_, CL.cell x c q'⟩, fun b ob e => ?_, fun b q => ⟨oL, q ▸ hLo⟩, ⟨_, _, rfl⟩⟩
    · exact .cons (by show scope.kind ≠ .module; rw [hk]; decide) rfl FR.ns (big L (Nat.le_refl _)) trivial
    · have q := rho0_mem e
      simp only [List.zip_cons_cons, List.zip_nil_right, List.mem_cons, List.not_mem_nil, or_false, Prod.mk.injEq] at q
      obtain ⟨rfl, rfl⟩ := q
      refine ⟨.ref a, .inl ⟨hks, hm⟩, ?_⟩
      simp only [Den]
      obtain ⟨o, eo, r⟩ := hl
      refine ⟨a, items, rfl, ⟨o, FR.keep _ _ eo, r⟩, hi, fun z => ?_⟩
      rcases z with z | z | ⟨y, z, z'⟩
      · cases q : σ a with
        | none => exact z q
        | some ob =>
          rcases (sn a ob q).1 with w' | w'
          · have := N4.2.2; rw [w'] at eo; rw [eo] at this; cases this
          · have := N21.2.2; rw [w'] at eo; rw [eo] at this; cases this
      · have z : a = L := z
        rw [z, big L (Nat.le_refl _)] at eo; cases eo
      · rw [big a (Nat.le_of_lt (hab y a (mem_of_lookup z')))] at eo; cases eo
    · obtain ⟨q, rfl⟩ := sn b ob e
      rcases q with rfl | rfl
      · exact ⟨rfl, N4.2.2, fun q => absurd (show (414 : Addr) = L from q) (Nat.ne_of_lt hlt.1), #[], N4.1, trivial, fun _ _ => rfl⟩
      · exact ⟨rfl, N21.2.2, fun q => absurd (show (421 : Addr) = L from q) (Nat.ne_of_lt hlt.2), #[], N21.1, trivial, fun _ _ => rfl⟩
  refine wpAny_mono (law_ex (prog := prog) G GB C4 C21 ho O hlen s4 s21 _ T0) (fun fl s' hl' => ?_) fun v s' hx => xs_false hx
  cases fl with
  | next => obtain ⟨_, _, _, _, q⟩ := hl'; exact q.elim
  | brk => exact hl'.elim
  | cont => exact hl'.elim
  | ret v =>
    obtain ⟨ρ', V, σ', T', S', D', rfl, ⟨l4, e4⟩, l21, e21⟩ := hl'
    have ev := den_bool D'
    subst ev
    obtain ⟨m', hn', _⟩ := T'.loc
    obtain ⟨_, _, _, p4, q4, _⟩ := T'.led 414 _ e4
    obtain ⟨_, _, _, p21, q21, _⟩ := T'.led 421 _ e21
    exact hQ s' m' T'.sh ⟨hn', T'.base, FR.above⟩ ⟨p4, q4⟩ ⟨p21, q21⟩
end

end Mine
end

section
namespace Mine
theorem C.tw10077901046420284674 : True := trivial
theorem C.tw10129313986291569649 : True := trivial
theorem C.tw10155987097933487237 : True := trivial
theorem C.tw10199981811366317099 : True := trivial
theorem C.tw10220181923703894029 : True := trivial
theorem C.tw10246880996027501718 : True := trivial
theorem C.tw10265627888571736934 : True := trivial
theorem C.tw10291999382200426873 : True := trivial
theorem C.tw10331825558569479014 : True := trivial
theorem C.tw10395400256914094761 : True := trivial
theorem C.tw10401850317849234479 : True := trivial
theorem C.tw10414892041086588674 : True := trivial
theorem C.tw10535674362859701456 : True := trivial
theorem C.tw10538704879833755702 : True := trivial
theorem C.tw1054493724878774002 : True := trivial
theorem C.tw10564055778667163377 : True := trivial
theorem C.tw10656036600242102140 : True := trivial
theorem C.tw1068827392713097175 : True := trivial
theorem C.tw1076941612862427902 : True := trivial
theorem C.tw10842753461996406198 : True := trivial
theorem C.tw10897476492999664413 : True := trivial
theorem C.tw10976714546412719303 : True := trivial
theorem C.tw11011687579256582894 : True := trivial
theorem C.tw11034599269596261740 : True := trivial
theorem C.tw11080821538379660584 : True := trivial
theorem C.tw11129744384634047140 : True := trivial
theorem C.tw11159338878143629441 : True := trivial
theorem C.tw11192472589230111087 : True := trivial
theorem C.tw11203219338719856107 : True := trivial
theorem C.tw11242664925992395904 : True := trivial
theorem C.tw11272788554019269001 : True := trivial
theorem C.tw11275551246479995800 : True := trivial
theorem C.tw11294151233163114517 : True := trivial
theorem C.tw11352753590509778825 : True := trivial
theorem C.tw11353627344898264570 : True := trivial
theorem C.tw1142518713220013427 : True := trivial
theorem C.tw11502139585918507732 : True := trivial
theorem C.tw11503369312387023775 : True := trivial
theorem C.tw11570672763807531301 : True := trivial
theorem C.tw11578586991124296007 : True := trivial
theorem C.tw11800709663659881123 : True := trivial
theorem C.tw1181503065349809420 : True := trivial
theorem C.tw11890245134427208051 : True := trivial
theorem C.tw11900526466452199886 : True := trivial
theorem C.tw12021893481235891420 : True := trivial
theorem C.tw12095924655689335827 : True := trivial
theorem C.tw12123653505229515348 : True := trivial
theorem C.tw12131368178252663992 : True := trivial
theorem C.tw12165652591388346640 : True := trivial
theorem C.tw12258990034567780685 : True := trivial
theorem C.tw12316556120175902106 : True := trivial
theorem C.tw12328075467417452672 : True := trivial
theorem C.tw12451128482268466336 : True := trivial
theorem C.tw12464332174229836258 : True := trivial
theorem C.tw12466375947314919804 : True := trivial
theorem C.tw12468193864521022367 : True := trivial
theorem C.tw12473391081841930391 : True := trivial
theorem C.tw12484532411785166707 : True := trivial
theorem C.tw125045562013060846 : True := trivial
theorem C.tw12507714585737259666 : True := trivial
theorem C.tw12507883518381282058 : True := trivial
theorem C.tw1253975306953265167 : True := trivial
theorem C.tw12602569075177903317 : True := trivial
theorem C.tw12703186894953857457 : True := trivial
theorem C.tw12714306208915689358 : True := trivial
theorem C.tw12717303976498280301 : True := trivial
theorem C.tw1273734957508647266 : True := trivial
theorem C.tw12738296579615017720 : True := trivial
theorem C.tw12772426042088939399 : True := trivial
theorem C.tw12811666965438735719 : True := trivial
theorem C.tw12827231459058231446 : True := trivial
theorem C.tw12833706512070574191 : True := trivial
theorem C.tw12854224380560522557 : True := trivial
theorem C.tw12913002391067380982 : True := trivial
theorem C.tw12999261336133852136 : True := trivial
theorem C.tw13024652995161757756 : True := trivial
theorem C.tw13045882644808925354 : True := trivial
theorem C.tw13114826405074138644 : True := trivial
theorem C.tw13189625912489107147 : True := trivial
theorem C.tw13220652129836581591 : True := trivial
theorem C.tw13250424283617401738 : True := trivial
theorem C.tw1327946605769875009 : True := trivial
theorem C.tw13291297296787559744 : True := trivial
theorem C.tw13460672020042187398 : True := trivial
theorem C.tw13516279639620237654 : True := trivial
theorem C.tw13555558087959425847 : True := trivial
theorem C.tw13565593902169945821 : True := trivial
theorem C.tw13624276958012206890 : True := trivial
theorem C.tw13638121938474533738 : True := trivial
theorem C.tw13663182093728023796 : True := trivial
theorem C.tw13704537910467082063 : True := trivial
theorem C.tw13735252288017626298 : True := trivial
theorem C.tw13767010984318374077 : True := trivial
theorem C.tw13769531272299241971 : True := trivial
theorem C.tw13780880863591193436 : True := trivial
theorem C.tw13831833973868035595 : True := trivial
theorem C.tw13866804451263048626 : True := trivial
theorem C.tw13878431678917428107 : True := trivial
theorem C.tw13880522983828811904 : True := trivial
theorem C.tw13905465855965115838 : True := trivial
theorem C.tw13963095400191428088 : True := trivial
theorem C.tw1406777275624495277 : True := trivial
theorem C.tw14163027728975085549 : True := trivial
theorem C.tw14197821538995572717 : True := trivial
theorem C.tw14255944262814712645 : True := trivial
theorem C.tw14313060031349927443 : True := trivial
theorem C.tw14345497181913724574 : True := trivial
theorem C.tw145228306864984213 : True := trivial
theorem C.tw14526591770603017810 : True := trivial
theorem C.tw14627709310679952149 : True := trivial
theorem C.tw14647917660003702200 : True := trivial
theorem C.tw14653645703753626823 : True := trivial
theorem C.tw14655700949659459207 : True := trivial
theorem C.tw14694515022892889348 : True := trivial
theorem C.tw14739594316471598848 : True := trivial
theorem C.tw14796572494840591779 : True := trivial
theorem C.tw14829154885188063402 : True := trivial
theorem C.tw14833689866820574161 : True := trivial
theorem C.tw14853347049643086063 : True := trivial
theorem C.tw14940522947565130601 : True := trivial
theorem C.tw14956226412027691173 : True := trivial
theorem C.tw14981924174794283395 : True := trivial
theorem C.tw14995004771979246333 : True := trivial
theorem C.tw15003580051965172257 : True := trivial
theorem C.tw15018921071631198821 : True := trivial
theorem C.tw15029795005084513700 : True := trivial
theorem C.tw15122096664066760662 : True := trivial
theorem C.tw15150704485735340966 : True := trivial
theorem C.tw15441432072523255027 : True := trivial
theorem C.tw15485010079033120572 : True := trivial
theorem C.tw15510615610461029636 : True := trivial
theorem C.tw15558898915067548857 : True := trivial
theorem C.tw15599390447553152374 : True := trivial
theorem C.tw15615390478075440278 : True := trivial
theorem C.tw15617813955163323893 : True := trivial
theorem C.tw15641447212188691844 : True := trivial
theorem C.tw15719185935316732679 : True := trivial
theorem C.tw1578611658092291071 : True := trivial
theorem C.tw15822103648632014345 : True := trivial
theorem C.tw1582780734637800792 : True := trivial
theorem C.tw15838494008727419962 : True := trivial
theorem C.tw15853636734515130079 : True := trivial
theorem C.tw15974383392551536099 : True := trivial
theorem C.tw15988216838932220620 : True := trivial
theorem C.tw15996670410020151377 : True := trivial
theorem C.tw15997986479602360172 : True := trivial
theorem C.tw16149979737938629406 : True := trivial
theorem C.tw16191808735893014025 : True := trivial
theorem C.tw16220534824257311290 : True := trivial
theorem C.tw16235051971861154603 : True := trivial
theorem C.tw16271058133291525429 : True := trivial
theorem C.tw16283197950990358459 : True := trivial
theorem C.tw16373547439635357548 : True := trivial
theorem C.tw16381089704819057528 : True := trivial
theorem C.tw16535798053877482965 : True := trivial
theorem C.tw1654805622043111258 : True := trivial
theorem C.tw16598254814426794149 : True := trivial
theorem C.tw1663785305288606036 : True := trivial
theorem C.tw16655173655141356671 : True := trivial
theorem C.tw16815470877490574076 : True := trivial
theorem C.tw16828028358387683340 : True := trivial
theorem C.tw16834771123091851166 : True := trivial
theorem C.tw16854025034015475172 : True := trivial
theorem C.tw16931013721761865171 : True := trivial
theorem C.tw16956032596092983437 : True := trivial
theorem C.tw17069375543642728977 : True := trivial
theorem C.tw17129862113543059336 : True := trivial
theorem C.tw17133267598666476743 : True := trivial
theorem C.tw17165576668331411778 : True := trivial
theorem C.tw17174497922965505215 : True := trivial
theorem C.tw1718189098929204406 : True := trivial
theorem C.tw17276419186786328754 : True := trivial
theorem C.tw17312150517168085403 : True := trivial
theorem C.tw1734339825309423230 : True := trivial
theorem C.tw17357461834638892347 : True := trivial
theorem C.tw17359856257974231861 : True := trivial
theorem C.tw17382395420942376369 : True := trivial
theorem C.tw17446636456778029619 : True := trivial
theorem C.tw17504545222651391243 : True := trivial
theorem C.tw17616749156432579282 : True := trivial
theorem C.tw17691065740168542612 : True := trivial
theorem C.tw17712815096715501944 : True := trivial
theorem C.tw17729127357714263363 : True := trivial
theorem C.tw17760939060394789093 : True := trivial
theorem C.tw17846669118850995295 : True := trivial
theorem C.tw17873059017218389804 : True := trivial
theorem C.tw17874664506824421735 : True := trivial
theorem C.tw17890119902519115793 : True := trivial
theorem C.tw18138905133537277919 : True := trivial
theorem C.tw18138965013911725242 : True := trivial
theorem C.tw18153470427337388425 : True := trivial
theorem C.tw18223410842898555693 : True := trivial
theorem C.tw18312933872781134033 : True := trivial
theorem C.tw18321395917149839400 : True := trivial
theorem C.tw18326653145272630253 : True := trivial
theorem C.tw1834165941981896146 : True := trivial
theorem C.tw1835711384712484800 : True := trivial
theorem C.tw18396593403140753515 : True := trivial
theorem C.tw1887909419975204993 : True := trivial
theorem C.tw1926418859530748718 : True := trivial
theorem C.tw1954003586444288021 : True := trivial
theorem C.tw1961277754686527793 : True := trivial
theorem C.tw1970260356771797739 : True := trivial
theorem C.tw2113614594645471171 : True := trivial
theorem C.tw2135992615791900338 : True := trivial
theorem C.tw2161691198730417406 : True := trivial
theorem C.tw2167750659087136547 : True := trivial
theorem C.tw2187592521417661950 : True := trivial
theorem C.tw2191539825942749461 : True := trivial
theorem C.tw2200001090462506224 : True := trivial
theorem C.tw2228660127942719090 : True := trivial
theorem C.tw2264412392435946362 : True := trivial
theorem C.tw2289693971138539725 : True := trivial
theorem C.tw2348990901749255817 : True := trivial
theorem C.tw2429443724666743355 : True := trivial
theorem C.tw2431862601176678316 : True := trivial
theorem C.tw243252292479007868 : True := trivial
theorem C.tw2443213507438646608 : True := trivial
theorem C.tw2443325777450838025 : True := trivial
theorem C.tw24732403526872497 : True := trivial
theorem C.tw2485063646025534128 : True := trivial
theorem C.tw2550443022843404370 : True := trivial
theorem C.tw2686617490386822830 : True := trivial
theorem C.tw2720884555458873343 : True := trivial
theorem C.tw2730493943839994730 : True := trivial
theorem C.tw2757931103006091857 : True := trivial
theorem C.tw2770421126528228710 : True := trivial
theorem C.tw2803575322639210373 : True := trivial
theorem C.tw2851316759193847070 : True := trivial
theorem C.tw2855752470559171609 : True := trivial
theorem C.tw2874005857439475471 : True := trivial
theorem C.tw2890607637320222445 : True := trivial
theorem C.tw302181018022562335 : True := trivial
theorem C.tw3052587930804912238 : True := trivial
theorem C.tw309040154340357329 : True := trivial
theorem C.tw3120129413963689702 : True := trivial
theorem C.tw3124621535020802028 : True := trivial
theorem C.tw3150764222133200882 : True := trivial
theorem C.tw3170992274873834918 : True := trivial
theorem C.tw322455341206629509 : True := trivial
theorem C.tw32922524222143277 : True := trivial
theorem C.tw3295701842349915721 : True := trivial
theorem C.tw3326337402757295409 : True := trivial
theorem C.tw3343388439591481723 : True := trivial
theorem C.tw3367774231698405784 : True := trivial
theorem C.tw3378070216804055513 : True := trivial
theorem C.tw3390959258666888373 : True := trivial
theorem C.tw3421522608173170302 : True := trivial
theorem C.tw3429227956126504862 : True := trivial
theorem C.tw3432354595600778336 : True := trivial
theorem C.tw343663338550179422 : True := trivial
theorem C.tw3500462773957119354 : True := trivial
theorem C.tw3506921030192920222 : True := trivial
theorem C.tw3552836382800093874 : True := trivial
theorem C.tw3590756122585585275 : True := trivial
theorem C.tw3616222666834951761 : True := trivial
theorem C.tw365606037573951928 : True := trivial
theorem C.tw3681170854676960940 : True := trivial
theorem C.tw3730666306774068568 : True := trivial
theorem C.tw3808186151503023473 : True := trivial
theorem C.tw382352941406522350 : True := trivial
theorem C.tw3869883564473667987 : True := trivial
theorem C.tw3874794535511322640 : True := trivial
theorem C.tw3884778805274677563 : True := trivial
theorem C.tw3896974543698664540 : True := trivial
theorem C.tw3990864364824861066 : True := trivial
theorem C.tw4013195978065887396 : True := trivial
theorem C.tw4014416339941784594 : True := trivial
theorem C.tw4023588043699017013 : True := trivial
theorem C.tw4032980157639304740 : True := trivial
theorem C.tw4048225536350170495 : True := trivial
theorem C.tw4049785386750843653 : True := trivial
theorem C.tw4068901534805297201 : True := trivial
theorem C.tw4069199050409447479 : True := trivial
theorem C.tw4117527509443774678 : True := trivial
theorem C.tw4130770585433602696 : True := trivial
theorem C.tw4186583550911627487 : True := trivial
theorem C.tw4194170178850649318 : True := trivial
theorem C.tw4197932918618166791 : True := trivial
theorem C.tw4209897984926612371 : True := trivial
theorem C.tw4253060161733100642 : True := trivial
theorem C.tw425313252803233153 : True := trivial
theorem C.tw4263576855640109391 : True := trivial
theorem C.tw4292941190063961840 : True := trivial
theorem C.tw430100273029290720 : True := trivial
theorem C.tw4390031472858318960 : True := trivial
theorem C.tw443401558572231701 : True := trivial
theorem C.tw4484222775525207887 : True := trivial
theorem C.tw4512502698493645296 : True := trivial
theorem C.tw4548399525520302970 : True := trivial
theorem C.tw4572693426801799207 : True := trivial
theorem C.tw4624705608036457214 : True := trivial
theorem C.tw466343383687976743 : True := trivial
theorem C.tw4698029152465679509 : True := trivial
theorem C.tw4748233571909272027 : True := trivial
theorem C.tw4765638057253880814 : True := trivial
theorem C.tw4769069896990902411 : True := trivial
theorem C.tw4814352599426622726 : True := trivial
theorem C.tw4940444599688217507 : True := trivial
theorem C.tw4953226983364131534 : True := trivial
theorem C.tw5007355419703870585 : True := trivial
theorem C.tw5015761168336296034 : True := trivial
theorem C.tw5135853405222099969 : True := trivial
theorem C.tw5138540775402989021 : True := trivial
theorem C.tw5169447837968979532 : True := trivial
theorem C.tw525517103545105232 : True := trivial
theorem C.tw5360929034606411705 : True := trivial
theorem C.tw5372304030893415473 : True := trivial
theorem C.tw5391871250993451501 : True := trivial
theorem C.tw5411231395712179385 : True := trivial
theorem C.tw5485732142850694482 : True := trivial
theorem C.tw5549681289680732067 : True := trivial
theorem C.tw5558289284135547882 : True := trivial
theorem C.tw5559165442501178938 : True := trivial
theorem C.tw5597562634406712111 : True := trivial
theorem C.tw5607356998923876365 : True := trivial
theorem C.tw5786772324848680608 : True := trivial
theorem C.tw5866620358454044916 : True := trivial
theorem C.tw5924717170163578420 : True := trivial
theorem C.tw5957678728926370334 : True := trivial
theorem C.tw6037800418246088635 : True := trivial
theorem C.tw6057067518406326007 : True := trivial
theorem C.tw6076716152743679321 : True := trivial
theorem C.tw6100193349199184339 : True := trivial
theorem C.tw613742254886160438 : True := trivial
theorem C.tw6202062212225411356 : True := trivial
theorem C.tw6260453064117893576 : True := trivial
theorem C.tw6282982484874833460 : True := trivial
theorem C.tw6301104311008722954 : True := trivial
theorem C.tw6324092098632895342 : True := trivial
theorem C.tw6452096318463974545 : True := trivial
theorem C.tw6494984730443660407 : True := trivial
theorem C.tw6550629480683784861 : True := trivial
theorem C.tw6633383057500927754 : True := trivial
theorem C.tw6669888023913780283 : True := trivial
theorem C.tw6688024259231331618 : True := trivial
theorem C.tw6698631478687215307 : True := trivial
theorem C.tw6795319603183585120 : True := trivial
theorem C.tw6798886021544378196 : True := trivial
theorem C.tw6800084184799800837 : True := trivial
theorem C.tw6883813638251435267 : True := trivial
theorem C.tw6885282087474562828 : True := trivial
theorem C.tw6966629799592009903 : True := trivial
theorem C.tw7036336304513177895 : True := trivial
theorem C.tw7045857684050711506 : True := trivial
theorem C.tw7065682960598473959 : True := trivial
theorem C.tw7105287798903607955 : True := trivial
theorem C.tw7143228830977582046 : True := trivial
theorem C.tw7143441341126724442 : True := trivial
theorem C.tw7143553780243170333 : True := trivial
theorem C.tw7187483905314314934 : True := trivial
theorem C.tw7212723790980876608 : True := trivial
theorem C.tw725177073682371077 : True := trivial
theorem C.tw744270783885797552 : True := trivial
theorem C.tw7608575496007318335 : True := trivial
theorem C.tw7632150838730941858 : True := trivial
theorem C.tw7637203907975358553 : True := trivial
theorem C.tw7638622366822861240 : True := trivial
theorem C.tw7662706988787943335 : True := trivial
theorem C.tw7663282487807668703 : True := trivial
theorem C.tw7666813264520873101 : True := trivial
theorem C.tw7712968724778001759 : True := trivial
theorem C.tw7726831723031571832 : True := trivial
theorem C.tw7779036710659329925 : True := trivial
theorem C.tw785868641472205348 : True := trivial
theorem C.tw80187221404302551 : True := trivial
theorem C.tw8029413713661454434 : True := trivial
theorem C.tw8140061087414653021 : True := trivial
theorem C.tw8163262572347153625 : True := trivial
theorem C.tw8176061460324945217 : True := trivial
theorem C.tw8228461706351301831 : True := trivial
theorem C.tw8254454686204404395 : True := trivial
theorem C.tw8292777985777303451 : True := trivial
theorem C.tw8328397236324266767 : True := trivial
theorem C.tw8357068141445438033 : True := trivial
theorem C.tw8395809007692499111 : True := trivial
theorem C.tw8428780579421007563 : True := trivial
theorem C.tw8486714493239157565 : True := trivial
theorem C.tw8496276081510550373 : True := trivial
theorem C.tw8674102774313013718 : True := trivial
theorem C.tw8779480334615421875 : True := trivial
theorem C.tw879138127513014713 : True := trivial
theorem C.tw8811883589335966803 : True := trivial
theorem C.tw8835357915568250265 : True := trivial
theorem C.tw885468901782223663 : True := trivial
theorem C.tw895497851183519117 : True := trivial
theorem C.tw9166393790043340925 : True := trivial
theorem C.tw9175167964046632541 : True := trivial
theorem C.tw9241794533984757024 : True := trivial
theorem C.tw9307184139298727556 : True := trivial
theorem C.tw9314213292271980429 : True := trivial
theorem C.tw9316736322326018235 : True := trivial
theorem C.tw9389979097444139135 : True := trivial
theorem C.tw9407029331664915862 : True := trivial
theorem C.tw9430451612586393726 : True := trivial
theorem C.tw9507950552456824339 : True := trivial
theorem C.tw9540079993990119231 : True := trivial
theorem C.tw9585266049395953753 : True := trivial
theorem C.tw9611240939122314654 : True := trivial
theorem C.tw9705078984924233282 : True := trivial
theorem C.tw9740538863228656914 : True := trivial
theorem C.tw9749443513093821835 : True := trivial
theorem C.tw9799749860787260017 : True := trivial
theorem C.tw980400399894615738 : True := trivial
theorem C.tw9962093472079793828 : True := trivial
theorem C.tw996880992407327365 : True := trivial
end Mine
end

section
open PySem PySem.W PyProof.Rows
namespace Mine
set_option Elab.async true in
set_option maxHeartbeats 8000000 in
theorem C : PySem.Challenge.rw_rr0059_01.Holds := by
  w_on; o_law; k_head; (case hw => w_witness2)
  k_go0
  (all_goals try k_fold)
  refine Mine.law_entry (ho := by rfl) (X := by assumption) (T := by assumption) (C4 := by assumption) (C21 := by assumption) (FR := by assumption) (N := ?hNews) (Y := by assumption) (hk := by rfl) (hm := by rfl) (hks := by rfl) (hl := by assumption) (hi := by assumption) (hlen := by omega) (hlt := ?hltZ) (hQ := ?hQZ)
  case hNews => assumption
  case hltZ => assumption
  case hQZ =>
    intro s' m' e F4 g4 g21
    obtain ⟨h, t, rfl⟩ := e
    refine ⟨?_, g4, g21, trivial⟩
    k_end
    wrow_close
end Mine
end
theorem PySem.Challenge.cw_rr0059_01_holds : PySem.Challenge.rw_rr0059_01.Holds :=
  Mine.C
