import PyProof.Rows.All
import Wide.All
import OpenK.AllK
import Wide.FinOn
import PySem.Challenge.RW_pb0418_01

set_option Elab.async false

/-! ## H1 -/
section
open PySem PySem.W PyProof.Rows
set_option maxRecDepth 100000
set_option maxHeartbeats 8000000
namespace Mine
noncomputable abbrev theProg : Program := PySem.Challenge.rw_pb0418_01.row.toRowW.prog
noncomputable def pick : List Bool → List Stmt → List Stmt
  | b :: bs, s :: r => if b then s :: pick bs r else pick bs r
  | [], r => r
  | _, [] => []
/-- the law's program without the three rows that set the module's name -/
noncomputable def view : Program :=
  { theProg with main := { theProg.main with body := pick ([false, true, true, false] ++ List.replicate 24 true ++ [false]) theProg.main.body } }
/-- the run of the top, by the library's own quick words -/
noncomputable def theRun (w : World) (os : OsState) : Option Shared := PySem.W.Fast.tw14082659384304107361 PySem.W.Fast.tw14364793385576792824 theProg w (boot_heap w.params).objs.size ((boot_heap w.params).nsMap mainGlobals "__annotations__") 3000 ⟨boot_heap w.params, #[], boot_drawn, boot_toks, os⟩ (topStub theProg)
theorem theRun_eq (w : World) (os : OsState) : topRun treeTable theProg w (boot_heap w.params).objs.size ((boot_heap w.params).nsMap mainGlobals "__annotations__") 3000 ⟨boot_heap w.params, #[], boot_drawn, boot_toks, os⟩ (topStub theProg) = theRun w os := by
  rw [PySem.W.Fast.te14082659384304107361, PySem.W.Fast.te14364793385576792824]; rfl
theorem map_both {α β γ : Type} {x : Option α} {f : α → β} {g : α → γ} {b : β} {c : γ} (h1 : x.map f = some b) (h2 : x.map g = some c) : ∃ s, x = some s ∧ f s = b ∧ g s = c := by
  cases x with
  | none => cases h1
  | some s => exact ⟨s, rfl, Option.some.inj h1, Option.some.inj h2⟩
theorem left_of_run {q : Program} {loose : List Str} {Xt : Shared → Bool} {α : Type} {Yf : Shared → α} {Ya : World → α} {N : Nat}
    (op : opening theProg = plainProg theProg.main.scope.names) (hN : Nat.ble 600 N = true) (hN2 : Nat.ble 3000 N = true) (fe : ∀ s, fenceModules? theProg s = some s)
    (size : ∀ w : World, (boot_heap w.params).isNs mainGlobals = true)
    (r1 : ∀ w os, (theRun w os).map (fun s => staticsOk (importedModules theProg.main.body) (boot_heap w.params) s.heap && namesBound theProg s.heap && gensDone s && laidKept (boot_heap w.params) s.heap) = some true)
    (r2 : ∀ w os, (theRun w os).map (fun s => openSeen q loose (importedModules theProg.main.body) Xt true s) = some (openGood q loose))
    (r3 : ∀ w os, (theRun w os).map Yf = some (Ya w)) : LeftO theProg q loose Xt Yf Ya N := fun w => by
  obtain ⟨⟨h, gs, d, k, os⟩, e, e'⟩ := Option.map_eq_some_iff.mp (boot_open op hN fe w)
  obtain ⟨rfl, rfl, rfl, rfl⟩ : h = boot_heap w.params ∧ gs = Array.mk [] ∧ d = boot_drawn ∧ k = boot_toks := by simpa using e'
  obtain ⟨s, es, x1, x2⟩ := map_both (r1 w os) (r2 w os)
  have x3 : Yf s = Ya w := by
    have := r3 w os
    rw [es] at this
    exact Option.some.inj this
  have r := topRun_mono (N - 3000) _ _ _ _ ((theRun_eq w os).trans es)
  rw [show 3000 + (N - 3000) = N by have := Nat.le_of_ble_eq_true hN2; omega] at r
  have t : topFrom treeTable theProg w N ⟨boot_heap w.params, Array.mk [], boot_drawn, boot_toks, os⟩ = some s := by
    unfold topFrom
    dsimp only
    rw [size w, r]
    show (match staticsOk (importedModules theProg.main.body) (boot_heap w.params) s.heap && namesBound theProg s.heap && gensDone s && laidKept (boot_heap w.params) s.heap with | true => some s | false => none) = some s
    rw [x1]
  unfold openEnds
  rw [e]
  show Option.map _ (topFrom treeTable theProg w N ⟨boot_heap w.params, Array.mk [], boot_drawn, boot_toks, os⟩) = _
  rw [t]
  show some (openSeen q loose (importedModules theProg.main.body) Xt true s, Yf s) = _
  rw [x2, x3]
theorem run_checks (w : World) (os : OsState) : (theRun w os).map (fun s => staticsOk (importedModules theProg.main.body) (boot_heap w.params) s.heap && namesBound theProg s.heap && gensDone s && laidKept (boot_heap w.params) s.heap) = some true := by kernel_rfl
noncomputable abbrev Xlaw : Shared → Bool := fun s => xlAt view [] s && recOk (RowW.records PySem.Challenge.rw_pb0418_01.row.toRowW) s
theorem run_seen0 (w : World) (os : OsState) : (theRun w os).map (fun s => PySem.W.Fast.tw4187177175401517315 view [PySem.Str.ofString "MintError"] (importedModules theProg.main.body) Xlaw true s) = some (openGood view [PySem.Str.ofString "MintError"]) := by kernel_rfl
theorem run_seen (w : World) (os : OsState) : (theRun w os).map (fun s => openSeen view [PySem.Str.ofString "MintError"] (importedModules theProg.main.body) Xlaw true s) = some (openGood view [PySem.Str.ofString "MintError"]) := by
  rw [PySem.W.Fast.te4187177175401517315]; exact run_seen0 w os
theorem said_law : PySem.W.OpenLaw.wellSaid PySem.Challenge.rw_pb0418_01 = true := by
  unfold OpenLaw.wellSaid OpenRow.wellSaid OpenRow.partSaid looksOpen
  repeat' (with_reducible refine look_both ?_ ?_)
  all_goals decide +kernel
theorem top_opens : opening theProg = plainProg theProg.main.scope.names := by kernel_rfl
theorem top_fence (s : Shared) : fenceModules? theProg s = some s := by kernel_rfl
theorem top_ns (w : World) : (boot_heap w.params).isNs mainGlobals = true := by kernel_rfl
local macro_rules | `(tactic| o_law) => `(tactic| refine holds_law said_law fun said => ?_)
local macro_rules | `(tactic| o_head $H) => `(tactic| (
  refine holds_open (q := view) (loose := [PySem.Str.ofString "MintError"]) (Xt := Xlaw) (XP := XL view []) (Yf := Hook.obs $H) (Ya := Hook.val $H) (YP := Hook.says $H) (N := 3536) ?hl (Hook.of $H) (Hook.keeps $H) (fun s e => xl_of s (Bool.and_eq_true_iff.mp e).1) XL.keeps (by rfl) (by rfl) (by rfl) (fun s e => recFacts_of (Bool.and_eq_true_iff.mp e).2) (by rfl) (by first | assumption | decide +kernel) (by decide +kernel) ⟨rfl, rfl, rfl, rfl, rfl, by decide +kernel⟩ ?hw ?hc
  case hl => exact left_of_run top_opens (by decide) (by decide) top_fence top_ns run_checks run_seen (by intro w os; kernel_rfl)))
open_top hd for PySem.Challenge.rw_pb0418_01
end Mine
end

/-! ## F1 -/
section
open PySem PySem.W PyProof.Rows PySem.Calls
set_option maxRecDepth 100000
set_option maxHeartbeats 4000000
set_option linter.unusedVariables false
namespace Mine

noncomputable abbrev KF (w : World) : Frag := hd.heap_1 w.params
noncomputable abbrev PG : Program := PySem.Challenge.rw_pb0418_01.row.prog

/-- what a part of the heap is that nothing changes -/
abbrev GP := Addr → Option Obj

/-- plain values; nil and cons are the spine of tup and lst -/
inductive PV where
  | none | bool (b : Bool) | int (i : Int) | str (s : List Nat)
  | nil | cons (x r : PV) | tup (l : PV) | lst (l : PV)
  | reg (n k : List Nat) (num size : Int)
  | own (l : PV)
  | ext (l : List Int)

inductive R where
  | ok (v : PV) | exc | stuck

noncomputable def Tb (a : Addr) : Prop := a = 265 ∨ a = 241
noncomputable def tq1 : Str := "_law_odd_right.<locals>.<lambda>"
noncomputable def tq2 : Str := "_law_parts_right.<locals>.<lambda>"

noncomputable def TabInv (g : GP) (h : Heap) (P : Addr) (q : Str) : Prop :=
  ∃ ps, h.get? P = some (tabObj ps) ∧ TriplesOk ps.toList ∧ ∀ pos cv, codeAmong pos ps.toList = some cv → ∃ c' o vs t, cv = .ref c' ∧ g c' = some o ∧ o.data = .fields vs ∧ vs[1]? = some (.str q t)

noncomputable def strO (s : List Nat) (v : Value) : Prop := ∃ t, v = .str ⟨s.toArray⟩ t
noncomputable def intO (i : Int) (v : Value) : Prop := ∃ t, v = .int i t

noncomputable def RegAt (g : GP) (n k : List Nat) (num size : Int) (a : Addr) : Prop :=
  ∃ d es m v1 v2 v3 v4, g a = some (instObj 106 d) ∧ g d = some (dictOf es m) ∧
    getL "name" es = some (some v1) ∧ getL "kind" es = some (some v2) ∧ getL "number" es = some (some v3) ∧ getL "size" es = some (some v4) ∧
    getL "code" es = some none ∧ getL "is_extended" es = some none ∧ getL "is_high" es = some none ∧ getL "needs_rex" es = some none ∧ getL "told" es = some none ∧
    strO n v1 ∧ strO k v2 ∧ intO num v3 ∧ intO size v4

/-- (a value is this, a row of values is this) -/
noncomputable def RepB (g : GP) : PV → (Value → Prop) × (List Value → Prop)
  | .none => (fun v => v = .none, fun _ => False)
  | .bool b => (fun v => v = .bool b, fun _ => False)
  | .int i => (intO i, fun _ => False)
  | .str s => (strO s, fun _ => False)
  | .nil => (fun _ => False, fun vs => vs = [])
  | .cons x r => (fun _ => False, fun vs => ∃ v ws, vs = v :: ws ∧ (RepB g x).1 v ∧ (RepB g r).2 ws)
  | .tup l => (fun v => ∃ a vs m, v = .ref a ∧ g a = some { cls := .type "tuple", data := .seq vs m } ∧ (RepB g l).2 vs.toList, fun _ => False)
  | .lst l => (fun v => ∃ a vs m, v = .ref a ∧ g a = some { cls := .type "list", data := .seq vs m } ∧ (RepB g l).2 vs.toList, fun _ => False)
  | .reg n k num size => (fun v => ∃ a, v = .ref a ∧ RegAt g n k num size a, fun _ => False)
  | .own _ => (fun _ => False, fun _ => False)
  | .ext l => (fun v => ∃ a o vs m, v = .ref a ∧ g a = some o ∧ o.cls = .type "list" ∧ o.data = .seq vs m ∧ IntsAre vs.toList l, fun _ => False)
abbrev Rep (g : GP) (p : PV) (v : Value) : Prop := (RepB g p).1 v
abbrev RepL (g : GP) (p : PV) (vs : List Value) : Prop := (RepB g p).2 vs

noncomputable def GLe (g g' : GP) : Prop := ∀ a o, g a = some o → g' a = some o
theorem TabInv.to {g g' : GP} {h h' : Heap} {P : Addr} {q : Str} (x : TabInv g h P q) (k : ∀ a o, g a = some o → g' a = some o) (hP : ∀ o, h.get? P = some o → h'.get? P = some o) : TabInv g' h' P q := by
  obtain ⟨ps, h1, h2, h3⟩ := x
  exact ⟨ps, hP _ h1, h2, fun pos cv e => let ⟨c', o, vs, t, e1, e2, e3⟩ := h3 pos cv e; ⟨c', o, vs, t, e1, k _ _ e2, e3⟩⟩
theorem GLe.refl (g : GP) : GLe g g := fun _ _ e => e
theorem GLe.trans {a b c : GP} (x : GLe a b) (y : GLe b c) : GLe a c := fun i o e => y i o (x i o e)

theorem RegAt.mono {g g' : GP} (k : GLe g g') {n kk num size a} (x : RegAt g n kk num size a) : RegAt g' n kk num size a := by
  obtain ⟨d, es, m, v1, v2, v3, v4, h1, h2, r⟩ := x
  exact ⟨d, es, m, v1, v2, v3, v4, k _ _ h1, k _ _ h2, r⟩
theorem RepB.mono {g g' : GP} (k : GLe g g') : ∀ p : PV, (∀ v, (RepB g p).1 v → (RepB g' p).1 v) ∧ (∀ vs, (RepB g p).2 vs → (RepB g' p).2 vs)
  | .none => ⟨fun _ h => h, fun _ h => h⟩
  | .bool _ => ⟨fun _ h => h, fun _ h => h⟩
  | .int _ => ⟨fun _ h => h, fun _ h => h⟩
  | .str _ => ⟨fun _ h => h, fun _ h => h⟩
  | .nil => ⟨fun _ h => h, fun _ h => h⟩
  | .cons x r => ⟨fun _ h => h, fun _ ⟨v, ws, e, h1, h2⟩ => ⟨v, ws, e, (RepB.mono k x).1 _ h1, (RepB.mono k r).2 _ h2⟩⟩
  | .tup l => ⟨fun _ ⟨a, vs, m, e, h1, h2⟩ => ⟨a, vs, m, e, k _ _ h1, (RepB.mono k l).2 _ h2⟩, fun _ h => h⟩
  | .lst l => ⟨fun _ ⟨a, vs, m, e, h1, h2⟩ => ⟨a, vs, m, e, k _ _ h1, (RepB.mono k l).2 _ h2⟩, fun _ h => h⟩
  | .reg .. => ⟨fun _ ⟨a, e, h⟩ => ⟨a, e, h.mono k⟩, fun _ h => h⟩
  | .own _ => ⟨fun _ h => h, fun _ h => h⟩
  | .ext _ => ⟨fun _ ⟨a, o, vs, m, e, h, r⟩ => ⟨a, o, vs, m, e, k _ _ h, r⟩, fun _ h => h⟩
theorem Rep.mono {g g' : GP} (k : GLe g g') {p : PV} {v : Value} (h : Rep g p v) : Rep g' p v := (RepB.mono k p).1 v h
theorem RepL.mono {g g' : GP} (k : GLe g g') {p : PV} {v : List Value} (h : RepL g p v) : RepL g' p v := (RepB.mono k p).2 v h

/-- the world of one call of the law: what its start has laid -/
structure Cx where
  w : World
  loose : List Str
  mean : ExcName → Option Value
  mg : Str → Option Value
  mb : Str → Option Value
  hb : Heap
  kin : (KF w).In hb
  top : Top topProg loose mean mg mb hb
  c1 : CodeHd hb 269 265
  c2 : CodeHd hb 243 241
  n1 : hb.get? 265 = none
  n2 : hb.get? 241 = none
noncomputable abbrev Cx.M (C : Cx) : Model := model PG C.w

noncomputable def fsOf (A : Around) : List Addr := (A.frames.getD []).filterMap (·.frame)

/-- h' is what h has become: mu may change, the frames fs in their slots -/
structure Ext (mu : Addr → Prop) (fs : List Addr) (h h' : Heap) : Prop where
  live : ∀ a o, h.get? a = some o → ∃ o', h'.get? a = some o'
  slots : ∀ a o, h.get? a = some o → ¬ mu a → ¬ Tb a → ∃ sl, h'.get? a = some { o with slots := sl }
  keep : ∀ a o, h.get? a = some o → ¬ mu a → ¬ Tb a → a ∉ fs → h'.get? a = some o
noncomputable def NoMu : Addr → Prop := fun _ => False
theorem Ext.refl (mu : Addr → Prop) (fs : List Addr) (h : Heap) : Ext mu fs h h := ⟨fun _ o e => ⟨o, e⟩, fun _ o e _ _ => ⟨o.slots, e⟩, fun _ _ e _ _ _ => e⟩
theorem Ext.trans {mu : Addr → Prop} {fs : List Addr} {h₁ h₂ h₃ : Heap} (x : Ext mu fs h₁ h₂) (y : Ext mu fs h₂ h₃) : Ext mu fs h₁ h₃ :=
  ⟨fun a o e => let ⟨o', e'⟩ := x.live a o e; y.live a o' e',
   fun a o e m t => let ⟨sl, e'⟩ := x.slots a o e m t; let ⟨sl', e''⟩ := y.slots a _ e' m t; ⟨sl', e''⟩,
   fun a o e m t f => y.keep a o (x.keep a o e m t f) m t f⟩
theorem Ext.weaken {mu mu' : Addr → Prop} {fs : List Addr} {h h' : Heap} (x : Ext mu fs h h') (k : ∀ a, mu a → mu' a) : Ext mu' fs h h' :=
  ⟨x.live, fun a o e m t => x.slots a o e (fun q => m (k a q)) t, fun a o e m t f => x.keep a o e (fun q => m (k a q)) t f⟩
theorem Ext.of_keeps {mu : Addr → Prop} {fs : List Addr} {h h' : Heap} (k : ∀ a o, h.get? a = some o → h'.get? a = some o) : Ext mu fs h h' :=
  ⟨fun a o e => ⟨o, k a o e⟩, fun a o e _ _ => ⟨o.slots, k a o e⟩, fun a o e _ _ _ => k a o e⟩

/-- the state's standing facts -/
structure Wd (C : Cx) (g : GP) (h : Heap) : Prop where
  base : ∀ a o, C.hb.get? a = some o → g a = some o
  sub : ∀ a o, g a = some o → h.get? a = some o
  nt : ∀ a, Tb a → g a = none
  t1 : TabInv g h 265 tq1
  t2 : TabInv g h 241 tq2

structure After (C : Cx) (mu : Addr → Prop) (fs : List Addr) (g : GP) (s : Shared) (g' : GP) (s' : Shared) : Prop where
  eq : ∃ h' tk, s' = { s with heap := h', toks := tk }
  ext : Ext mu fs s.heap s'.heap
  mono : GLe g g'
  wd : Wd C g' s'.heap
  fresh : ∀ a o, g' a = some o → g a = some o ∨ s.heap.get? a = none
theorem After.refl {C : Cx} {mu fs g s} (w : Wd C g s.heap) : After C mu fs g s g s := ⟨⟨s.heap, s.toks, rfl⟩, .refl .., .refl _, w, fun _ _ e => .inl e⟩
theorem After.trans {C : Cx} {mu fs g g₁ g₂ s s₁ s₂} (x : After C mu fs g s g₁ s₁) (y : After C mu fs g₁ s₁ g₂ s₂) : After C mu fs g s g₂ s₂ := by
  obtain ⟨⟨h₁, t₁, rfl⟩, ex, mx, wx, fx⟩ := x
  obtain ⟨⟨h₂, t₂, rfl⟩, ey, my, wy, fy⟩ := y
  refine ⟨⟨h₂, t₂, rfl⟩, ex.trans ey, mx.trans my, wy, fun a o e => ?_⟩
  rcases fy a o e with h | h
  · exact fx a o h
  · cases q : s.heap.get? a with
    | none => exact .inr rfl
    | some o' => obtain ⟨o'', e''⟩ := ex.live a o' q; simp only at h e''; rw [h] at e''; cases e''
theorem After.weaken {C : Cx} {mu mu' : Addr → Prop} {fs g s g' s'} (x : After C mu fs g s g' s') (k : ∀ a, mu a → mu' a) : After C mu' fs g s g' s' :=
  ⟨x.eq, x.ext.weaken k, x.mono, x.wd, x.fresh⟩

/-- the frames of the stack: function frames, laid, not of the kept part -/
noncomputable def FrOk (g : GP) (h : Heap) : List Env → Prop
  | [] => True
  | env :: r => env.scope.kind ≠ .module ∧ (∃ L o, env.frame = some L ∧ g L = none ∧ h.get? L = some o ∧ ∃ es ep, o.data = .dict es ep) ∧ FrOk g h r

structure Room (n : Nat) (A : Around) : Prop where
  calm : A.handled = none
  depth : A.depth + n < 900
  units : A.units + 20 * n < 9000

/-- facts at a call: no frame of its own yet -/
structure OkC (C : Cx) (n : Nat) (A : Around) (g : GP) (s : Shared) : Prop where
  wd : Wd C g s.heap
  room : Room n A
  frames : ∃ l, A.frames = some l ∧ FrOk g s.heap l

noncomputable def ownMu (env : Env) : Addr → Prop := fun a => a = env.locals ∨ ∃ x, env.cells.lookup x = some a

noncomputable def VarOk (env : Env) (m : Str → Option Value) (h : Heap) (x : Str) (v : Value) : Prop :=
  (env.kindOf x = some .local ∧ m x = some v) ∨ ((env.kindOf x = some .cell ∨ env.kindOf x = some .free) ∧ ∃ c, env.cells.lookup x = some c ∧ h.IsCell c (some v))

abbrev listObj (vs : Array Value) (n : Nat) : Obj := { cls := .type "list", data := .seq vs n }
/-- a list that this frame alone holds and may still change -/
noncomputable def OwnAt (g : GP) (h : Heap) (L : Addr) (l : PV) (v : Value) : Prop := ∃ a vs n, v = .ref a ∧ L < a ∧ g a = none ∧ h.get? a = some (listObj vs n) ∧ RepL g l vs.toList

noncomputable def VarsOk (env : Env) (m : Str → Option Value) (g : GP) (h : Heap) : List Str → List PV → Prop
  | x :: xs, p :: ps => (p = .nil ∨ (∃ v, Rep g p v ∧ VarOk env m h x v) ∨ ∃ l v, p = .own l ∧ VarOk env m h x v ∧ OwnAt g h env.locals l v) ∧ VarsOk env m g h xs ps
  | [], [] => True
  | _, _ => False

structure EnvOk (sc : Scope) (names : List Str) (env : Env) (g : GP) (ρ : List PV) (h : Heap) : Prop where
  scope : env.scope = sc
  kind : sc.kind = .function
  glob : env.globals = mainGlobals
  blt : env.builtins = builtinsNs
  gl : g env.locals = none
  nl : ¬ Tb env.locals
  cells : ∀ x c, env.cells.lookup x = some c → g c = none ∧ ¬ Tb c ∧ c ≠ env.locals ∧ ∃ v, h.IsCell c v
  inj : ∀ x y c, env.cells.lookup x = some c → env.cells.lookup y = some c → x = y
  has : ∀ x, sc.names.lookup x = some .cell ∨ sc.names.lookup x = some .free → (env.cells.lookup x).isSome = true
  vars : ∃ m, h.Ns env.locals m ∧ VarsOk env m g h names ρ

/-- the frames that make functions, by a cell that they alone have -/
structure CodeOk (sc : Scope) (code : Value) (qual : Str) : Prop where
  c1 : (sc.names.lookup ("left" : Str) == some .cell) = true → code = .ref 269 ∧ qual ++ "<lambda>" = tq1
  c2 : (sc.names.lookup ("told" : Str) == some .cell) = true → code = .ref 243 ∧ qual ++ "<lambda>" = tq2
theorem CodeOk.none {sc : Scope} {code : Value} {qual : Str} (h1 : (sc.names.lookup ("left" : Str) == some .cell) = false) (h2 : (sc.names.lookup ("told" : Str) == some .cell) = false) : CodeOk sc code qual :=
  ⟨fun h => (by rw [h1] at h; cases h), fun h => (by rw [h2] at h; cases h)⟩
structure Ok (C : Cx) (n : Nat) (A : Around) (sc : Scope) (names : List Str) (env : Env) (g : GP) (ρ : List PV) (s : Shared) : Prop extends OkC C n A g s where
  code : CodeOk sc env.code env.qual
  env : EnvOk sc names env g ρ s.heap

theorem isCell_slots {h h' : Heap} {c : Addr} {v : Option Value} (x : h.IsCell c v) (k : ∀ o, h.get? c = some o → ∃ sl, h'.get? c = some { o with slots := sl }) : h'.IsCell c v := by
  obtain ⟨o, e, d⟩ := x
  obtain ⟨sl, e'⟩ := k o e
  exact ⟨_, e', d⟩
theorem ns_slots {h h' : Heap} {a : Addr} {m : Str → Option Value} (x : h.Ns a m) (k : ∀ o, h.get? a = some o → ∃ sl, h'.get? a = some { o with slots := sl }) : h'.Ns a m := by
  obtain ⟨o, es, ep, e, d, r⟩ := x
  obtain ⟨sl, e'⟩ := k o e
  exact ⟨_, es, ep, e', d, r⟩
theorem VarOk.mono {env : Env} {m : Str → Option Value} {h h' : Heap} {x : Str} {v : Value} (hc : ∀ x c v, env.cells.lookup x = some c → h.IsCell c v → h'.IsCell c v) (q : VarOk env m h x v) : VarOk env m h' x v :=
  q.imp id fun ⟨kk, c, hl, hcc⟩ => ⟨kk, c, hl, hc x c _ hl hcc⟩
theorem OwnAt.mono {g g' : GP} {h h' : Heap} {L : Addr} {l : PV} {v : Value} (k : GLe g g') (hs : ∀ a vs n, g a = none → h.get? a = some (listObj vs n) → h'.get? a = some (listObj vs n) ∧ g' a = none) (q : OwnAt g h L l v) : OwnAt g' h' L l v := by
  obtain ⟨a, vs, n, e, hL, hg, hh, r⟩ := q
  obtain ⟨h1, h2⟩ := hs a vs n hg hh
  exact ⟨a, vs, n, e, hL, h2, h1, r.mono k⟩
theorem VarsOk.mono {env : Env} {m : Str → Option Value} {g g' : GP} {h h' : Heap} (k : GLe g g') (hc : ∀ x c v, env.cells.lookup x = some c → h.IsCell c v → h'.IsCell c v)
    (hs : ∀ a vs n, g a = none → h.get? a = some (listObj vs n) → h'.get? a = some (listObj vs n) ∧ g' a = none) :
    ∀ {names : List Str} {ρ : List PV}, VarsOk env m g h names ρ → VarsOk env m g' h' names ρ
  | [], [], _ => trivial
  | x :: xs, p :: ps, ⟨h1, h2⟩ => ⟨h1.imp id fun q => q.imp (fun ⟨v, r, q⟩ => ⟨v, r.mono k, q.mono hc⟩) fun ⟨l, v, e, q, w⟩ => ⟨l, v, e, q.mono hc, w.mono k hs⟩, VarsOk.mono k hc hs h2⟩
  | [], _ :: _, h => h.elim
  | _ :: _, [], h => h.elim
theorem FrOk.after {g g' : GP} {h h' : Heap} (hg : ∀ a, g a = none → (∃ o, h.get? a = some o) → g' a = none) :
    ∀ {l : List Env}, (∀ env ∈ l, ∀ L o es ep, env.frame = some L → h.get? L = some o → g L = none → o.data = .dict es ep → ∃ o' es' ep', h'.get? L = some o' ∧ o'.data = .dict es' ep') → FrOk g h l → FrOk g' h' l
  | [], _, _ => trivial
  | env :: r, k, ⟨h1, ⟨L, o, h2, h3, h4, es, ep, h5⟩, h6⟩ => by
    obtain ⟨o', es', ep', e', d'⟩ := k env List.mem_cons_self L o es ep h2 h4 h3 h5
    exact ⟨h1, ⟨L, o', h2, hg L h3 ⟨o, h4⟩, e', es', ep', d'⟩, FrOk.after hg (fun e he => k e (List.mem_cons_of_mem _ he)) h6⟩
theorem FrOk.mem {g : GP} {h : Heap} : ∀ {l : List Env}, FrOk g h l → ∀ L ∈ l.filterMap (·.frame), g L = none ∧ ∃ o es ep, h.get? L = some o ∧ o.data = .dict es ep
  | [], _, L, hm => by cases hm
  | env :: r, ⟨_, ⟨L', o, h2, h3, h4, es, ep, h5⟩, h6⟩, L, hm => by
    rw [List.filterMap_cons_some h2] at hm
    rcases List.mem_cons.mp hm with rfl | hm
    · exact ⟨h3, o, es, ep, h4, h5⟩
    · exact FrOk.mem h6 L hm
theorem After.gnone {C : Cx} {mu fs g s g' s'} (x : After C mu fs g s g' s') {a : Addr} {o : Obj} (hn : g a = none) (hl : s.heap.get? a = some o) : g' a = none := by
  cases q : g' a with
  | none => rfl
  | some o' => rcases x.fresh a o' q with h | h
               · rw [hn] at h; cases h
               · rw [hl] at h; cases h
theorem tabNoData {C : Cx} {g : GP} {h : Heap} (w : Wd C g h) {a : Addr} {o : Obj} (hl : h.get? a = some o) (hd : ∀ vs, o.data ≠ .fields vs) : ¬ Tb a := by
  rintro (rfl | rfl)
  · obtain ⟨ps, e, _⟩ := w.t1; rw [hl] at e; cases e; exact hd _ rfl
  · obtain ⟨ps, e, _⟩ := w.t2; rw [hl] at e; cases e; exact hd _ rfl
theorem OkC.frame {C : Cx} {n A g s} (x : OkC C n A g s) {L : Addr} (hL : L ∈ fsOf A) : g L = none ∧ ∃ o es ep, s.heap.get? L = some o ∧ o.data = .dict es ep := by
  obtain ⟨_, _, l, hl, hf⟩ := x
  unfold fsOf at hL; rw [hl] at hL
  exact hf.mem L hL
theorem OkC.after {C : Cx} {n A mu g s g' s'} (x : OkC C n A g s) (y : After C mu (fsOf A) g s g' s') (hmu : ∀ a, mu a → a ∉ fsOf A) : OkC C n A g' s' := by
  have x' := x
  obtain ⟨w, r, l, hl, hf⟩ := x
  refine ⟨y.wd, r, l, hl, FrOk.after (fun a hn ⟨o, ho⟩ => y.gnone hn ho) (fun env he L o es ep hL ho hg hd => ?_) hf⟩
  have hfs : L ∈ fsOf A := by unfold fsOf; rw [hl]; exact List.mem_filterMap.mpr ⟨env, he, hL⟩
  obtain ⟨sl, e'⟩ := y.ext.slots L o ho (fun q => hmu L q hfs) (tabNoData w ho (fun vs q => by rw [hd] at q; cases q))
  exact ⟨_, es, ep, e', hd⟩
theorem Ok.after {C : Cx} {n A sc names env g ρ s g' s'} (x : Ok C n A sc names env g ρ s) (y : After C NoMu (fsOf A) g s g' s') : Ok C n A sc names env g' ρ s' := by
  refine ⟨x.toOkC.after y (fun _ q => q.elim), x.code, ?_⟩
  obtain ⟨a1, a2, a3, a4, a5, a6, a7, a8, has, m, a9, a10⟩ := x.env
  have lo : ∃ o, s.heap.get? env.locals = some o := let ⟨o, _, _, e, _⟩ := a9; ⟨o, e⟩
  obtain ⟨oL, eL⟩ := lo
  refine ⟨a1, a2, a3, a4, y.gnone a5 eL, a6, fun x c hc => ?_, a8, has, m, ?_, ?_⟩
  · obtain ⟨b1, b2, b3, v, b4⟩ := a7 x c hc
    obtain ⟨o, e, _⟩ := id b4
    exact ⟨y.gnone b1 e, b2, b3, v, isCell_slots b4 fun o e => y.ext.slots c o e (fun q => q) b2⟩
  · exact ns_slots a9 fun o e => y.ext.slots _ o e (fun q => q) a6
  · refine a10.mono y.mono (fun x c v hc hcc => isCell_slots hcc fun o e => y.ext.slots c o e (fun q => q) (a7 x c hc).2.1) fun a vs k hg hh => ⟨y.ext.keep a _ hh (fun q => q) ?_ fun hm => ?_, y.gnone hg hh⟩
    · exact tabNoData x.wd hh fun vs q => by cases q
    · obtain ⟨_, o, es, ep, ho, hd⟩ := x.toOkC.frame hm
      rw [hh] at ho; cases ho; cases hd

/-- an exception of ours in flight, having left at least one frame -/
noncomputable def Fly (A : Around) (g' : GP) (s : Shared) (e : Addr) (s' : Shared) : Prop :=
  ∃ base a0 l, A.frames = some l ∧ (Heap.FlyingW base l e (.ref 52) a0 s'.heap ∧ TabInv g' base 265 tq1 ∧ TabInv g' base 241 tq2 ∧ ∀ a o, g' a = some o → base.get? a = some o) ∧ ∀ a o, s.heap.get? a = some o → a ∉ fsOf A → ∃ o', base.get? a = some o'

noncomputable def Post (C : Cx) (A : Around) (g : GP) (s : Shared) (Q : Value → Shared → Prop) (E : Value → Shared → Prop) : R → Prop
  | .ok p => ∀ v g' s', After C NoMu (fsOf A) g s g' s' → Rep g' p v → Q v s'
  | .exc => ∀ e g' s', After C NoMu (fsOf A) g s g' s' → Fly A g' s e s' → E (.ref e) s'
  | .stuck => False

abbrev ED := List PV → R
noncomputable def ESound (C : Cx) (n : Nat) (sc : Scope) (names : List Str) (e : Expr) (f : ED) : Prop :=
  ∀ A env g ρ s Q E, Ok C n A sc names env g ρ s → Post C A g s Q E (f ρ) → wpAny C.M A (eval e env) Q E s

end Mine
end

/-! ## F2 -/
section
open PySem PySem.W PyProof.Rows PySem.Calls
set_option maxRecDepth 100000
set_option maxHeartbeats 4000000
set_option linter.unusedVariables false
namespace Mine
variable {C : Cx} {n : Nat} {sc : Scope} {names : List Str}

/-- the state after a step that turns the heap only by laying new things, and the tokens -/
theorem Wd.grow {C : Cx} {g : GP} {h h' : Heap} (w : Wd C g h) (k : ∀ a o, h.get? a = some o → h'.get? a = some o) : Wd C g h' := by
  obtain ⟨a, b, c, t1, t2⟩ := w
  exact ⟨a, fun x o e => k _ _ (b x o e), c, t1.to (fun _ _ e => e) (k _), t2.to (fun _ _ e => e) (k _)⟩
theorem After.grow {C : Cx} {mu fs g} {s : Shared} {h' : Heap} {tk : Nat} (w : Wd C g s.heap) (k : ∀ a o, s.heap.get? a = some o → h'.get? a = some o) : After C mu fs g s g { s with heap := h', toks := tk } :=
  ⟨⟨h', tk, rfl⟩, .of_keeps k, .refl _, w.grow k, fun _ _ e => .inl e⟩
theorem After.toks {C : Cx} {mu fs g} {s : Shared} {tk : Nat} (w : Wd C g s.heap) : After C mu fs g s g { s with toks := tk } :=
  ⟨⟨s.heap, tk, rfl⟩, .refl .., .refl _, w, fun _ _ e => .inl e⟩

/-- one more kept object -/
noncomputable def GP.add (g : GP) (a : Addr) (o : Obj) : GP := fun b => if b = a then some o else g b
theorem GP.le_add {g : GP} {a : Addr} {o : Obj} (hn : g a = none) : GLe g (g.add a o) := fun b x e => by
  unfold GP.add
  by_cases q : b = a
  · subst q; rw [hn] at e; cases e
  · rw [if_neg q]; exact e
theorem GP.add_self (g : GP) (a : Addr) (o : Obj) : g.add a o a = some o := if_pos rfl
theorem Wd.none_new {C : Cx} {g : GP} {h : Heap} (w : Wd C g h) {a : Addr} (hn : h.get? a = none) : g a = none := by
  cases q : g a with
  | none => rfl
  | some o => have := w.sub a o q; rw [hn] at this; cases this
theorem Wd.tb_live {C : Cx} {g : GP} {h : Heap} (w : Wd C g h) {a : Addr} (t : Tb a) : ∃ o, h.get? a = some o := by
  rcases t with rfl | rfl
  · obtain ⟨ps, e, _⟩ := w.t1; exact ⟨_, e⟩
  · obtain ⟨ps, e, _⟩ := w.t2; exact ⟨_, e⟩
/-- an object that is new to s is kept from now on -/
theorem After.adopt {C : Cx} {mu fs g s g' s'} (x : After C mu fs g s g' s') {a : Addr} {o : Obj} (hn : s.heap.get? a = none) (hg : g' a = none) (he : s'.heap.get? a = some o) (w : Wd C g s.heap) :
    After C mu fs g s (g'.add a o) s' := by
  refine ⟨x.eq, x.ext, x.mono.trans (GP.le_add hg), ?_, fun b ob e => ?_⟩
  · refine ⟨fun b ob e => GP.le_add hg _ _ (x.wd.base b ob e), fun b ob e => ?_, fun b t => ?_, x.wd.t1.to (fun b ob e => GP.le_add hg _ _ e) (fun _ e => e), x.wd.t2.to (fun b ob e => GP.le_add hg _ _ e) (fun _ e => e)⟩
    · unfold GP.add at e
      by_cases q : b = a
      · rw [if_pos q] at e; cases e; rw [q]; exact he
      · rw [if_neg q] at e; exact x.wd.sub b ob e
    · unfold GP.add
      by_cases q : b = a
      · subst q; obtain ⟨o', e'⟩ := w.tb_live t; rw [hn] at e'; cases e'
      · rw [if_neg q]; exact x.wd.nt b t
  · unfold GP.add at e
    by_cases q : b = a
    · rw [q]; exact .inr hn
    · rw [if_neg q] at e; exact x.fresh b ob e
theorem heap_new (h : Heap) : h.get? h.objs.size = none := by
  cases q : h.get? h.objs.size with
  | none => rfl
  | some o => exact absurd (Heap.lt_size q) (Nat.lt_irrefl _)
/-- a thing laid and kept -/
theorem After.lay {C : Cx} {mu fs g} {s : Shared} {tk : Nat} {o : Obj} (w : Wd C g s.heap) (hf : o.isFreed = false) : After C mu fs g s (g.add s.heap.objs.size o) { s with heap := s.heap.push o, toks := tk } :=
  After.adopt (s' := { s with heap := s.heap.push o, toks := tk }) (After.grow (h' := s.heap.push o) (tk := tk) w fun a x e => Heap.get?_push_of_some _ e) (heap_new _) (w.none_new (heap_new _)) (Heap.get?_push_size _ hf) w

theorem Post.mono_state {C : Cx} {A : Around} {g g₁ : GP} {s s₁ : Shared} {Q E : Value → Shared → Prop} {r : R} (x : After C NoMu (fsOf A) g s g₁ s₁) (h : Post C A g s Q E r) : Post C A g₁ s₁ Q E r := by
  cases r with
  | ok p => exact fun v g' s' y hv => h v g' s' (x.trans y) hv
  | exc => exact fun e g' s' y ⟨base, a0, l, h1, h2, h3⟩ => h e g' s' (x.trans y) ⟨base, a0, l, h1, h2, fun a o ho hn => let ⟨o', e'⟩ := x.ext.live a o ho; h3 a o' e' hn⟩
  | stuck => exact h.elim

noncomputable def R.bind (r : R) (k : PV → R) : R := match r with | .ok p => k p | .exc => .exc | .stuck => .stuck
/-- the two halves of a step: the first part's end hands on to the second -/
theorem Post.bind {C : Cx} {A : Around} {g : GP} {s : Shared} {Q E : Value → Shared → Prop} {r : R} {k : PV → R} (h : Post C A g s Q E (r.bind k)) {Q' : Value → Shared → Prop}
    (hQ : ∀ p v g' s', r = .ok p → After C NoMu (fsOf A) g s g' s' → Rep g' p v → Post C A g' s' Q E (k p) → Q' v s') : Post C A g s Q' E r := by
  cases r with
  | ok p => exact fun v g' s' y hv => hQ p v g' s' rfl y hv (Post.mono_state y h)
  | exc => exact h
  | stuck => exact h.elim

section consts
theorem es_int {i : Int} {k pos} : ESound C n sc names (.Constant (.int i) k pos) (fun _ => .ok (.int i)) :=
  fun A env g ρ s Q E x h => wpAny_Constant_int (h _ g _ (After.toks x.wd) ⟨_, rfl⟩)
theorem es_str {y : Str} {k pos} (l : List Nat) (e : y = ⟨l.toArray⟩) : ESound C n sc names (.Constant (.str y) k pos) (fun _ => .ok (.str l)) :=
  fun A env g ρ s Q E x h => Calls.Constant_str (h _ g _ (After.toks x.wd) ⟨_, by rw [e]⟩)
theorem es_bool {b : Bool} {k pos} : ESound C n sc names (.Constant (.bool b) k pos) (fun _ => .ok (.bool b)) :=
  fun A env g ρ s Q E x h => wpAny_Constant_bool (h _ g _ (After.refl x.wd) rfl)
theorem es_none {k pos} : ESound C n sc names (.Constant .none k pos) (fun _ => .ok .none) :=
  fun A env g ρ s Q E x h => wpAny_Constant_none (h _ g _ (After.refl x.wd) rfl)
end consts

noncomputable def varD (i : Nat) : ED := fun ρ => match ρ[i]? with | some .nil => .stuck | some (.own _) => .stuck | some p => .ok p | none => .stuck
theorem VarsOk.get {env : Env} {m : Str → Option Value} {g : GP} {h : Heap} : ∀ {names : List Str} {ρ : List PV} {i : Nat} {x : Str} {p : PV}, VarsOk env m g h names ρ → names[i]? = some x → ρ[i]? = some p → (p = .nil ∨ (∃ v, Rep g p v ∧ VarOk env m h x v) ∨ ∃ l v, p = .own l ∧ VarOk env m h x v ∧ OwnAt g h env.locals l v)
  | _ :: _, _ :: _, 0, _, _, ⟨h1, _⟩, e1, e2 => by cases e1; cases e2; exact h1
  | _ :: _, _ :: _, i + 1, _, _, ⟨_, h2⟩, e1, e2 => VarsOk.get (i := i) h2 (by simpa using e1) (by simpa using e2)
  | [], _, _, _, _, _, e1, _ => by simp at e1
  | _ :: _, [], _, _, _, h, _, _ => h.elim
theorem load_var {A : Around} {E : Value → Shared → Prop} {s : Shared} {env : Env} {m : Str → Option Value} {x : Str} {v : Value} {Q : Value → Shared → Prop} (hk : env.scope.kind = .function) (hn : s.heap.Ns env.locals m)
    (hv : VarOk env m s.heap x v) (h : Q v s) (hc : (x == ("__classdict__" : Str)) = false) : wpAny C.M A (loadName env x) Q E s := by
  rcases hv with ⟨h1, h2⟩ | ⟨h1 | h1, c, h2, h3⟩
  · exact wpAny_loadName_local hk h1 hn h2 h
  · exact wpAny_loadName_cell hk h1 h2 h3 h
  · exact wpAny_loadName_free hk h1 h2 h3 h hc
theorem es_var (i : Nat) {x : Str} {pos} (hx : names[i]? = some x := by rfl) (hd : (x == ("__debug__" : Str)) = false := by decide) (hc : (x == ("__classdict__" : Str)) = false := by decide) :
    ESound C n sc names (.Name x pos) (varD i) := fun A env g ρ s Q E ok h => by
  obtain ⟨a1, a2, a3, a4, a5, a6, a7, a8, _, m, a9, a10⟩ := ok.env
  unfold varD at h
  cases q : ρ[i]? with
  | none => rw [q] at h; exact h.elim
  | some p =>
    rw [q] at h
    rcases a10.get hx q with rfl | ⟨v, hr, hv⟩ | ⟨l, v, rfl, _⟩
    · exact h.elim
    rotate_left
    · exact h.elim
    · refine wpAny_Name (load_var (by rw [a1]; exact a2) a9 hv ?_ hc) hd
      cases p <;> first | exact h.elim | exact h _ g _ (After.refl ok.wd) hr

theorem glob_load {A : Around} {E : Value → Shared → Prop} {g : GP} {ρ : List PV} {s : Shared} {env : Env} {x : Str} {pos : Pos} {v : Value} {Q : Value → Shared → Prop} (ok : Ok C n A sc names env g ρ s)
    (hv : C.mg x = some v) (hk : sc.names.lookup x = some .globalImplicit) (h : Q v s) (hd : (x == ("__debug__" : Str)) = false) : wpAny C.M A (eval (.Name x pos) env) Q E s := by
  have e := ok.env
  refine Name_function_global (by rw [e.scope]; exact e.kind) (by unfold Env.kindOf; rw [e.scope]; exact hk) (loadGlobal_global (mg := C.mg) ?_ hv h) hd
  rw [e.glob]
  exact C.top.g.keeps fun a o q => ok.wd.sub _ _ (ok.wd.base a o q)
theorem glob_builtin {A : Around} {E : Value → Shared → Prop} {g : GP} {ρ : List PV} {s : Shared} {env : Env} {x : Str} {pos : Pos} {v : Value} {Q : Value → Shared → Prop} (ok : Ok C n A sc names env g ρ s)
    (hv : C.mg x = none) (hb : bootBuiltins x = some v) (hnm : x ≠ "__name__") (hk : sc.names.lookup x = some .globalImplicit) (h : Q v s) (hd : (x == ("__debug__" : Str)) = false) : wpAny C.M A (eval (.Name x pos) env) Q E s := by
  have e := ok.env
  have kk : ∀ a o, C.hb.get? a = some o → s.heap.get? a = some o := fun a o q => ok.wd.sub _ _ (ok.wd.base a o q)
  refine Name_function_global (by rw [e.scope]; exact e.kind) (by unfold Env.kindOf; rw [e.scope]; exact hk) (loadGlobal_builtin (mg := C.mg) (mb := C.mb) ?_ hv ?_ ((C.top.builtins x hnm).trans hb) h) hd
  · rw [e.glob]; exact C.top.g.keeps kk
  · rw [e.blt]; exact C.top.b.keeps kk
theorem Cx.mgv (C : Cx) {x : Str} {v : Value} (e : nsIn (KF C.w) mainGlobals x = some (some v)) : C.mg x = some v := mg_of C.kin C.top.g e
theorem Cx.mgn (C : Cx) {x : Str} (e : nsIn (KF C.w) mainGlobals x = some none) : C.mg x = none := mg_none_of C.kin C.top.g e
end Mine
end

/-! ## F3 -/
section
open PySem PySem.W PyProof.Rows PySem.Calls
set_option maxRecDepth 100000
set_option maxHeartbeats 4000000
set_option linter.unusedVariables false
namespace Mine
variable {C : Cx} {n : Nat} {sc : Scope} {names : List Str}

noncomputable def Op1 (C : Cx) (n : Nat) (t : Value → Sem Value) (k : PV → R) : Prop :=
  ∀ A g s Q E a va, OkC C n A g s → Rep g a va → Post C A g s Q E (k a) → wpAny C.M A (t va) Q E s
noncomputable def Op2 (C : Cx) (n : Nat) (t : Value → Value → Sem Value) (k : PV → PV → R) : Prop :=
  ∀ A g s Q E a b va vb, OkC C n A g s → Rep g a va → Rep g b vb → Post C A g s Q E (k a b) → wpAny C.M A (t va vb) Q E s

noncomputable def bin (f g : ED) (k : PV → PV → R) : ED := fun ρ => (f ρ).bind fun a => (g ρ).bind fun b => k a b
noncomputable def un (f : ED) (k : PV → R) : ED := fun ρ => (f ρ).bind k

theorem es_BinOp {op : Operator} {l r : Expr} {pos : Pos} {f g : ED} {k : PV → PV → R} (ho : Op2 C n (binaryOp op) k) (hl : ESound C n sc names l f) (hr : ESound C n sc names r g) :
    ESound C n sc names (.BinOp l op r pos) (bin f g k) := fun A env gg ρ s Q E ok h => by
  refine wpAny_BinOp (hl A env gg ρ s _ E ok (Post.bind h fun p v g' s' hp y hv hk => ?_))
  refine hr A env g' ρ s' _ E (ok.after y) (Post.bind hk fun p2 v2 g2 s2 hp2 y2 hv2 hk2 => ?_)
  exact ho A g2 s2 Q E p p2 v v2 ((ok.after y).after y2).toOkC (hv.mono y2.mono) hv2 hk2
theorem es_Compare {op : CmpOp} {l r : Expr} {pos : Pos} {f g : ED} {k : PV → PV → R} (ho : Op2 C n (compareOp op) k) (hl : ESound C n sc names l f) (hr : ESound C n sc names r g)
    (hm : behindInMarks op r = false := by with_unfolding_all rfl) : ESound C n sc names (.Compare l [op] [r] pos) (bin f g k) := fun A env gg ρ s Q E ok h => by
  refine wpAny_Compare1 (hm := hm) (hl A env gg ρ s _ E ok (Post.bind h fun p v g' s' hp y hv hk => ?_))
  refine hr A env g' ρ s' _ E (ok.after y) (Post.bind hk fun p2 v2 g2 s2 hp2 y2 hv2 hk2 => ?_)
  exact ho A g2 s2 Q E p p2 v v2 ((ok.after y).after y2).toOkC (hv.mono y2.mono) hv2 hk2

/-- a test: its answer is a bool -/
noncomputable def TPost (C : Cx) (A : Around) (g : GP) (s : Shared) (K : Bool → Shared → Prop) (E : Value → Shared → Prop) : R → Prop
  | .ok (.bool b) => ∀ g' s', After C NoMu (fsOf A) g s g' s' → K b s'
  | .exc => ∀ e g' s', After C NoMu (fsOf A) g s g' s' → Fly A g' s e s' → E (.ref e) s'
  | _ => False
noncomputable def TSound (C : Cx) (n : Nat) (sc : Scope) (names : List Str) (e : Expr) (f : ED) : Prop :=
  ∀ A env g ρ s K E, Ok C n A sc names env g ρ s → TPost C A g s K E (f ρ) → wpAny C.M A (isTrue e env (eval e env)) K E s

noncomputable def R.test (r : R) (k : Bool → R) : R := match r with | .ok (.bool b) => k b | .exc => .exc | _ => .stuck
theorem TPost.mono_state {A : Around} {g g₁ : GP} {s s₁ : Shared} {K : Bool → Shared → Prop} {E : Value → Shared → Prop} {r : R} (x : After C NoMu (fsOf A) g s g₁ s₁) (h : TPost C A g s K E r) : TPost C A g₁ s₁ K E r := by
  cases r with
  | ok p =>
    cases p with
    | bool b => exact fun g' s' y => h g' s' (x.trans y)
    | _ => exact h.elim
  | exc => exact fun e g' s' y ⟨base, a0, l, h1, h2, h3⟩ => h e g' s' (x.trans y) ⟨base, a0, l, h1, h2, fun a o ho hn => let ⟨o', e'⟩ := x.ext.live a o ho; h3 a o' e' hn⟩
  | stuck => exact h.elim
/-- from a test on to a value -/
theorem Post.test {A : Around} {g : GP} {s : Shared} {Q E : Value → Shared → Prop} {r : R} {k : Bool → R} (h : Post C A g s Q E (r.test k)) {K : Bool → Shared → Prop}
    (hK : ∀ b g' s', r = .ok (.bool b) → After C NoMu (fsOf A) g s g' s' → Post C A g' s' Q E (k b) → K b s') : TPost C A g s K E r := by
  cases r with
  | ok p =>
    cases p with
    | bool b => exact fun g' s' y => hK b g' s' rfl y (Post.mono_state y h)
    | _ => exact h.elim
  | exc => exact h
  | stuck => exact h.elim
theorem TPost.test {A : Around} {g : GP} {s : Shared} {K' : Bool → Shared → Prop} {E : Value → Shared → Prop} {r : R} {k : Bool → R} (h : TPost C A g s K' E (r.test k)) {K : Bool → Shared → Prop}
    (hK : ∀ b g' s', r = .ok (.bool b) → After C NoMu (fsOf A) g s g' s' → TPost C A g' s' K' E (k b) → K b s') : TPost C A g s K E r := by
  cases r with
  | ok p =>
    cases p with
    | bool b => exact fun g' s' y => hK b g' s' rfl y (TPost.mono_state y h)
    | _ => exact h.elim
  | exc => exact h
  | stuck => exact h.elim
/-- from a value on to a test -/
theorem TPost.bind {A : Around} {g : GP} {s : Shared} {K : Bool → Shared → Prop} {E : Value → Shared → Prop} {r : R} {k : PV → R} (h : TPost C A g s K E (r.bind k)) {Q' : Value → Shared → Prop}
    (hQ : ∀ p v g' s', r = .ok p → After C NoMu (fsOf A) g s g' s' → Rep g' p v → TPost C A g' s' K E (k p) → Q' v s') : Post C A g s Q' E r := by
  cases r with
  | ok p => exact fun v g' s' y hv => hQ p v g' s' rfl y hv (TPost.mono_state y h)
  | exc => exact h
  | stuck => exact h.elim

/-- an expression of no test's form of its own, whose value is a bool -/
theorem ts_plain {e : Expr} {f : ED} (he : ∀ env, isTrue e env (eval e env) = (do let v ← eval e env; standAt e.pos; holding [v] (truthy v))) (h : ESound C n sc names e f) :
    TSound C n sc names e (fun ρ => (f ρ).test fun b => .ok (.bool b)) := fun A env g ρ s K E ok hp => by
  refine isTrue_plain (h A env g ρ s _ E ok ?_) (he env)
  dsimp only at hp
  cases hr : f ρ with
  | ok p =>
    rw [hr] at hp
    cases p with
    | bool b =>
      intro v g' s' y hv
      obtain rfl : v = .bool b := hv
      exact wpAny_truthy_bool (hp g' s' y)
    | _ => exact hp.elim
  | exc => rw [hr] at hp; exact hp
  | stuck => rw [hr] at hp; exact hp.elim
theorem ts_Compare {op : CmpOp} {l r : Expr} {pos : Pos} {f g : ED} {k : PV → PV → R} (ho : Op2 C n (compareOp op) k) (hl : ESound C n sc names l f) (hr : ESound C n sc names r g)
    (hm : behindInMarks op r = false := by with_unfolding_all rfl) : TSound C n sc names (.Compare l [op] [r] pos) (bin f g fun a b => (k a b).test fun c => .ok (.bool c)) := fun A env gg ρ s K E ok h => by
  refine wpAny_isTrue_Compare1 (hm := hm) (hl A env gg ρ s _ E ok (TPost.bind h fun p v g' s' hp y hv hk => ?_))
  refine hr A env g' ρ s' _ E (ok.after y) (TPost.bind hk fun p2 v2 g2 s2 hp2 y2 hv2 hk2 => ?_)
  refine ho A g2 s2 _ E p p2 v v2 ((ok.after y).after y2).toOkC (hv.mono y2.mono) hv2 ?_
  dsimp only at hk2
  generalize hr : k p p2 = r' at hk2 ⊢
  cases r' with
  | ok q =>
    cases q with
    | bool b =>
      intro v g' s' y hv
      obtain rfl : v = .bool b := hv
      exact wpAny_truthy_bool (hk2 g' s' y)
    | _ => exact hk2.elim
  | exc => exact hk2
  | stuck => exact hk2.elim
theorem ts_Not {x : Expr} {pos : Pos} {f : ED} (h : TSound C n sc names x f) : TSound C n sc names (.UnaryOp .Not x pos) (fun ρ => (f ρ).test fun b => .ok (.bool !b)) := fun A env g ρ s K E ok hp => by
  refine isTrue_not (h A env g ρ s _ E ok (TPost.test hp fun b g' s' _ y hk => ?_))
  exact hk g' s' (After.refl ((ok.after y).wd))
noncomputable def andD (f g : ED) : ED := fun ρ => (f ρ).test fun b => if b then g ρ else .ok (.bool false)
noncomputable def orD (f g : ED) : ED := fun ρ => (f ρ).test fun b => if b then .ok (.bool true) else g ρ
noncomputable def boolD (b : Bool) : ED := fun _ => .ok (.bool b)
theorem ts_andnil {pos : Pos} : TSound C n sc names (.BoolOp .And [] pos) (boolD true) := fun A env g ρ s K E ok hp => isTrue_and_nil (hp g s (After.refl ok.wd))
theorem ts_ornil {pos : Pos} : TSound C n sc names (.BoolOp .Or [] pos) (boolD false) := fun A env g ρ s K E ok hp => isTrue_or_nil (hp g s (After.refl ok.wd))
theorem ts_and {pos : Pos} {e : Expr} {es : List Expr} {f k : ED} (h1 : TSound C n sc names e f) (h2 : TSound C n sc names (.BoolOp .And es pos) k) : TSound C n sc names (.BoolOp .And (e :: es) pos) (andD f k) := fun A env g ρ s K E ok hp => by
  refine isTrue_and (h1 A env g ρ s _ E ok (TPost.test hp fun b g' s' _ y hk => ?_))
  cases b with
  | true => exact h2 A env g' ρ s' K E (ok.after y) hk
  | false => exact hk g' s' (After.refl ((ok.after y).wd))
theorem ts_or {pos : Pos} {e : Expr} {es : List Expr} {f k : ED} (h1 : TSound C n sc names e f) (h2 : TSound C n sc names (.BoolOp .Or es pos) k) : TSound C n sc names (.BoolOp .Or (e :: es) pos) (orD f k) := fun A env g ρ s K E ok hp => by
  refine isTrue_or (h1 A env g ρ s _ E ok (TPost.test hp fun b g' s' _ y hk => ?_))
  cases b with
  | true => exact hk g' s' (After.refl ((ok.after y).wd))
  | false => exact h2 A env g' ρ s' K E (ok.after y) hk
theorem es_IfExp {t b o : Expr} {pos : Pos} {ft fb fo : ED} (ht : TSound C n sc names t ft) (hb : ESound C n sc names b fb) (ho : ESound C n sc names o fo) :
    ESound C n sc names (.IfExp t b o pos) (fun ρ => (ft ρ).test fun c => if c then fb ρ else fo ρ) := fun A env g ρ s Q E ok hp => by
  refine wpAny_IfExp (ht A env g ρ s _ E ok (Post.test hp fun c g' s' _ y hk => ?_))
  cases c with
  | true => exact hb A env g' ρ s' Q E (ok.after y) hk
  | false => exact ho A env g' ρ s' Q E (ok.after y) hk
theorem es_one {op : BoolOp} {pos : Pos} {e : Expr} {f : ED} (h : ESound C n sc names e f) : ESound C n sc names (.BoolOp op [e] pos) f := fun A env g ρ s Q E ok hp => BoolOp_one (h A env g ρ s Q E ok hp)
theorem Post.testV {A : Around} {g : GP} {s : Shared} {Q E : Value → Shared → Prop} {r : R} {k : Bool → R} (h : Post C A g s Q E (r.test k)) {Q' : Value → Shared → Prop}
    (hQ : ∀ b g' s', r = .ok (.bool b) → After C NoMu (fsOf A) g s g' s' → Post C A g' s' Q E (k b) → Q' (.bool b) s') : Post C A g s Q' E r := by
  cases r with
  | ok p =>
    cases p with
    | bool b => exact fun v g' s' y hv => by obtain rfl : v = .bool b := hv; exact hQ b g' s' rfl y (Post.mono_state y h)
    | _ => exact h.elim
  | exc => exact h
  | stuck => exact h.elim
theorem es_and {pos : Pos} {e e' : Expr} {es : List Expr} {f k : ED} (h1 : ESound C n sc names e f) (h2 : ESound C n sc names (.BoolOp .And (e' :: es) pos) k) :
    ESound C n sc names (.BoolOp .And (e :: e' :: es) pos) (andD f k) := fun A env g ρ s Q E ok hp => by
  refine BoolOp_and (h1 A env g ρ s _ E ok (Post.testV hp fun b g' s' _ y hk => wpAny_truthy_bool ?_))
  cases b with
  | true => exact h2 A env g' ρ s' Q E (ok.after y) hk
  | false => exact hk _ g' s' (After.refl ((ok.after y).wd)) rfl
theorem es_or {pos : Pos} {e e' : Expr} {es : List Expr} {f k : ED} (h1 : ESound C n sc names e f) (h2 : ESound C n sc names (.BoolOp .Or (e' :: es) pos) k) :
    ESound C n sc names (.BoolOp .Or (e :: e' :: es) pos) (orD f k) := fun A env g ρ s Q E ok hp => by
  refine BoolOp_or (h1 A env g ρ s _ E ok (Post.testV hp fun b g' s' _ y hk => wpAny_truthy_bool ?_))
  cases b with
  | true => exact hk _ g' s' (After.refl ((ok.after y).wd)) rfl
  | false => exact h2 A env g' ρ s' Q E (ok.after y) hk
end Mine
end

/-! ## F4 -/
section
open PySem PySem.W PyProof.Rows PySem.Calls PySem.SeqAt
set_option maxRecDepth 100000
set_option maxHeartbeats 4000000
set_option linter.unusedVariables false
namespace Mine
variable {C : Cx} {n : Nat} {sc : Scope} {names : List Str}

/-- rows (spines) -/
noncomputable def PV.app : PV → PV → PV
  | .cons x r, b => .cons x (r.app b)
  | _, b => b
noncomputable def PV.len : PV → Nat
  | .cons _ r => r.len + 1
  | _ => 0
noncomputable def PV.row : PV → Bool
  | .nil => true
  | .cons _ r => r.row
  | _ => false
noncomputable def PV.nth : PV → Nat → Option PV
  | .cons x _, 0 => some x
  | .cons _ r, i + 1 => r.nth i
  | _, _ => Option.none
noncomputable def PV.items : PV → List PV
  | .cons x r => x :: r.items
  | _ => []
noncomputable def ofItems : List PV → PV
  | [] => .nil
  | x :: r => .cons x (ofItems r)

theorem RepL.row {g : GP} : ∀ {p : PV} {vs : List Value}, RepL g p vs → p.row = true ∧ vs.length = p.len
  | .nil, vs, h => by obtain rfl : vs = [] := h; exact ⟨rfl, rfl⟩
  | .cons x r, vs, h => by
    obtain ⟨v, ws, rfl, _, h2⟩ := h
    have ih := RepL.row (p := r) h2
    exact ⟨ih.1, by rw [List.length_cons, ih.2]; rfl⟩
  | .none, _, h | .bool _, _, h | .int _, _, h | .str _, _, h | .tup _, _, h | .lst _, _, h | .reg .., _, h | .own _, _, h | .ext _, _, h => h.elim
theorem RepL.app {g : GP} : ∀ {p q : PV} {vs ws : List Value}, RepL g p vs → RepL g q ws → RepL g (p.app q) (vs ++ ws)
  | .nil, q, vs, ws, h, hq => by obtain rfl : vs = [] := h; exact hq
  | .cons x r, q, vs, ws, h, hq => by
    obtain ⟨v, us, rfl, h1, h2⟩ := h
    exact ⟨v, us ++ ws, rfl, h1, RepL.app h2 hq⟩
  | .none, _, _, _, h, _ | .bool _, _, _, _, h, _ | .int _, _, _, _, h, _ | .str _, _, _, _, h, _ | .tup _, _, _, _, h, _ | .lst _, _, _, _, h, _ | .reg .., _, _, _, h, _ | .own _, _, _, _, h, _ | .ext _, _, _, _, h, _ => h.elim
theorem RepL.nth {g : GP} : ∀ {p : PV} {vs : List Value} {i : Nat} {x : PV}, RepL g p vs → p.nth i = some x → ∃ v, vs[i]? = some v ∧ Rep g x v
  | .nil, _, _, _, _, e => by cases e
  | .cons x r, vs, 0, y, h, e => by
    obtain ⟨v, ws, rfl, h1, _⟩ := h
    cases e
    exact ⟨v, rfl, h1⟩
  | .cons x r, vs, i + 1, y, h, e => by
    obtain ⟨v, ws, rfl, _, h2⟩ := h
    obtain ⟨u, e1, e2⟩ := RepL.nth (p := r) (i := i) h2 e
    exact ⟨u, e1, e2⟩
  | .none, _, _, _, h, _ | .bool _, _, _, _, h, _ | .int _, _, _, _, h, _ | .str _, _, _, _, h, _ | .tup _, _, _, _, h, _ | .lst _, _, _, _, h, _ | .reg .., _, _, _, h, _ | .own _, _, _, _, h, _ | .ext _, _, _, _, h, _ => h.elim

theorem Room.depth_lt {n : Nat} {A : Around} (r : Room n A) : A.depth < recursionLimit := by
  have := r.depth; unfold recursionLimit; omega
theorem Room.units_lt {n : Nat} {A : Around} (r : Room n A) : A.units + 64 < cLine := by
  have := r.units; unfold cLine; omega

/-! ### data -/
noncomputable def scal : PV → Bool
  | .none | .bool _ | .int _ => true
  | .str s => s.all (· < 0x110000)
  | _ => false
noncomputable def flat : PV → Bool
  | .nil => true
  | .cons x r => scal x && flat r
  | _ => false
noncomputable def pyS : PV → PyData
  | .bool b => .bool b
  | .int i => .int i
  | .str s => .str ⟨s.toArray⟩
  | _ => .none
noncomputable def pyR : PV → List PyData
  | .cons x r => pyS x :: pyR r
  | _ => []
noncomputable def eqS : PV → PV → Option Bool
  | .none, .none => some true
  | .bool a, .bool b => some (a == b)
  | .int a, .int b => some (a == b)
  | .str a, .str b => some (a == b)
  | .bool _, .int _ | .int _, .bool _ => none
  | _, _ => some false
noncomputable def eqR : PV → PV → Option Bool
  | .nil, .nil => some true
  | .cons x r, .cons y t => match eqS x y with
    | some true => eqR r t
    | some false => some false
    | none => none
  | _, _ => some false
noncomputable def eqD : PV → PV → Option Bool
  | .tup a, .tup b => if flat a && flat b then eqR a b else none
  | .lst a, .lst b => if flat a && flat b then eqR a b else none
  | a, b => if scal a && scal b then eqS a b else none

theorem str_beq (a b : List Nat) : ((⟨a.toArray⟩ : Str) == ⟨b.toArray⟩) = (a == b) := by
  rw [Bool.eq_iff_iff]
  simp only [beq_iff_eq, Str.mk.injEq]
  constructor
  · intro h; simpa using congrArg Array.toList h
  · rintro rfl; rfl
theorem reads_scal {g : GP} {h : Heap} : ∀ {p : PV} {v : Value}, scal p = true → Rep g p v → Reads h v (pyS p) [] ∧ (pyS p).canLay0 = true ∧ (pyS p).depth ≤ 1
  | .none, v, _, r => by obtain rfl : v = .none := r; exact ⟨.none, rfl, by simp [pyS, PyData.depth]⟩
  | .bool b, v, _, r => by obtain rfl : v = .bool b := r; exact ⟨.bool b, rfl, by simp [pyS, PyData.depth]⟩
  | .int i, v, _, r => by obtain ⟨t, rfl⟩ : intO i v := r; exact ⟨.int i t, rfl, by simp [pyS, PyData.depth]⟩
  | .str s, v, hs, r => by
    obtain ⟨t, rfl⟩ : strO s v := r
    refine ⟨.str _ t, ?_, by simp [pyS, PyData.depth]⟩
    rw [pyS, PyData.canLay0]
    unfold PyData.strOk
    simpa [scal] using hs
  | .nil, _, h, _ | .cons .., _, h, _ | .tup _, _, h, _ | .lst _, _, h, _ | .reg .., _, h, _ | .own _, _, h, _ | .ext _, _, h, _ => by cases h
theorem reads_flat {g : GP} {h : Heap} : ∀ {p : PV} {vs : List Value}, flat p = true → RepL g p vs → ReadsAll h vs (pyR p) [] ∧ PyData.canLayAll0 (pyR p) = true ∧ PyData.depthAll (pyR p) ≤ 1
  | .nil, vs, _, r => by obtain rfl : vs = [] := r; exact ⟨.nil, rfl, by simp [pyR, PyData.depthAll]⟩
  | .cons x r, vs, hf, hr => by
    obtain ⟨v, ws, rfl, h1, h2⟩ := hr
    have hf' : scal x = true ∧ flat r = true := by simpa [flat] using hf
    obtain ⟨a1, a2, a3⟩ := reads_scal (h := h) hf'.1 h1
    obtain ⟨b1, b2, b3⟩ := reads_flat (h := h) hf'.2 h2
    refine ⟨ReadsAll.cons a1 b1, ?_, ?_⟩
    · show ((pyS x).canLay0 && PyData.canLayAll0 (pyR r)) = true
      rw [a2, b2]; rfl
    · show PyData.depthAll (pyS x :: pyR r) ≤ 1
      rw [PyData.depthAll]; omega
  | .none, _, h, _ | .bool _, _, h, _ | .int _, _, h, _ | .str _, _, h, _ | .tup _, _, h, _ | .lst _, _, h, _ | .reg .., _, h, _ | .own _, _, h, _ | .ext _, _, h, _ => by cases h
theorem eqv_scal : ∀ {a b : PV} {c : Bool}, scal a = true → scal b = true → eqS a b = some c → PyData.eqv (pyS a) (pyS b) = c
  | .none, .none, c, _, _, e | .none, .bool _, c, _, _, e | .none, .int _, c, _, _, e | .none, .str _, c, _, _, e
  | .bool _, .none, c, _, _, e | .bool _, .bool _, c, _, _, e | .bool _, .str _, c, _, _, e
  | .int _, .none, c, _, _, e | .int _, .int _, c, _, _, e | .int _, .str _, c, _, _, e
  | .str _, .none, c, _, _, e | .str _, .bool _, c, _, _, e | .str _, .int _, c, _, _, e => by cases e; simp [pyS, PyData.eqv]
  | .str x, .str y, c, _, _, e => by cases e; simp only [pyS, PyData.eqv]; exact str_beq x y
  | .bool _, .int _, c, _, _, e | .int _, .bool _, c, _, _, e => by cases e
theorem eqv_flat : ∀ {a b : PV} {c : Bool}, flat a = true → flat b = true → eqR a b = some c → PyData.eqvAll (pyR a) (pyR b) = c
  | .nil, .nil, c, _, _, e => by cases e; simp [pyR, PyData.eqvAll]
  | .nil, .cons .., c, _, _, e => by cases e; simp [pyR, PyData.eqvAll]
  | .cons .., .nil, c, _, _, e => by cases e; simp [pyR, PyData.eqvAll]
  | .cons x r, .cons y t, c, ha, hb, e => by
    have ha' : scal x = true ∧ flat r = true := by simpa [flat] using ha
    have hb' : scal y = true ∧ flat t = true := by simpa [flat] using hb
    simp only [pyR, PyData.eqvAll]
    rw [eqR] at e
    cases hs : eqS x y with
    | none => rw [hs] at e; cases e
    | some d =>
      rw [hs] at e
      rw [eqv_scal ha'.1 hb'.1 hs]
      cases d with
      | true => rw [Bool.true_and]; exact eqv_flat ha'.2 hb'.2 e
      | false => cases e; rfl

noncomputable def eqK (a b : PV) : R := match eqD a b with | some c => .ok (.bool c) | none => .stuck
noncomputable def neK (a b : PV) : R := match eqD a b with | some c => .ok (.bool !c) | none => .stuck
/-- equality of data, once for both signs -/
theorem eq_reads {g : GP} {h : Heap} {a b : PV} {va vb : Value} {c : Bool} (hg : ∀ x o, g x = some o → h.get? x = some o) (e : eqD a b = some c) (ra : Rep g a va) (rb : Rep g b vb) :
    ∃ da db as bs, Reads h va da as ∧ Reads h vb db bs ∧ da.canLay0 = true ∧ db.canLay0 = true ∧ da.depth ≤ 64 ∧ PyData.eqv da db = c := by
  have lstS : ∀ {a : PV} {va : Value}, Rep g (.lst a) va → flat a = true → ∃ as, Reads h va (.list (pyR a)) as ∧ (PyData.list (pyR a)).canLay0 = true ∧ (PyData.list (pyR a)).depth ≤ 64 := by
    rintro a va ⟨x, vs, m, rfl, e, r⟩ hf
    obtain ⟨r1, r2, r3⟩ := reads_flat (h := h) hf r
    exact ⟨_, .list (hg _ _ e) rfl rfl r1, r2, by rw [PyData.depth]; omega⟩
  have tupS : ∀ {a : PV} {va : Value}, Rep g (.tup a) va → flat a = true → ∃ as, Reads h va (.tuple (pyR a)) as ∧ (PyData.tuple (pyR a)).canLay0 = true ∧ (PyData.tuple (pyR a)).depth ≤ 64 := by
    rintro a va ⟨x, vs, m, rfl, e, r⟩ hf
    obtain ⟨r1, r2, r3⟩ := reads_flat (h := h) hf r
    exact ⟨_, .tuple (hg _ _ e) rfl rfl r1, r2, by rw [PyData.depth]; omega⟩
  have scalC : scal a = true → scal b = true → eqS a b = some c → ∃ da db as bs, Reads h va da as ∧ Reads h vb db bs ∧ da.canLay0 = true ∧ db.canLay0 = true ∧ da.depth ≤ 64 ∧ PyData.eqv da db = c := by
    intro h1 h2 h3
    obtain ⟨a1, a2, a3⟩ := reads_scal (h := h) h1 ra
    obtain ⟨b1, b2, b3⟩ := reads_scal (h := h) h2 rb
    exact ⟨_, _, _, _, a1, b1, a2, b2, by omega, eqv_scal h1 h2 h3⟩
  unfold eqD at e
  split at e
  · split at e
    · rename_i hf
      have hf' := Bool.and_eq_true_iff.mp hf
      obtain ⟨_, a1, a2, a3⟩ := tupS ra hf'.1
      obtain ⟨_, b1, b2, b3⟩ := tupS rb hf'.2
      exact ⟨_, _, _, _, a1, b1, a2, b2, a3, by rw [PyData.eqv]; exact eqv_flat hf'.1 hf'.2 e⟩
    · cases e
  · split at e
    · rename_i hf
      have hf' := Bool.and_eq_true_iff.mp hf
      obtain ⟨_, a1, a2, a3⟩ := lstS ra hf'.1
      obtain ⟨_, b1, b2, b3⟩ := lstS rb hf'.2
      exact ⟨_, _, _, _, a1, b1, a2, b2, a3, by rw [PyData.eqv]; exact eqv_flat hf'.1 hf'.2 e⟩
    · cases e
  · split at e
    · rename_i hf
      have hf' := Bool.and_eq_true_iff.mp hf
      exact scalC hf'.1 hf'.2 e
    · cases e
theorem op_eq : Op2 C n (compareOp .Eq) eqK := fun A g s Q E a b va vb ok ra rb h => by
  unfold eqK at h
  cases e : eqD a b with
  | none => rw [e] at h; exact h.elim
  | some c =>
    rw [e] at h
    obtain ⟨da, db, as, bs, h1, h2, h3, h4, h5, h6⟩ := eq_reads ok.wd.sub e ra rb
    have hm : min da.depth db.depth ≤ da.depth := Nat.min_le_left _ _
    exact compareEq_reads h1 h2 h3 h4 (by have := ok.room.units_lt; omega) (h _ g s (After.refl ok.wd) (by rw [h6]; rfl))
theorem op_ne : Op2 C n (compareOp .NotEq) neK := fun A g s Q E a b va vb ok ra rb h => by
  unfold neK at h
  cases e : eqD a b with
  | none => rw [e] at h; exact h.elim
  | some c =>
    rw [e] at h
    obtain ⟨da, db, as, bs, h1, h2, h3, h4, h5, h6⟩ := eq_reads ok.wd.sub e ra rb
    have hm : min da.depth db.depth ≤ da.depth := Nat.min_le_left _ _
    exact compareNe_reads h1 h2 h3 h4 (by have := ok.room.units_lt; omega) (h _ g s (After.refl ok.wd) (by rw [h6]; rfl))

/-! ### in -/
noncomputable def inR (x : PV) : PV → Option Bool
  | .cons y r => match eqS y x with
    | some true => some true
    | some false => inR x r
    | none => none
  | _ => some false
noncomputable def inD (x : PV) : PV → Option Bool
  | .tup a | .lst a => if scal x && flat a then inR x a else none
  | _ => none
noncomputable def inK (a b : PV) : R := match inD a b with | some c => .ok (.bool c) | none => .stuck
noncomputable def notInK (a b : PV) : R := match inD a b with | some c => .ok (.bool !c) | none => .stuck
theorem any_flat {x : PV} (hx : scal x = true) : ∀ {r : PV} {c : Bool}, flat r = true → inR x r = some c → (c = true → ((pyR r).any fun y => PyData.eqv y (pyS x)) = true) ∧ (c = false → ((pyR r).any fun y => PyData.eqv y (pyS x)) = false)
  | .nil, c, _, e => by cases e; exact ⟨(fun q => nomatch q), fun _ => rfl⟩
  | .cons y r, c, hf, e => by
    have hf' : scal y = true ∧ flat r = true := by simpa [flat] using hf
    rw [inR] at e
    cases hs : eqS y x with
    | none => rw [hs] at e; cases e
    | some d =>
      rw [hs] at e
      have e1 := eqv_scal hf'.1 hx hs
      simp only [pyR, List.any_cons, e1]
      cases d with
      | true => cases e; exact ⟨fun _ => rfl, (fun q => nomatch q)⟩
      | false => rw [Bool.false_or]; exact any_flat hx hf'.2 e
  | .none, _, h, _ | .bool _, _, h, _ | .int _, _, h, _ | .str _, _, h, _ | .tup _, _, h, _ | .lst _, _, h, _ | .reg .., _, h, _ | .own _, _, h, _ | .ext _, _, h, _ => by cases h
theorem any_flat' {x r : PV} {c : Bool} (hx : scal x = true) (hf : flat r = true) (e : inR x r = some c) : ((pyR r).any fun y => PyData.eqv y (pyS x)) = c := by
  cases c with
  | true => exact (any_flat hx hf e).1 rfl
  | false => exact (any_flat hx hf e).2 rfl
theorem op_in : Op2 C n (compareOp .In) inK := fun A g s Q E a b va vb ok ra rb h => by
  unfold inK at h
  cases e : inD a b with
  | none => rw [e] at h; exact h.elim
  | some c =>
    rw [e] at h
    have hq := h (.bool c) g s (After.refl ok.wd) rfl
    have hu := ok.room.units_lt
    unfold inD at e
    split at e
    · split at e
      · rename_i p hf
        have hf' := Bool.and_eq_true_iff.mp hf
        obtain ⟨x, vs, m, rfl, eg, r⟩ := rb
        obtain ⟨r1, r2, r3⟩ := reads_flat (h := s.heap) hf'.2 r
        obtain ⟨a1, a2, a3⟩ := reads_scal (h := s.heap) hf'.1 ra
        refine in_tuple_reads (.tuple (ok.wd.sub _ _ eg) rfl rfl r1) a1 r2 a2 ?_ (by rw [any_flat' hf'.1 hf'.2 e]; exact hq)
        have := Nat.min_le_left (PyData.depthAll (pyR p)) (pyS a).depth; omega
      · cases e
    · split at e
      · rename_i p hf
        have hf' := Bool.and_eq_true_iff.mp hf
        obtain ⟨x, vs, m, rfl, eg, r⟩ := rb
        obtain ⟨r1, r2, r3⟩ := reads_flat (h := s.heap) hf'.2 r
        obtain ⟨a1, a2, a3⟩ := reads_scal (h := s.heap) hf'.1 ra
        refine in_list_reads (.list (ok.wd.sub _ _ eg) rfl rfl r1) a1 r2 a2 ?_ (by rw [any_flat' hf'.1 hf'.2 e]; exact hq)
        have := Nat.min_le_left (PyData.depthAll (pyR p)) (pyS a).depth; omega
      · cases e
    · cases e
theorem op_notin : Op2 C n (compareOp .NotIn) notInK := fun A g s Q E a b va vb ok ra rb h => by
  unfold notInK at h
  cases e : inD a b with
  | none => rw [e] at h; exact h.elim
  | some c =>
    rw [e] at h
    have hq := h (.bool !c) g s (After.refl ok.wd) rfl
    have hu := ok.room.units_lt
    unfold inD at e
    split at e
    · split at e
      · rename_i p hf
        have hf' := Bool.and_eq_true_iff.mp hf
        obtain ⟨x, vs, m, rfl, eg, r⟩ := rb
        obtain ⟨r1, r2, r3⟩ := reads_flat (h := s.heap) hf'.2 r
        obtain ⟨a1, a2, a3⟩ := reads_scal (h := s.heap) hf'.1 ra
        refine notIn_tuple_reads (.tuple (ok.wd.sub _ _ eg) rfl rfl r1) a1 r2 a2 ?_ (by rw [any_flat' hf'.1 hf'.2 e]; exact hq)
        have := Nat.min_le_left (PyData.depthAll (pyR p)) (pyS a).depth; omega
      · cases e
    · split at e
      · rename_i p hf
        have hf' := Bool.and_eq_true_iff.mp hf
        obtain ⟨x, vs, m, rfl, eg, r⟩ := rb
        obtain ⟨r1, r2, r3⟩ := reads_flat (h := s.heap) hf'.2 r
        obtain ⟨a1, a2, a3⟩ := reads_scal (h := s.heap) hf'.1 ra
        refine notIn_list_reads (.list (ok.wd.sub _ _ eg) rfl rfl r1) a1 r2 a2 ?_ (by rw [any_flat' hf'.1 hf'.2 e]; exact hq)
        have := Nat.min_le_left (PyData.depthAll (pyR p)) (pyS a).depth; omega
      · cases e
    · cases e
end Mine
end

/-! ## F5 -/
section
open PySem PySem.W PyProof.Rows PySem.Calls PySem.SeqAt
set_option maxRecDepth 100000
set_option maxHeartbeats 4000000
set_option linter.unusedVariables false
namespace Mine
variable {C : Cx} {n : Nat} {sc : Scope} {names : List Str}

/-! ### ints -/
noncomputable def isInt : PV → Option Int
  | .int a => some a
  | _ => Option.none
noncomputable def int2 (k : Int → Int → R) : PV → PV → R
  | .int a, .int b => k a b
  | _, _ => .stuck
theorem op_int2 {t : Value → Value → Sem Value} {k : Int → Int → R}
    (h : ∀ A g s Q E a b ta tb, OkC C n A g s → Post C A g s Q E (k a b) → wpAny C.M A (t (.int a ta) (.int b tb)) Q E s) : Op2 C n t (int2 k) := fun A g s Q E a b va vb ok ra rb hp => by
  cases a <;> first | exact hp.elim | skip
  cases b <;> first | exact hp.elim | skip
  obtain ⟨ta, rfl⟩ := ra
  obtain ⟨tb, rfl⟩ := rb
  exact h A g s Q E _ _ ta tb ok hp
theorem Post.int {A : Around} {g : GP} {s : Shared} {Q E : Value → Shared → Prop} {i : Int} {t tk : Tok} (w : Wd C g s.heap) (h : Post C A g s Q E (.ok (.int i))) : Q (.int i t) { s with toks := tk } := h _ g _ (After.toks w) ⟨_, rfl⟩
theorem Post.str {A : Around} {g : GP} {s : Shared} {Q E : Value → Shared → Prop} {i : List Nat} {t tk : Tok} (w : Wd C g s.heap) (h : Post C A g s Q E (.ok (.str i))) : Q (.str ⟨i.toArray⟩ t) { s with toks := tk } := h _ g _ (After.toks w) ⟨_, rfl⟩
theorem Post.bool {A : Around} {g : GP} {s : Shared} {Q E : Value → Shared → Prop} {i : Bool} (w : Wd C g s.heap) (h : Post C A g s Q E (.ok (.bool i))) : Q (.bool i) s := h _ g _ (After.refl w) rfl
noncomputable def subK := int2 fun a b => .ok (.int (a - b))
theorem op_sub : Op2 C n (binaryOp .Sub) subK := op_int2 fun A g s Q E a b ta tb ok h => PyProof.Rows.sub_int' (h.int ok.wd)
noncomputable def modK := int2 fun a b => if b = 0 then .stuck else .ok (.int (a.fmod b))
theorem op_mod : Op2 C n (binaryOp .Mod) modK := op_int2 fun A g s Q E a b ta tb ok h => by
  by_cases hb : b = 0
  · rw [if_pos hb] at h; exact h.elim
  · rw [if_neg hb] at h; exact PyProof.Rows.mod_int' hb (h.int ok.wd)
noncomputable def divK := int2 fun a b => if b = 0 ∨ 1073741824 ≤ b.natAbs then .stuck else .ok (.int (a.fdiv b))
theorem op_div : Op2 C n (binaryOp .FloorDiv) divK := op_int2 fun A g s Q E a b ta tb ok h => by
  by_cases hb : b = 0 ∨ 1073741824 ≤ b.natAbs
  · rw [if_pos hb] at h; exact h.elim
  · rw [if_neg hb] at h; exact PyProof.Rows.floordiv_int (fun e => hb (.inl e)) (h.int ok.wd) (.inl (PyProof.noPylong_small (by omega)))
noncomputable def powK := int2 fun a b => if 0 ≤ b ∧ b ≤ 1000 ∧ a.natAbs < 1000 then .ok (.int (a ^ b.toNat)) else .stuck
theorem op_pow : Op2 C n (binaryOp .Pow) powK := op_int2 fun A g s Q E a b ta tb ok h => by
  by_cases hb : 0 ≤ b ∧ b ≤ 1000 ∧ a.natAbs < 1000
  · rw [if_pos hb] at h; exact PyProof.Rows.pow_int_small hb.1 (by omega) (by have := hb.2.2; omega) (h.int ok.wd)
  · rw [if_neg hb] at h; exact h.elim
noncomputable def andK := int2 fun a b => .ok (.int (Builtin.bitAnd a b))
theorem op_bitand : Op2 C n (binaryOp .BitAnd) andK := op_int2 fun A g s Q E a b ta tb ok h => PyProof.Rows.and_int (h.int ok.wd)
noncomputable def ltK := int2 fun a b => .ok (.bool (decide (a < b)))
noncomputable def leK := int2 fun a b => .ok (.bool (decide (a ≤ b)))
noncomputable def gtK := int2 fun a b => .ok (.bool (decide (b < a)))
theorem op_lt : Op2 C n (compareOp .Lt) ltK := op_int2 fun A g s Q E a b ta tb ok h => PyProof.Rows.lt_int (h.bool ok.wd)
theorem op_le : Op2 C n (compareOp .LtE) leK := op_int2 fun A g s Q E a b ta tb ok h => PyProof.Rows.le_int (h.bool ok.wd)
theorem op_gt : Op2 C n (compareOp .Gt) gtK := op_int2 fun A g s Q E a b ta tb ok h => PyProof.Rows.gt_int (h.bool ok.wd)

/-! ### adding -/
noncomputable def addK : PV → PV → R
  | .int a, .int b => .ok (.int (a + b))
  | .str a, .str b => if a.length + b.length ≤ 100000 then .ok (.str (a ++ b)) else .stuck
  | .lst a, .lst b => if a.len + b.len ≤ 100000 then .ok (.lst (a.app b)) else .stuck
  | _, _ => .stuck
theorem toArray_app (a b : List Nat) : (⟨a.toArray⟩ : Str) ++ (⟨b.toArray⟩ : Str) = ⟨(a ++ b).toArray⟩ := by
  show (⟨a.toArray ++ b.toArray⟩ : Str) = _
  rw [List.append_toArray]
theorem op_add : Op2 C n (binaryOp .Add) addK := fun A g s Q E a b va vb ok ra rb h => by
  cases a <;> first | exact h.elim | skip
  · cases b <;> first | exact h.elim | skip
    obtain ⟨ta, rfl⟩ := ra
    obtain ⟨tb, rfl⟩ := rb
    exact PyProof.Rows.add_int (Post.int ok.wd h)
  · cases b <;> first | exact h.elim | skip
    obtain ⟨ta, rfl⟩ := ra
    obtain ⟨tb, rfl⟩ := rb
    rename_i x y
    by_cases hb : x.length + y.length ≤ 100000
    · simp only [addK] at h
      rw [if_pos hb] at h
      refine PyProof.Rows.add_str (fun t' tk => ?_) ?_
      · rw [toArray_app]; exact Post.str ok.wd h
      · show x.toArray.size + y.toArray.size ≤ sizeLine
        rw [sizeLine_eq, List.size_toArray, List.size_toArray]; omega
    · simp only [addK] at h
      rw [if_neg hb] at h; exact h.elim
  · cases b <;> first | exact h.elim | skip
    obtain ⟨x, vs, m, rfl, e, r⟩ := ra
    obtain ⟨y, ws, k, rfl, e', r'⟩ := rb
    rename_i p q
    by_cases hb : p.len + q.len ≤ 100000
    · simp only [addK] at h
      rw [if_pos hb] at h
      refine PySem.P.add_list (ok.wd.sub _ _ e) (ok.wd.sub _ _ e') ?_ ?_
      · exact h _ _ _ (After.lay (tk := s.toks) ok.wd rfl) ⟨_, _, _, rfl, GP.add_self .., by
          rw [Array.toList_append]
          exact (RepL.app (RepL.mono (GP.le_add (ok.wd.none_new (heap_new _))) r) (RepL.mono (GP.le_add (ok.wd.none_new (heap_new _))) r'))⟩
      · have h1 := (RepL.row r).2; have h2 := (RepL.row r').2
        rw [Array.length_toList] at h1 h2
        rw [sizeLine_eq]; omega
    · simp only [addK] at h
      rw [if_neg hb] at h; exact h.elim

/-! ### is None -/
noncomputable def isNoneK (a b : PV) : R := match a, b with
  | .none, .none => .ok (.bool true)
  | .reg .., .none => .ok (.bool false)
  | _, _ => .stuck
noncomputable def isNotNoneK (a b : PV) : R := match a, b with
  | .none, .none => .ok (.bool false)
  | .reg .., .none => .ok (.bool true)
  | _, _ => .stuck
theorem op_is : Op2 C n (compareOp .Is) isNoneK := fun A g s Q E a b va vb ok ra rb h => by
  cases b <;> first | (cases a <;> exact h.elim) | skip
  obtain rfl : vb = .none := rb
  cases a <;> first | exact h.elim | skip
  · obtain rfl : va = .none := ra
    exact PyProof.Rows.is_none_gen (h.bool ok.wd)
  · obtain ⟨x, rfl, _⟩ := ra
    exact PyProof.Rows.is_none_gen (h.bool ok.wd)
theorem op_isnot : Op2 C n (compareOp .IsNot) isNotNoneK := fun A g s Q E a b va vb ok ra rb h => by
  cases b <;> first | (cases a <;> exact h.elim) | skip
  obtain rfl : vb = .none := rb
  cases a <;> first | exact h.elim | skip
  · obtain rfl : va = .none := ra
    exact PyProof.Rows.isnot_none_gen (h.bool ok.wd)
  · obtain ⟨x, rfl, _⟩ := ra
    exact PyProof.Rows.isnot_none_gen (h.bool ok.wd)

/-! ### a chain of two comparisons, tested -/
theorem ts_Chain {op op' : CmpOp} {l m r : Expr} {pos : Pos} {f fm fr : ED} {k k' : PV → PV → R} (ho : Op2 C n (compareOp op) k) (ho' : Op2 C n (compareOp op') k')
    (hl : ESound C n sc names l f) (hM : ESound C n sc names m fm) (hr : ESound C n sc names r fr) (hm : lastMarks [op, op'] [m, r] = false := by with_unfolding_all rfl) :
    TSound C n sc names (.Compare l [op, op'] [m, r] pos) (fun ρ => (f ρ).bind fun a => (fm ρ).bind fun b => (k a b).test fun c => if c then (fr ρ).bind fun d => (k' b d).test fun e => .ok (.bool e) else .ok (.bool false)) := fun A env gg ρ s K E ok h => by
  refine isTrue_chain (hm := hm) (hl A env gg ρ s _ E ok (TPost.bind h fun a va g1 s1 _ y1 hva h1 => ?_))
  refine test_link (hM A env g1 ρ s1 _ E (ok.after y1) (TPost.bind h1 fun b vb g2 s2 _ y2 hvb h2 => ?_))
  have ok2 := (ok.after y1).after y2
  refine ho A g2 s2 _ E a b va vb ok2.toOkC (hva.mono y2.mono) hvb ?_
  generalize hk : k a b = r1 at h2 ⊢
  cases r1 with
  | stuck => exact h2.elim
  | exc => exact h2
  | ok p =>
    cases p with
    | bool c =>
      intro v g3 s3 y3 hv
      obtain rfl : v = .bool c := hv
      refine wpAny_truthy_bool ?_
      have h3 := TPost.mono_state y3 h2
      cases c with
      | false => exact h3 g3 s3 (After.refl (ok2.after y3).wd)
      | true =>
        refine test_last (hr A env g3 ρ s3 _ E (ok2.after y3) (TPost.bind h3 fun d vd g4 s4 _ y4 hvd h4 => ?_))
        have ok4 := (ok2.after y3).after y4
        refine ho' A g4 s4 _ E b d vb vd ok4.toOkC ((hvb.mono y3.mono).mono y4.mono) hvd ?_
        generalize hk' : k' b d = r2 at h4 ⊢
        cases r2 with
        | stuck => exact h4.elim
        | exc => exact h4
        | ok p =>
          cases p with
          | bool e =>
            intro v g5 s5 y5 hv
            obtain rfl : v = .bool e := hv
            exact wpAny_truthy_bool (h4 g5 s5 y5)
          | _ => exact h4.elim
    | _ => exact h2.elim
end Mine
end

/-! ## F6 -/
section
open PySem PySem.W PyProof.Rows PySem.Calls PySem.SeqAt
set_option maxRecDepth 100000
set_option maxHeartbeats 4000000
set_option linter.unusedVariables false
namespace Mine
variable {C : Cx} {n : Nat} {sc : Scope} {names : List Str}

/-! ### items -/
noncomputable def itemK : PV → PV → R
  | .tup a, .int i => if 0 ≤ i ∧ i < 1000000 then (match a.nth i.toNat with | some x => .ok x | Option.none => .stuck) else .stuck
  | .lst a, .int i => if 0 ≤ i ∧ i < 1000000 then (match a.nth i.toNat with | some x => .ok x | Option.none => .stuck) else .stuck
  | .str s, .int i => if 0 ≤ i ∧ i < 1000000 then (match s[i.toNat]? with | some x => .ok (.str [x]) | Option.none => .stuck) else .stuck
  | _, _ => .stuck
theorem RepL.nth_arr {g : GP} {p : PV} {vs : Array Value} {i : Nat} {x : PV} (r : RepL g p vs.toList) (e : p.nth i = some x) : ∃ v, vs[i]? = some v ∧ Rep g x v := by
  obtain ⟨v, h1, h2⟩ := RepL.nth r e
  exact ⟨v, by simpa using h1, h2⟩
theorem seqIndex_nn {i : Int} {k : Nat} (h0 : 0 ≤ i) (h : i.toNat < k) : seqIndex? i k = some i.toNat := StrLaws.seqIndex_nonneg h0 (by omega)
theorem op_item {value slice : Expr} (hs : ∀ o i, subscripted slice false o i = operate [o, i] (getItem o i)) : Op2 C n (subscriptTail value slice) itemK := fun A g s Q E a b va vb ok ra rb h => by
  cases b <;> first | (cases a <;> exact h.elim) | skip
  obtain ⟨tb, rfl⟩ := rb
  rename_i i
  cases a <;> first | exact h.elim | skip
  · obtain ⟨ta, rfl⟩ := ra
    rename_i x
    simp only [itemK] at h
    by_cases hb : 0 ≤ i ∧ i < 1000000
    · rw [if_pos hb] at h
      cases e : x[i.toNat]? with
      | none => rw [e] at h; exact h.elim
      | some c =>
        rw [e] at h
        refine tail_any (typeIs_str _ _ _) F.slot_str_getitem.lookup (PyProof.Rows.getItem_str (c := c) ?_ ?_ (Post.str ok.wd h)) (hs _ _)
        · simp only [Bool.or_eq_false_iff, decide_eq_false_iff_not]; omega
        · refine StrLaws.at_nonneg hb.1 ?_
          simpa using e
    · rw [if_neg hb] at h; exact h.elim
  · obtain ⟨x, vs, m, rfl, eg, r⟩ := ra
    rename_i p
    simp only [itemK] at h
    by_cases hb : 0 ≤ i ∧ i < 1000000
    · rw [if_pos hb] at h
      cases e : p.nth i.toNat with
      | none => rw [e] at h; exact h.elim
      | some y =>
        rw [e] at h
        obtain ⟨v, h1, h2⟩ := RepL.nth_arr r e
        have ho := ok.wd.sub _ _ eg
        refine tail_any (T := "tuple") ⟨_, ho, rfl⟩ slot_tuple_getitem.lookup (PySem.P.getItem_tuple (k := i.toNat) ho (by omega) (by omega) ?_ h1 (h _ g s (After.refl ok.wd) h2)) (hs _ _)
        exact seqIndex_nn hb.1 (Array.getElem?_eq_some_iff.mp h1).1
    · rw [if_neg hb] at h; exact h.elim
  · obtain ⟨x, vs, m, rfl, eg, r⟩ := ra
    rename_i p
    simp only [itemK] at h
    by_cases hb : 0 ≤ i ∧ i < 1000000
    · rw [if_pos hb] at h
      cases e : p.nth i.toNat with
      | none => rw [e] at h; exact h.elim
      | some y =>
        rw [e] at h
        obtain ⟨v, h1, h2⟩ := RepL.nth_arr r e
        have ho := ok.wd.sub _ _ eg
        have hl : s.heap.IsList x vs := ⟨_, ho, rfl, m, rfl⟩
        exact tail_any hl.typeIs slot_list_getitem.lookup (wpAny_getItem_list hl hb.1 (by omega) h1 (h _ g s (After.refl ok.wd) h2)) (hs _ _)
    · rw [if_neg hb] at h; exact h.elim
theorem es_Item {value slice : Expr} {pos : Pos} {f k : ED} (hl : ESound C n sc names value f) (hr : ESound C n sc names slice k)
    (hs : ∀ o i, subscripted slice false o i = operate [o, i] (getItem o i) := by intro _ _; with_unfolding_all rfl) : ESound C n sc names (.Subscript value slice pos) (bin f k itemK) := fun A env gg ρ s Q E ok h => by
  refine Subscript_ (hl A env gg ρ s _ E ok (Post.bind h fun p v g' s' hp y hv hk => ?_))
  refine hr A env g' ρ s' _ E (ok.after y) (Post.bind hk fun p2 v2 g2 s2 hp2 y2 hv2 hk2 => ?_)
  exact op_item hs A g2 s2 Q E p p2 v v2 ((ok.after y).after y2).toOkC (hv.mono y2.mono) hv2 hk2

theorem fm_congr {α β : Type} {f g : α → Option β} : ∀ {l : List α}, (∀ a ∈ l, f a = g a) → l.filterMap f = l.filterMap g
  | [], _ => rfl
  | a :: l, h => by
    rw [List.filterMap_cons, List.filterMap_cons, h a List.mem_cons_self, fm_congr fun b hb => h b (List.mem_cons_of_mem _ hb)]
/-! ### slices of a text -/
open Builtin Builtin.Str in
theorem slice_nat (x : List Nat) (i j : Nat) : Txt.slice ⟨x.toArray⟩ (some (i : Int)) (some (j : Int)) = ⟨((x.take j).drop i).toArray⟩ := by
  have hn : (⟨x.toArray⟩ : Str).length = x.length := by show x.toArray.size = _; rw [List.size_toArray]
  have key : strSliceIndices (some (i : Int)) (some (j : Int)) 1 x.length = (List.range (min j x.length - min i x.length)).map (fun k => min i x.length + k) := by
    by_cases hab : min i x.length ≤ min j x.length
    · rw [← StrLaws.strSliceIndices_plain hab (Nat.min_le_right _ _)]
      have h1 : ¬ ((i : Int) < 0) := by omega
      have h2 : ¬ ((j : Int) < 0) := by omega
      have h3 : ¬ (((min i x.length : Nat) : Int) < 0) := by omega
      have h4 : ¬ (((min j x.length : Nat) : Int) < 0) := by omega
      have e1 : max (0 : Int) (min (i : Int) (x.length : Int)) = ((min i x.length : Nat) : Int) := by omega
      have e2 : max (0 : Int) (min (j : Int) (x.length : Int)) = ((min j x.length : Nat) : Int) := by omega
      have e3 : max (0 : Int) (min ((min i x.length : Nat) : Int) (x.length : Int)) = ((min i x.length : Nat) : Int) := by omega
      have e4 : max (0 : Int) (min ((min j x.length : Nat) : Int) (x.length : Int)) = ((min j x.length : Nat) : Int) := by omega
      simp only [strSliceIndices, h1, h2, h3, h4, if_false, e1, e2, e3, e4, show ((1 : Int) > 0) = True from by simp, if_true]
    · have h1 : ¬ ((i : Int) < 0) := by omega
      have h2 : ¬ ((j : Int) < 0) := by omega
      have e1 : max (0 : Int) (min (i : Int) (x.length : Int)) = ((min i x.length : Nat) : Int) := by omega
      have e2 : max (0 : Int) (min (j : Int) (x.length : Int)) = ((min j x.length : Nat) : Int) := by omega
      have e5 : min j x.length - min i x.length = 0 := by omega
      have e6 : ¬ (((min i x.length : Nat) : Int) < ((min j x.length : Nat) : Int)) := by omega
      simp only [strSliceIndices, h1, h2, if_false, e1, e2, show ((1 : Int) > 0) = True from by simp, if_true, sliceRange, e6, e5]
      rfl
  have hpick : (strSliceIndices (some (i : Int)) (some (j : Int)) 1 x.length).filterMap (x[·]?) = (x.take j).drop i := by
    rw [key]
    apply List.ext_getElem?
    intro k
    have e : (List.map (fun k => min i x.length + k) (List.range (min j x.length - min i x.length))).filterMap (x[·]?) = ((List.range (min j x.length - min i x.length)).map fun k => x[min i x.length + k]?.getD 0) := by
      rw [List.filterMap_map]
      rw [← List.filterMap_eq_map]
      refine fm_congr fun k hk => ?_
      have hk' := List.mem_range.mp hk
      have hlt : min i x.length + k < x.length := by omega
      simp [hlt]
    rw [e, List.getElem?_map, List.getElem?_drop, List.getElem?_take]
    by_cases hk : k < min j x.length - min i x.length
    · rw [List.getElem?_range hk]
      have hi : i ≤ x.length := by omega
      have : min i x.length = i := by omega
      rw [this]
      have h1 : i + k < j := by omega
      have h2 : i + k < x.length := by omega
      rw [if_pos h1]
      simp [h2]
    · have : (List.range (min j x.length - min i x.length))[k]? = none := by rw [List.getElem?_eq_none]; rw [List.length_range]; omega
      rw [this]
      by_cases h1 : i + k < j
      · rw [if_pos h1]
        have : x.length ≤ i + k := by omega
        rw [List.getElem?_eq_none this]; rfl
      · rw [if_neg h1]; rfl
  unfold Txt.slice
  rw [hn]
  split
  · rename_i h
    have hlen : (strSliceIndices (some (i : Int)) (some (j : Int)) 1 x.length).length = x.length := by simpa using h
    rw [key, List.length_map, List.length_range] at hlen
    congr 2
    by_cases hx : x = []
    · subst hx; simp
    · have : 0 < x.length := List.length_pos_iff.mpr hx
      have hi : i = 0 := by omega
      have hj : x.length ≤ j := by omega
      subst hi
      rw [List.drop_zero, List.take_of_length_le hj]
  · congr 2
    rw [← hpick]
    refine fm_congr fun k _ => ?_
    simp
theorem slice_hi (x : List Nat) (i : Nat) : Txt.slice ⟨x.toArray⟩ (some (i : Int)) none = ⟨(x.drop i).toArray⟩ := by
  have hn : (⟨x.toArray⟩ : Str).length = x.length := by show x.toArray.size = _; rw [List.size_toArray]
  have e : Txt.slice ⟨x.toArray⟩ (some (i : Int)) none = Txt.slice ⟨x.toArray⟩ (some (i : Int)) (some (x.length : Int)) := by
    unfold Txt.slice
    rw [hn, StrLaws.sliceIdx_none_hi]
  rw [e, slice_nat, List.take_length]
theorem slice_lo (x : List Nat) (j : Nat) : Txt.slice ⟨x.toArray⟩ none (some (j : Int)) = ⟨(x.take j).toArray⟩ := by
  have e : Txt.slice ⟨x.toArray⟩ none (some (j : Int)) = Txt.slice ⟨x.toArray⟩ (some ((0 : Nat) : Int)) (some (j : Int)) := by
    unfold Txt.slice
    rw [StrLaws.sliceIdx_none_lo]; rfl
  rw [e, slice_nat, List.drop_zero]
theorem typeIs_slice_sub {lo hi : Option Expr} {p : Pos} (o i : Value) : subscripted (.Slice lo hi none p) false o i = operate [i, o] (getItem o i) := rfl

noncomputable def Keeps1 (h : Heap) : Heap → Prop := fun h' => ∀ a o, h.get? a = some o → h'.get? a = some o
theorem keepsH (h : Heap) : KeptH (Keeps1 h) := fun h' ob k a o e => Heap.get?_push_of_some _ (k a o e)
theorem ItemOn.tail {A : Around} {E : Value → Shared → Prop} {s : Shared} {value slice : Expr} {o i : Value} {ops : List Value} {Q : Value → Shared → Prop} (h : ItemOn C.M A E o i Q s)
    (hs : subscripted slice false o i = operate ops (getItem o i)) : wpAny C.M A (subscriptTail value slice o i) Q E s := by
  obtain ⟨T, id, hl, hT, hg⟩ := h
  exact tail_any hT hl hg hs

noncomputable def sliceK : PV → Option PV → Option PV → R
  | .str s, some (.int i), some (.int j) => if 0 ≤ i ∧ 0 ≤ j ∧ s.length ≤ 100000 then .ok (.str ((s.take j.toNat).drop i.toNat)) else .stuck
  | .str s, some (.int i), Option.none => if 0 ≤ i ∧ s.length ≤ 100000 then .ok (.str (s.drop i.toNat)) else .stuck
  | .str s, Option.none, some (.int j) => if 0 ≤ j ∧ s.length ≤ 100000 then .ok (.str (s.take j.toNat)) else .stuck
  | _, _, _ => .stuck
theorem len_le_line {s : List Nat} (h : s.length ≤ 100000) : (⟨s.toArray⟩ : Str).length ≤ sizeLine := by
  show s.toArray.size ≤ _; rw [List.size_toArray, sizeLine_eq]; omega
theorem es_SliceSS {value lo hi : Expr} {p pos : Pos} {f fl fh : ED} (hv : ESound C n sc names value f) (hl : ESound C n sc names lo fl) (hh : ESound C n sc names hi fh) :
    ESound C n sc names (.Subscript value (.Slice (some lo) (some hi) none p) pos) (fun ρ => (f ρ).bind fun a => (fl ρ).bind fun b => (fh ρ).bind fun c => sliceK a (some b) (some c)) := fun A env gg ρ s Q E ok h => by
  refine Subscript_ (hv A env gg ρ s _ E ok (Post.bind h fun a va g1 s1 _ y1 hva h1 => ?_))
  refine wpAny_Slice (evalPart_some_step (hl A env g1 ρ s1 _ E (ok.after y1) (Post.bind h1 fun b vb g2 s2 _ y2 hvb h2 => ?_)))
  refine evalPart_some_step (hh A env g2 ρ s2 _ E ((ok.after y1).after y2) (Post.bind h2 fun c vc g3 s3 _ y3 hvc h3 => evalPart_none_step ?_))
  have hw := (((ok.after y1).after y2).after y3).wd
  cases a <;> first | exact h3.elim | skip
  cases b <;> first | exact h3.elim | skip
  cases c <;> first | exact h3.elim | skip
  rename_i x i j
  obtain ⟨ta, rfl⟩ := (hva.mono y2.mono).mono y3.mono
  obtain ⟨tb, rfl⟩ := hvb.mono y3.mono
  obtain ⟨tc, rfl⟩ := hvc
  simp only [sliceK] at h3
  split at h3
  · rename_i hb
    refine ItemOn.tail (SBH.sliceItem_ss (P := Keeps1 s3.heap) (keepsH _) (fun _ _ e => e) (fun h' t' k kk => ?_) (len_le_line hb.2.2)) (typeIs_slice_sub _ _)
    obtain ⟨i', rfl⟩ := Int.eq_ofNat_of_zero_le hb.1
    obtain ⟨j', rfl⟩ := Int.eq_ofNat_of_zero_le hb.2.1
    rw [slice_nat]
    exact h3 _ g3 _ (After.grow hw kk) ⟨_, rfl⟩
  · exact h3.elim
theorem es_SliceS_ {value lo : Expr} {p pos : Pos} {f fl : ED} (hv : ESound C n sc names value f) (hl : ESound C n sc names lo fl) :
    ESound C n sc names (.Subscript value (.Slice (some lo) none none p) pos) (fun ρ => (f ρ).bind fun a => (fl ρ).bind fun b => sliceK a (some b) Option.none) := fun A env gg ρ s Q E ok h => by
  refine Subscript_ (hv A env gg ρ s _ E ok (Post.bind h fun a va g1 s1 _ y1 hva h1 => ?_))
  refine wpAny_Slice (evalPart_some_step (hl A env g1 ρ s1 _ E (ok.after y1) (Post.bind h1 fun b vb g2 s2 _ y2 hvb h3 => evalPart_none_step (evalPart_none_step ?_))))
  have hw := ((ok.after y1).after y2).wd
  cases a <;> first | exact h3.elim | skip
  cases b <;> first | exact h3.elim | skip
  rename_i x i
  obtain ⟨ta, rfl⟩ := hva.mono y2.mono
  obtain ⟨tb, rfl⟩ := hvb
  simp only [sliceK] at h3
  split at h3
  · rename_i hb
    refine ItemOn.tail (SBH.sliceItem_sn (P := Keeps1 s2.heap) (keepsH _) (fun _ _ e => e) (fun h' t' k kk => ?_) (len_le_line hb.2)) (typeIs_slice_sub _ _)
    obtain ⟨i', rfl⟩ := Int.eq_ofNat_of_zero_le hb.1
    rw [slice_hi]
    exact h3 _ g2 _ (After.grow hw kk) ⟨_, rfl⟩
  · exact h3.elim
theorem es_Slice_S {value hi : Expr} {p pos : Pos} {f fl : ED} (hv : ESound C n sc names value f) (hl : ESound C n sc names hi fl) :
    ESound C n sc names (.Subscript value (.Slice none (some hi) none p) pos) (fun ρ => (f ρ).bind fun a => (fl ρ).bind fun b => sliceK a Option.none (some b)) := fun A env gg ρ s Q E ok h => by
  refine Subscript_ (hv A env gg ρ s _ E ok (Post.bind h fun a va g1 s1 _ y1 hva h1 => ?_))
  refine wpAny_Slice (evalPart_none_step (evalPart_some_step (hl A env g1 ρ s1 _ E (ok.after y1) (Post.bind h1 fun b vb g2 s2 _ y2 hvb h3 => evalPart_none_step ?_))))
  have hw := ((ok.after y1).after y2).wd
  cases a <;> first | exact h3.elim | skip
  cases b <;> first | exact h3.elim | skip
  rename_i x i
  obtain ⟨ta, rfl⟩ := hva.mono y2.mono
  obtain ⟨tb, rfl⟩ := hvb
  simp only [sliceK] at h3
  split at h3
  · rename_i hb
    refine ItemOn.tail (SBH.sliceItem_ns (P := Keeps1 s2.heap) (keepsH _) (fun _ _ e => e) (fun h' t' k kk => ?_) (len_le_line hb.2)) (typeIs_slice_sub _ _)
    obtain ⟨i', rfl⟩ := Int.eq_ofNat_of_zero_le hb.1
    rw [slice_lo]
    exact h3 _ g2 _ (After.grow hw kk) ⟨_, rfl⟩
  · exact h3.elim
end Mine
end

/-! ## F7 -/
section
open PySem PySem.W PyProof.Rows PySem.Calls PySem.SeqAt
set_option maxRecDepth 100000
set_option maxHeartbeats 4000000
set_option linter.unusedVariables false
namespace Mine
variable {C : Cx} {n : Nat} {sc : Scope} {names : List Str}

theorem Wd.kin {C : Cx} {g : GP} {h : Heap} (w : Wd C g h) : (KF C.w).In h := fun a o e => w.sub _ _ (w.base _ _ (C.kin a o e))

/-! ### rows of expressions -/
noncomputable def rowD : List ED → ED
  | [], _ => .ok .nil
  | f :: r, ρ => (f ρ).bind fun a => (rowD r ρ).bind fun b => .ok (.cons a b)
noncomputable def PostL (C : Cx) (A : Around) (g : GP) (s : Shared) (Q : List Value → Shared → Prop) (E : Value → Shared → Prop) : R → Prop
  | .ok p => ∀ vs g' s', After C NoMu (fsOf A) g s g' s' → RepL g' p vs → Q vs s'
  | .exc => ∀ e g' s', After C NoMu (fsOf A) g s g' s' → Fly A g' s e s' → E (.ref e) s'
  | .stuck => False
theorem PostL.mono_state {A : Around} {g g₁ : GP} {s s₁ : Shared} {Q : List Value → Shared → Prop} {E : Value → Shared → Prop} {r : R} (x : After C NoMu (fsOf A) g s g₁ s₁) (h : PostL C A g s Q E r) : PostL C A g₁ s₁ Q E r := by
  cases r with
  | ok p => exact fun v g' s' y hv => h v g' s' (x.trans y) hv
  | exc => exact fun e g' s' y ⟨base, a0, l, h1, h2, h3⟩ => h e g' s' (x.trans y) ⟨base, a0, l, h1, h2, fun a o ho hn => let ⟨o', e'⟩ := x.ext.live a o ho; h3 a o' e' hn⟩
  | stuck => exact h.elim
theorem PostL.bind {A : Around} {g : GP} {s : Shared} {Q : List Value → Shared → Prop} {E : Value → Shared → Prop} {r : R} {k : PV → R} (h : PostL C A g s Q E (r.bind k)) {Q' : Value → Shared → Prop}
    (hQ : ∀ p v g' s', r = .ok p → After C NoMu (fsOf A) g s g' s' → Rep g' p v → PostL C A g' s' Q E (k p) → Q' v s') : Post C A g s Q' E r := by
  cases r with
  | ok p => exact fun v g' s' y hv => hQ p v g' s' rfl y hv (PostL.mono_state y h)
  | exc => exact h
  | stuck => exact h.elim
theorem PostL.bindL {A : Around} {g : GP} {s : Shared} {Q : List Value → Shared → Prop} {E : Value → Shared → Prop} {r : R} {k : PV → R} (h : PostL C A g s Q E (r.bind k)) {Q' : List Value → Shared → Prop}
    (hQ : ∀ p v g' s', r = .ok p → After C NoMu (fsOf A) g s g' s' → RepL g' p v → PostL C A g' s' Q E (k p) → Q' v s') : PostL C A g s Q' E r := by
  cases r with
  | ok p => exact fun v g' s' y hv => hQ p v g' s' rfl y hv (PostL.mono_state y h)
  | exc => exact h
  | stuck => exact h.elim
theorem Post.bindL {A : Around} {g : GP} {s : Shared} {Q E : Value → Shared → Prop} {r : R} {k : PV → R} (h : Post C A g s Q E (r.bind k)) {Q' : List Value → Shared → Prop}
    (hQ : ∀ p v g' s', r = .ok p → After C NoMu (fsOf A) g s g' s' → RepL g' p v → Post C A g' s' Q E (k p) → Q' v s') : PostL C A g s Q' E r := by
  cases r with
  | ok p => exact fun v g' s' y hv => hQ p v g' s' rfl y hv (Post.mono_state y h)
  | exc => exact h
  | stuck => exact h.elim
noncomputable def LSound (C : Cx) (n : Nat) (sc : Scope) (names : List Str) (es : List Expr) (fs : List ED) : Prop :=
  ∀ A env g ρ s Q E pos, Ok C n A sc names env g ρ s → PostL C A g s Q E (rowD fs ρ) → wpAny C.M A (spliced (backTo pos (starEach es env))) Q E s
theorem ls_nil : LSound C n sc names [] [] := fun A env g ρ s Q E pos ok h => wpAny_items_nil (h [] g s (After.refl ok.wd) rfl)
theorem ls_cons {e : Expr} {es : List Expr} {f : ED} {fs : List ED} (h1 : ESound C n sc names e f) (h2 : LSound C n sc names es fs)
    (he : ∀ env, starEach (e :: es) env = (false, eval e env) :: starEach es env := by intro _; rfl) : LSound C n sc names (e :: es) (f :: fs) := fun A env g ρ s Q E pos ok h => by
  refine wpAny_items_cons (he := he env) (h1 A env g ρ s _ E ok (PostL.bind h fun p v g1 s1 _ y1 hv hk => ?_))
  refine h2 A env g1 ρ s1 _ E pos (ok.after y1) (PostL.bindL hk fun q vs g2 s2 _ y2 hvs hk2 => ?_)
  exact hk2 _ g2 s2 (After.refl ((ok.after y1).after y2).wd) ⟨v, vs, rfl, hv.mono y2.mono, hvs⟩
theorem rowD_len : ∀ {fs : List ED} {ρ : List PV} {p : PV}, rowD fs ρ = .ok p → p.len = fs.length
  | [], _, _, e => by cases e; rfl
  | f :: r, ρ, p, e => by
    rw [rowD] at e
    cases h1 : f ρ with
    | ok a =>
      rw [h1] at e
      cases h2 : rowD r ρ with
      | ok b =>
        simp only [R.bind, h2] at e
        cases e
        show b.len + 1 = _
        rw [rowD_len h2]; rfl
      | exc => simp only [R.bind, h2] at e; cases e
      | stuck => simp only [R.bind, h2] at e; cases e
    | exc => rw [h1] at e; cases e
    | stuck => rw [h1] at e; cases e
noncomputable def tupD (fs : List ED) : ED := fun ρ => (rowD fs ρ).bind fun r => .ok (.tup r)
noncomputable def lstD (fs : List ED) : ED := fun ρ => (rowD fs ρ).bind fun r => .ok (.lst r)
theorem es_Tuple {es : List Expr} {k : Nat} {pos : Pos} {fs : List ED} (h : LSound C n sc names es fs) (hl : fs.length ≤ 1000 := by decide) : ESound C n sc names (.Tuple es k pos) (tupD fs) := fun A env g ρ s Q E ok hp => by
  refine PySem.wpAny_Tuple (h A env g ρ s _ E pos ok (Post.bindL hp fun p vs g1 s1 hr y1 hvs hk => ⟨?_, ?_⟩))
  · rw [(RepL.row hvs).2, rowD_len hr, sizeLine_eq]; omega
  · exact hk _ _ _ (After.lay (tk := s1.toks) (ok.after y1).wd rfl) ⟨_, _, _, rfl, GP.add_self .., RepL.mono (GP.le_add ((ok.after y1).wd.none_new (heap_new _))) hvs⟩
theorem es_List {es : List Expr} {pos : Pos} {fs : List ED} (h : LSound C n sc names es fs) (hl : fs.length ≤ 1000 := by decide) : ESound C n sc names (.List es pos) (lstD fs) := fun A env g ρ s Q E ok hp => by
  refine PySem.wpAny_List (h A env g ρ s _ E pos ok (Post.bindL hp fun p vs g1 s1 hr y1 hvs hk => ⟨?_, ?_⟩))
  · rw [(RepL.row hvs).2, rowD_len hr, sizeLine_eq]; omega
  · exact hk _ _ _ (After.lay (tk := s1.toks) (ok.after y1).wd rfl) ⟨_, _, _, rfl, GP.add_self .., RepL.mono (GP.le_add ((ok.after y1).wd.none_new (heap_new _))) hvs⟩

/-! ### what a register holds -/
theorem RegAt.inst {g : GP} {h : Heap} {nm k : List Nat} {num size : Int} {a : Addr} (r : RegAt g nm k num size a) (hg : ∀ x o, g x = some o → h.get? x = some o) :
    ∃ d es m, PySem.W.InstAt h a (instObj 106 d) 106 (some (dictOf es m)) ∧ (∃ v, getL "name" es = some (some v) ∧ strO nm v) ∧ (∃ v, getL "kind" es = some (some v) ∧ strO k v) ∧ (∃ v, getL "number" es = some (some v) ∧ intO num v) ∧ (∃ v, getL "size" es = some (some v) ∧ intO size v) ∧
      getL "code" es = some none ∧ getL "is_extended" es = some none ∧ getL "is_high" es = some none ∧ getL "needs_rex" es = some none ∧ getL "told" es = some none := by
  obtain ⟨d, es, m, v1, v2, v3, v4, h1, h2, h3, h4, h5, h6, h7, h8, h9, h10, h11, h12, h13, h14, h15⟩ := r
  exact ⟨d, es, m, ⟨hg _ _ h1, rfl, rfl, hg _ _ h2⟩, ⟨v1, h3, h12⟩, ⟨v2, h4, h13⟩, ⟨v3, h5, h14⟩, ⟨v4, h6, h15⟩, h7, h8, h9, h10, h11⟩
inductive Fld where
  | name | kind | number | size
noncomputable def Fld.str : Fld → Str
  | .name => "name"
  | .kind => "kind"
  | .number => "number"
  | .size => "size"
noncomputable def fldK (x : Fld) : PV → R
  | .reg nm k num size => match x with
    | .name => .ok (.str nm)
    | .kind => .ok (.str k)
    | .number => .ok (.int num)
    | .size => .ok (.int size)
  | _ => .stuck
theorem kf_get (w : World) : findIn (KF w) (.ref 106) "__getattribute__" = some (some (.builtin "object.__getattribute__")) := by kernel_rfl
theorem kf_getattr (w : World) : findIn (KF w) (.ref 106) "__getattr__" = some none := by kernel_rfl
theorem kf_hasdict (w : World) : hasDictIn (KF w) 106 = true := by kernel_rfl
theorem kf_name (w : World) : findIn (KF w) (.ref 106) "name" = some none := by kernel_rfl
theorem kf_kind (w : World) : findIn (KF w) (.ref 106) "kind" = some none := by kernel_rfl
theorem kf_number (w : World) : findIn (KF w) (.ref 106) "number" = some none := by kernel_rfl
theorem kf_size (w : World) : findIn (KF w) (.ref 106) "size" = some none := by kernel_rfl
theorem op_attr (x : Fld) : Op1 C n (fun v => getAttr v x.str true) (fldK x) := fun A g s Q E a va ok ra h => by
  cases a <;> first | exact h.elim | skip
  obtain ⟨ad, rfl, r⟩ := ra
  obtain ⟨d, es, m, I, ⟨v1, a1, b1⟩, ⟨v2, a2, b2⟩, ⟨v3, a3, b3⟩, ⟨v4, a4, b4⟩, _⟩ := r.inst ok.wd.sub
  have X := ok.wd.kin
  cases x with
  | name =>
    obtain ⟨t, rfl⟩ := b1
    exact get_value X I (kf_get _) (findObj_own (kf_hasdict _) (kf_name _) rfl (by rw [lookIn_dict]; exact a1)) rfl (h _ g _ (After.toks ok.wd) ⟨t, rfl⟩)
  | kind =>
    obtain ⟨t, rfl⟩ := b2
    exact get_value X I (kf_get _) (findObj_own (kf_hasdict _) (kf_kind _) rfl (by rw [lookIn_dict]; exact a2)) rfl (h _ g _ (After.toks ok.wd) ⟨t, rfl⟩)
  | number =>
    obtain ⟨t, rfl⟩ := b3
    exact get_value X I (kf_get _) (findObj_own (kf_hasdict _) (kf_number _) rfl (by rw [lookIn_dict]; exact a3)) rfl (h _ g _ (After.toks ok.wd) ⟨t, rfl⟩)
  | size =>
    obtain ⟨t, rfl⟩ := b4
    exact get_value X I (kf_get _) (findObj_own (kf_hasdict _) (kf_size _) rfl (by rw [lookIn_dict]; exact a4)) rfl (h _ g _ (After.toks ok.wd) ⟨t, rfl⟩)
theorem es_Attr {value : Expr} {attr : Str} {pos : Pos} {f : ED} (x : Fld) (hv : ESound C n sc names value f) (hx : attr = x.str := by rfl)
    (he : ∀ env, eval (.Attribute value attr pos) env = (do let o ← eval value env; standAt pos.atName; let r ← holding [o] (getAttr o attr true); letTemporaryGo value o r; pure r) := by intro _; with_unfolding_all rfl) :
    ESound C n sc names (.Attribute value attr pos) (un f (fldK x)) := fun A env g ρ s Q E ok h => by
  subst hx
  exact Attribute_any_ (he := he env) (hv A env g ρ s _ E ok (Post.bind h fun p v g1 s1 _ y1 hv hk => op_attr x A g1 s1 Q E p v (ok.after y1).toOkC hv hk))

/-! ### calls -/
/-- a call of this value with arguments in order -/
noncomputable def CSound (C : Cx) (n : Nat) (f : Value) (D : PV → R) : Prop :=
  ∀ A g s Q E p vs, OkC C n A g s → RepL g p vs → Post C A g s Q E (D p) → wpAny C.M A (call f vs) Q E s
noncomputable def callD (fs : List ED) (D : PV → R) : ED := fun ρ => (rowD fs ρ).bind D
theorem callWith_sound {pos : Pos} {f : Value} {first : List Value} {e : Expr} {es : List Expr} {A : Around} {env : Env} {s : Shared} {Q E : Value → Shared → Prop}
    (hk : ∀ h, (KF C.w).In h → ∃ k, (k = Keeper.frame ∨ k = Keeper.machine ∨ k = Keeper.boundFrame) ∧ Looks C.M h (keeperOf f) k)
    (he : starEach (e :: es) env = (false, eval e env) :: starEach es env) (hplain : (backTo pos (starEach es env)).any (·.1) = false)
    (h : wpAny C.M A (spliced (backTo pos (starEach (e :: es) env))) (fun vs s₁ => (KF C.w).In s₁.heap ∧ wpAny C.M A (call f (first ++ vs)) Q E s₁) E s) :
    wpAny C.M A (callWith pos f first (backTo pos (starEach (e :: es) env)) []) Q E s := by
  rw [he] at h ⊢
  exact callWith_of (P := fun h => (KF C.w).In h) (by show ((false || (backTo pos (starEach es env)).any (·.1)) || false) = false; rw [hplain]; rfl) hk (evalArgs_plain h)
theorem callWith_sound0 {pos : Pos} {f : Value} {first : List Value} {A : Around} {env : Env} {s : Shared} {Q E : Value → Shared → Prop}
    (hk : ∀ h, (KF C.w).In h → ∃ k, (k = Keeper.frame ∨ k = Keeper.machine ∨ k = Keeper.boundFrame) ∧ Looks C.M h (keeperOf f) k)
    (h : (KF C.w).In s.heap ∧ wpAny C.M A (call f (first ++ [])) Q E s) :
    wpAny C.M A (callWith pos f first (backTo pos (starEach [] env)) []) Q E s :=
  callWith_of (P := fun h => (KF C.w).In h) rfl hk (evalArgs_nil3 h)
/-- who keeps the arguments of a call, for each kind of callee -/
noncomputable def KOk (C : Cx) (f : Value) : Prop := ∀ h, (KF C.w).In h → ∃ k, (k = Keeper.frame ∨ k = Keeper.machine ∨ k = Keeper.boundFrame) ∧ Looks C.M h (keeperOf f) k
theorem kok_K {f : Value} (hk : keepIn (KF C.w) f = true) : KOk C f := fun h X => keeps_K hk h X
theorem kok_pure {f : Value} (hk : keeperOf f = pure Keeper.machine) : KOk C f := fun h X => ⟨.machine, .inr (.inl rfl), by rw [hk]; exact Looks.now⟩
/-- a name of the top that is called -/
noncomputable def GlobIs (C : Cx) (sc : Scope) (x : Str) (v : Value) : Prop :=
  ∀ (n : Nat) (names : List Str) (A : Around) (env : Env) (g : GP) (ρ : List PV) (s : Shared) (pos : Pos) (Q E : Value → Shared → Prop), Ok C n A sc names env g ρ s → Q v s → wpAny C.M A (eval (.Name x pos) env) Q E s
theorem glob_K {x : Str} {v : Value} (hv : nsIn (KF C.w) mainGlobals x = some (some v)) (hk : sc.names.lookup x = some .globalImplicit) (hd : (x == ("__debug__" : Str)) = false) : GlobIs C sc x v :=
  fun n names A env g ρ s pos Q E ok h => glob_load ok (C.mgv hv) hk h hd
theorem glob_B {x : Str} {v : Value} (hv : nsIn (KF C.w) mainGlobals x = some none) (hb : bootBuiltins x = some v) (hn : x ≠ "__name__") (hk : sc.names.lookup x = some .globalImplicit) (hd : (x == ("__debug__" : Str)) = false) : GlobIs C sc x v :=
  fun n names A env g ρ s pos Q E ok h => glob_builtin ok (C.mgn hv) hb hn hk h hd
theorem es_Call {x : Str} {np pos : Pos} {e : Expr} {es : List Expr} {fv : Value} {D : PV → R} {fs : List ED} (hg : GlobIs C sc x fv) (hk : KOk C fv) (hc : CSound C n fv D) (ha : LSound C n sc names (e :: es) fs)
    (he : ∀ env, starEach (e :: es) env = (false, eval e env) :: starEach es env := by intro _; rfl) (hplain : ∀ env, (backTo pos (starEach es env)).any (·.1) = false := by intro _; rfl) :
    ESound C n sc names (.Call (.Name x np) (e :: es) [] pos) (callD fs D) := fun A env g ρ s Q E ok h => by
  refine wpAny_Call_ofName (hg n names A env g ρ s np _ E ok ?_)
  refine callWith_sound hk (he env) (hplain env) (ha A env g ρ s _ E pos ok (Post.bindL h fun p vs g1 s1 _ y1 hvs hk => ⟨(ok.after y1).wd.kin, ?_⟩))
  exact hc A g1 s1 Q E p vs (ok.after y1).toOkC hvs hk
theorem es_Call0 {x : Str} {np pos : Pos} {fv : Value} {D : PV → R} (hg : GlobIs C sc x fv) (hk : KOk C fv) (hc : CSound C n fv D) :
    ESound C n sc names (.Call (.Name x np) [] [] pos) (callD [] D) := fun A env g ρ s Q E ok h => by
  refine wpAny_Call_ofName (hg n names A env g ρ s np _ E ok ?_)
  exact callWith_sound0 hk ⟨ok.wd.kin, hc A g s Q E .nil [] ok.toOkC rfl h⟩
end Mine
end

/-! ## F8 -/
section
open PySem PySem.W PyProof.Rows PySem.Calls PySem.SeqAt
set_option maxRecDepth 100000
set_option maxHeartbeats 4000000
set_option linter.unusedVariables false
namespace Mine
variable {C : Cx} {n : Nat} {sc : Scope} {names : List Str}

/-! ### built-in calls of one argument -/
noncomputable def one (k : PV → R) : PV → R
  | .cons a .nil => k a
  | _ => .stuck
theorem cs_one {f : Value} {k : PV → R} (h : Op1 C n (fun v => call f [v]) k) : CSound C n f (one k) := fun A g s Q E p vs ok r hp => by
  cases p <;> first | exact hp.elim | skip
  rename_i a b
  cases b <;> first | exact hp.elim | skip
  obtain ⟨v, ws, rfl, h1, h2⟩ := r
  obtain rfl : ws = [] := h2
  exact h A g s Q E a v ok h1 hp
noncomputable def lenK : PV → R
  | .str s => if s.length ≤ 100000 then .ok (.int s.length) else .stuck
  | .lst r => if r.len ≤ 100000 then .ok (.int r.len) else .stuck
  | _ => .stuck
theorem op_len : Op1 C n (fun v => call (.builtin "len") [v]) lenK := fun A g s Q E a va ok ra h => by
  cases a <;> first | exact h.elim | skip
  · obtain ⟨t, rfl⟩ := ra
    rename_i x
    simp only [lenK] at h
    by_cases hb : x.length ≤ 100000
    · rw [if_pos hb] at h
      have hl : (⟨x.toArray⟩ : Str).length = x.length := by show x.toArray.size = _; rw [List.size_toArray]
      refine PySem.P.len_str (by rw [hl]; omega) ?_
      rw [hl]
      exact Post.int ok.wd h
    · rw [if_neg hb] at h; exact h.elim
  · obtain ⟨x, vs, m, rfl, e, r⟩ := ra
    rename_i p
    simp only [lenK] at h
    by_cases hb : p.len ≤ 100000
    · rw [if_pos hb] at h
      have hl : vs.size = p.len := by rw [← (RepL.row r).2, Array.length_toList]
      refine PySem.Calls.call_len_list ⟨_, ok.wd.sub _ _ e, rfl, m, rfl⟩ (by rw [hl]; omega) ?_
      rw [hl]
      exact Post.int ok.wd h
    · rw [if_neg hb] at h; exact h.elim
noncomputable def numT : Nat → List Nat
  | 0 => [48] | 1 => [49] | 2 => [50] | 3 => [51] | 4 => [52] | 5 => [53] | 6 => [54] | 7 => [55] | 8 => [56] | 9 => [57]
  | 10 => [49, 48] | 11 => [49, 49] | 12 => [49, 50] | 13 => [49, 51] | 14 => [49, 52] | 15 => [49, 53] | _ => []
theorem numT_ok : ∀ i : Fin 16, Str.ofString (toString (i.val : Int)) = ⟨(numT i.val).toArray⟩ := by decide +kernel
noncomputable def strK : PV → R
  | .int i => if 0 ≤ i ∧ i < 16 then .ok (.str (numT i.toNat)) else .stuck
  | _ => .stuck
theorem op_str : Op1 C n (fun v => call (.type "str") [v]) strK := fun A g s Q E a va ok ra h => by
  cases a <;> first | exact h.elim | skip
  obtain ⟨t, rfl⟩ := ra
  rename_i i
  simp only [strK] at h
  by_cases hb : 0 ≤ i ∧ i < 16
  · rw [if_pos hb] at h
    obtain ⟨k, rfl⟩ := Int.eq_ofNat_of_zero_le hb.1
    have hk : k < 16 := by omega
    refine PySem.P.str_of_int ?_ ?_
    · have : (k : Int).natAbs = k := by omega
      rw [this]
      have : k.log2 ≤ k := Nat.log2_le_self k
      omega
    · have e : Str.ofString (toString (k : Int)) = ⟨(numT k).toArray⟩ := numT_ok ⟨k, hk⟩
      show Q (.str (Str.ofString (toString (k : Int))) s.toks) _
      rw [e]
      exact Post.str ok.wd h
  · rw [if_neg hb] at h; exact h.elim
noncomputable def numP : List Nat → Option Nat
  | [48] => some 0 | [49] => some 1 | [50] => some 2 | [51] => some 3 | [52] => some 4 | [53] => some 5 | [54] => some 6 | [55] => some 7 | [56] => some 8 | [57] => some 9
  | [49, 48] => some 10 | [49, 49] => some 11 | [49, 50] => some 12 | [49, 51] => some 13 | [49, 52] => some 14 | [49, 53] => some 15 | _ => Option.none
theorem numP_ok {s : List Nat} {k : Nat} (h : numP s = some k) : k < 16 ∧ s = numT k := by
  unfold numP at h
  split at h <;> first | (cases h; done) | (injection h with h; subst h; exact ⟨by decide, rfl⟩)
theorem intText_ok : ∀ i : Fin 16, PySem.intText? ⟨(numT i.val).toArray⟩ = some (i.val : Int) := by decide +kernel
noncomputable def intK : PV → R
  | .str s => match numP s with | some k => .ok (.int k) | Option.none => .stuck
  | _ => .stuck
theorem op_int : Op1 C n (fun v => call (.type "int") [v]) intK := fun A g s Q E a va ok ra h => by
  cases a <;> first | exact h.elim | skip
  obtain ⟨t, rfl⟩ := ra
  rename_i x
  simp only [intK] at h
  cases e : numP x with
  | none => rw [e] at h; exact h.elim
  | some k =>
    rw [e] at h
    obtain ⟨hk, rfl⟩ := numP_ok e
    refine PySem.W.KIN.call_text (intText_ok ⟨k, hk⟩) ?_ (Post.int ok.wd h)
    have : ∀ i : Fin 16, (numT i.val).length ≤ 2 := by decide
    have h2 := this ⟨k, hk⟩
    show (numT k).toArray.size ≤ 640
    rw [List.size_toArray]
    dsimp only at h2
    omega

/-! ### a written text's words -/
noncomputable def strsR (l : List (List Nat)) : PV := ofItems (l.map .str)
theorem repL_strs {g : GP} : ∀ {l : List (Str × Tok)} {ws : List (List Nat)}, l.map (·.1) = ws.map (fun w => (⟨w.toArray⟩ : Str)) → RepL g (strsR ws) (strValues l)
  | [], [], _ => rfl
  | (x, t) :: l, w :: ws, e => by
    have e1 : x = (⟨w.toArray⟩ : Str) ∧ l.map (·.1) = ws.map (fun w => (⟨w.toArray⟩ : Str)) := by simpa using e
    exact ⟨.str x t, strValues l, rfl, ⟨t, by rw [e1.1]⟩, repL_strs e1.2⟩
  | [], _ :: _, e => by cases e
  | _ :: _, [], e => by cases e
theorem call_split {A : Around} {s : Shared} {E : Value → Shared → Prop} {x : Str} {t : Tok} {Q : Value → Shared → Prop}
    (h : ∀ l k, l.map (·.1) = Txt.words x → Q (.ref s.heap.objs.size) { s with heap := s.heap.push { cls := .type "list", data := .seq (strValues l).toArray }, toks := k })
    (hsz : x.length + 2 ≤ sizeLine) : wpAny C.M A (call (.builtin "str.split") [.str x t]) Q E s := by
  have hn : (Builtin.Str.spaceWords x (x.length + 1)).length ≤ sizeLine := by
    have e1 := (StrLaws.sw_weight x).1
    have e2 := StrLaws.len_le_wsum (Builtin.Str.spaceWords x (x.length + 1))
    omega
  refine call_meets F.slot_str_split (typeIs_str _ _ _) F.entry_str_split (F.args_str_split_1 _) (meets_str_split_space x t (by omega) hn) ?_
  cases hw : Builtin.Str.spaceWords x (x.length + 1) == [(0, x.length)]
  · simp only [Bool.false_eq_true, if_false]
    rw [strsFrom_eq]
    exact h (numbered s.toks (PySem.wordsOf x)) _ ((numbered_texts _ _).trans (if_neg (ne_true_of_eq_false hw)).symm)
  · simp only [if_true]
    exact h [(x, t)] s.toks (if_pos hw).symm
theorem es_Split {x : Str} {np ap pos : Pos} {S : Str} {t : Tok} {ws : List (List Nat)} (hg : GlobIs C sc x (.str S t)) (hw : Txt.words S = ws.map (fun w => (⟨w.toArray⟩ : Str))) (hsz : S.length + 2 ≤ 1000)
    (he : ∀ env, eval (.Call (.Attribute (.Name x np) "split" ap) [] [] pos) env = (do let ov ← eval (.Name x np) env; standAt ap.atName; let (f, first) ← holding [ov] (getMethod ov "split" (do return (← importBound (.Name x np) env).getD true)); callWith pos f first (backTo pos (starEach [] env)) (backToKw pos (keywordEach [] env))) := by intro _; rfl) :
    ESound C n sc names (.Call (.Attribute (.Name x np) "split" ap) [] [] pos) (fun _ => .ok (.lst (strsR ws))) := fun A env g ρ s Q E ok h => by
  refine methodCall_KW (he := he env) (hg n names A env g ρ s np _ E ok (PySem.GM.split ?_))
  refine Calls.callWith_builtin rfl (evalArgs_nil3 ?_)
  refine call_split (fun l k e => ?_) (by rw [sizeLine_eq]; omega)
  exact h _ _ _ (After.lay (tk := k) ok.wd rfl) ⟨_, _, _, rfl, GP.add_self .., repL_strs (e.trans hw)⟩

/-! ### where a text stands in a row of texts -/
noncomputable def allStr : PV → Bool
  | .nil => true
  | .cons (.str _) r => allStr r
  | _ => false
noncomputable def idxR (x : List Nat) : PV → Nat → Option Nat
  | .cons (.str y) r, i => if y == x then some i else idxR x r (i + 1)
  | _, _ => Option.none
noncomputable def indexK : PV → PV → R
  | .lst r, .str x => if allStr r && decide (r.len ≤ 100000) then (match idxR x r 0 with | some i => .ok (.int i) | Option.none => .stuck) else .stuck
  | _, _ => .stuck
noncomputable def isStr (x : Str) : Value → Bool
  | .str y _ => y.cps.toList == x.cps.toList
  | _ => false
theorem allStr_rep {g : GP} {x : Str} {t : Tok} : ∀ {r : PV} {vs : List Value}, allStr r = true → RepL g r vs → ∀ v ∈ vs, MeetsSeq.EqGives v (.str x t) (isStr x v)
  | .nil, vs, _, h, v, hv => by obtain rfl : vs = [] := h; cases hv
  | .cons (.str y) r, vs, hs, h, v, hv => by
    obtain ⟨u, ws, rfl, ⟨tu, rfl⟩, h2⟩ := h
    rcases List.mem_cons.mp hv with rfl | hv
    · exact SeqRoads2.EqGives.str _ _ _ _
    · exact allStr_rep (r := r) hs h2 v hv
  | .cons .none _, _, h, _, _, _ | .cons (.bool _) _, _, h, _, _, _ | .cons (.int _) _, _, h, _, _, _ | .cons .nil _, _, h, _, _, _ | .cons (.cons ..) _, _, h, _, _, _ | .cons (.tup _) _, _, h, _, _, _ | .cons (.lst _) _, _, h, _, _, _ | .cons (.reg ..) _, _, h, _, _, _ | .cons (.own _) _, _, h, _, _, _ | .cons (.ext _) _, _, h, _, _, _ => by cases h
  | .none, _, h, _, _, _ | .bool _, _, h, _, _, _ | .int _, _, h, _, _, _ | .str _, _, h, _, _, _ | .tup _, _, h, _, _, _ | .lst _, _, h, _, _, _ | .reg .., _, h, _, _, _ | .own _, _, h, _, _, _ | .ext _, _, h, _, _, _ => by cases h
theorem idxR_rep {g : GP} {x : List Nat} : ∀ {r : PV} {vs : List Value} {i j : Nat}, RepL g r vs → idxR x r i = some j → ∃ k, j = i + k ∧ ∃ hk : k < vs.length, isStr ⟨x.toArray⟩ vs[k] = true ∧ ∀ m (hm : m < vs.length), m < k → isStr ⟨x.toArray⟩ vs[m] = false
  | .cons (.str y) r, vs, i, j, h, e => by
    obtain ⟨u, ws, rfl, ⟨tu, rfl⟩, h2⟩ := h
    rw [idxR] at e
    by_cases hy : (y == x) = true
    · rw [if_pos hy] at e
      cases e
      exact ⟨0, rfl, Nat.succ_pos _, by simpa [isStr] using hy, fun m hm hlt => absurd hlt (Nat.not_lt_zero _)⟩
    · rw [if_neg hy] at e
      obtain ⟨k, rfl, hk, h3, h4⟩ := idxR_rep h2 e
      refine ⟨k + 1, by omega, Nat.succ_lt_succ hk, h3, fun m hm hlt => ?_⟩
      cases m with
      | zero => simpa [isStr] using hy
      | succ m => exact h4 m (Nat.lt_of_succ_lt_succ hm) (Nat.lt_of_succ_lt_succ hlt)
  | .cons .none _, _, _, _, _, e | .cons (.bool _) _, _, _, _, _, e | .cons (.int _) _, _, _, _, _, e | .cons .nil _, _, _, _, _, e | .cons (.cons ..) _, _, _, _, _, e | .cons (.tup _) _, _, _, _, _, e | .cons (.lst _) _, _, _, _, _, e | .cons (.reg ..) _, _, _, _, _, e | .cons (.own _) _, _, _, _, _, e | .cons (.ext _) _, _, _, _, _, e => by cases e
  | .nil, _, _, _, _, e | .none, _, _, _, _, e | .bool _, _, _, _, _, e | .int _, _, _, _, _, e | .str _, _, _, _, _, e | .tup _, _, _, _, _, e | .lst _, _, _, _, _, e | .reg .., _, _, _, _, e | .own _, _, _, _, _, e | .ext _, _, _, _, _, e => by cases e
theorem es_Index {o arg : Expr} {ap pos : Pos} {f k : ED} (ho : ESound C n sc names o f) (hx : ESound C n sc names arg k)
    (hb : ∀ env, backTo pos (starEach [arg] env) = [(false, eval arg env)] := by intro _; rfl)
    (he : ∀ env, eval (.Call (.Attribute o "index" ap) [arg] [] pos) env = (do let ov ← eval o env; standAt ap.atName; let (f, first) ← holding [ov] (getMethod ov "index" (do return (← importBound o env).getD true)); callWith pos f first (backTo pos (starEach [arg] env)) (backToKw pos (keywordEach [] env))) := by intro _; rfl) :
    ESound C n sc names (.Call (.Attribute o "index" ap) [arg] [] pos) (fun ρ => (f ρ).bind fun a => match a with | .lst r => (k ρ).bind fun b => indexK (.lst r) b | _ => .stuck) := fun A env g ρ s Q E ok h => by
  refine methodCall_KW (he := he env) (ho A env g ρ s _ E ok (Post.bind h fun p v g1 s1 hq1 y1 hv h1 => ?_))
  cases p <;> first | exact h1.elim | skip
  rename_i r
  obtain ⟨x, vs, m, rfl, eg, hr⟩ := hv
  have hl : s1.heap.IsList x vs := ⟨_, (ok.after y1).wd.sub _ _ eg, rfl, m, rfl⟩
  refine getMethod_list_of PySem.F.slot_list_index PySem.F.type_list_index hl ?_ ?_
  · exact ⟨_, (ok.after y1).wd.sub _ _ eg, rfl⟩
  · show wpAny C.M A (callWith pos (.builtin "list.index") [.ref x] (backTo pos (starEach [arg] env)) []) Q E s1
    rw [hb env]
    refine PySem.P.index_list (hx A env g1 ρ s1 _ E (ok.after y1) (Post.bind h1 fun b vb g2 s2 hq2 y2 hvb h2 => ?_))
    cases b <;> first | exact h2.elim | skip
    rename_i t
    obtain ⟨tb, rfl⟩ := hvb
    simp only [indexK] at h2
    split at h2
    · rename_i hs
      have hs' := Bool.and_eq_true_iff.mp hs
      cases e : idxR t r 0 with
      | none => rw [e] at h2; exact h2.elim
      | some i =>
        rw [e] at h2
        have hr2 := RepL.mono y2.mono hr
        obtain ⟨k, hk, hlt, h3, h4⟩ := idxR_rep hr2 e
        have hk' : i = k := by omega
        subst hk'
        have hsz : vs.size = r.len := by rw [← (RepL.row hr).2, Array.length_toList]
        have hle : r.len ≤ 100000 := of_decide_eq_true hs'.2
        rw [Array.length_toList] at hlt
        refine ⟨vs, m, isStr ⟨t.toArray⟩, i, hlt, ((ok.after y1).after y2).wd.sub _ _ (y2.mono _ _ eg), fun y hy => allStr_rep hs'.1 hr2 y (Array.mem_toList_iff.mpr hy), by omega, by simpa using h3, fun j hj hji => by have := h4 j (by simpa using hj) hji; rwa [Array.getElem_toList] at this, Post.int ((ok.after y1).after y2).wd h2⟩
    · exact h2.elim

/-! ### a method of a register -/
noncomputable def MSound (C : Cx) (n : Nat) (name : Str) (D : PV → R) : Prop :=
  ∃ f, CSound C n (.ref f) (one D) ∧ keepIn (KF C.w) (.ref f) = true ∧ findIn (KF C.w) (.ref 106) name = some (some (.ref f)) ∧ isFn (KF C.w) (.ref f) = true ∧
    ∀ {g : GP} {nm k : List Nat} {num size : Int} {a : Addr}, RegAt g nm k num size a → ∀ {d es m}, g a = some (instObj 106 d) → g d = some (dictOf es m) → getL name es = some none
theorem es_Meth {o : Expr} {name : Str} {ap pos : Pos} {f : ED} {D : PV → R} (hm : MSound C n name D) (ho : ESound C n sc names o f)
    (he : ∀ env, eval (.Call (.Attribute o name ap) [] [] pos) env = (do let ov ← eval o env; standAt ap.atName; let (f, first) ← holding [ov] (getMethod ov name (do return (← importBound o env).getD true)); callWith pos f first (backTo pos (starEach [] env)) (backToKw pos (keywordEach [] env))) := by intro _; rfl) :
    ESound C n sc names (.Call (.Attribute o name ap) [] [] pos) (fun ρ => (f ρ).bind fun a => match a with | .reg nm k num size => D (.reg nm k num size) | _ => .stuck) := fun A env g ρ s Q E ok h => by
  obtain ⟨fa, hc, hk, hf, hfn, hsh⟩ := hm
  refine methodCall_KW (he := he env) (ho A env g ρ s _ E ok (Post.bind h fun p v g1 s1 _ y1 hv h1 => ?_))
  cases p <;> first | exact h1.elim | skip
  obtain ⟨a, rfl, r⟩ := hv
  have ok1 := ok.after y1
  have r' := r
  obtain ⟨d, es, m, v1, v2, v3, v4, e1, e2, _⟩ := r'
  have I : PySem.W.InstAt s1.heap a (instObj 106 d) 106 (some (dictOf es m)) := ⟨ok1.wd.sub _ _ e1, rfl, rfl, ok1.wd.sub _ _ e2⟩
  have hsh' := hsh r e1 e2
  refine method_fn ok1.wd.kin I (kf_get _) (kf_getattr _) hf (beq_iff_eq.mp hfn) (by show (lookIn name (dictOf es m)).map _ = _; rw [lookIn_dict, hsh']; rfl) ?_
  refine callWith_sound0 (kok_K hk) ⟨ok1.wd.kin, hc A g1 s1 Q E (.cons (.reg _ _ _ _) .nil) _ ok1.toOkC ⟨_, _, rfl, ⟨a, rfl, r⟩, rfl⟩ h1⟩
end Mine
end

/-! ## F9 -/
section
open PySem PySem.W PyProof.Rows PySem.Calls PySem.SeqAt
set_option maxRecDepth 100000
set_option maxHeartbeats 4000000
set_option linter.unusedVariables false
namespace Mine
variable {C : Cx} {n : Nat} {sc : Scope} {names : List Str}

inductive FR where
  | next (ρ : List PV) | ret (p : PV) | exc | stuck
abbrev SD := List PV → FR

/-- an exception of ours, raised in the frame that is on top: made here or come from a call -/
noncomputable def Raised (A : Around) (g' : GP) (s : Shared) (e : Addr) (s' : Shared) : Prop :=
  ∃ base a0 l, A.frames = some l ∧ (base.StaysIn s'.heap ∧ TabInv g' base 265 tq1 ∧ TabInv g' base 241 tq2 ∧ ∀ a o, g' a = some o → base.get? a = some o) ∧ base.get? e = none ∧ s'.heap.FunFrames base l ∧
    ((∃ oe vs, s'.heap.get? e = some oe ∧ oe.cls = .ref 52 ∧ oe.data = .fields vs ∧ vs[1]? = some .none ∧ vs[0]? = some a0) ∨ s'.heap.TracedW base e (.ref 52) a0) ∧
    ∀ a o, s.heap.get? a = some o → a ∉ fsOf A → ∃ o', base.get? a = some o'
theorem Fly.raised {A : Around} {g' : GP} {s s' : Shared} {e : Addr} (x : Fly A g' s e s') : Raised A g' s e s' := by
  obtain ⟨base, a0, l, h1, ⟨⟨f1, f2, f3, f4⟩, ft⟩, h3⟩ := x
  exact ⟨base, a0, l, h1, ⟨f1, ft⟩, f2, f3, .inr f4, h3⟩
theorem Raised.of_live {A : Around} {g' : GP} {s s₁ s' : Shared} {e : Addr} (k : ∀ a o, s.heap.get? a = some o → ∃ o', s₁.heap.get? a = some o') (x : Raised A g' s₁ e s') : Raised A g' s e s' := by
  obtain ⟨base, a0, l, h1, h2, h3, h4, h5, h6⟩ := x
  exact ⟨base, a0, l, h1, h2, h3, h4, h5, fun a o ho hn => let ⟨o', e'⟩ := k a o ho; h6 a o' e' hn⟩

/-- the frame's own objects are younger than the call's start -/
structure Entry (env : Env) (s0 : Shared) : Prop where
  locals : s0.heap.get? env.locals = none
  cells : ∀ x c, env.cells.lookup x = some c → s0.heap.get? c = none
  low : s0.heap.objs.size ≤ env.locals

/-- what a statement never changes: all that is no frame, no cell and no list -/
noncomputable def Prot (o : Obj) : Prop := (∀ es ep, o.data ≠ .dict es ep) ∧ (∀ v, o.data ≠ .cell v) ∧ o.cls ≠ .type "list"
noncomputable def Prot0 (o : Obj) : Prop := (∀ es ep, o.data ≠ .dict es ep) ∧ (∀ v, o.data ≠ .cell v)
structure MidP (pr : Obj → Prop) (g : GP) (h : Heap) (g' : GP) (h' : Heap) : Prop where
  le : GLe g g'
  kp : ∀ a o, h.get? a = some o → pr o → ¬ Tb a → g a = none → h'.get? a = some o ∧ g' a = none
abbrev Mid : GP → Heap → GP → Heap → Prop := MidP Prot
theorem MidP.refl {pr : Obj → Prop} (g : GP) (h : Heap) : MidP pr g h g h := ⟨.refl _, fun a o e _ _ e' => ⟨e, e'⟩⟩
theorem MidP.trans {pr : Obj → Prop} {g₁ g₂ g₃ : GP} {h₁ h₂ h₃ : Heap} (x : MidP pr g₁ h₁ g₂ h₂) (y : MidP pr g₂ h₂ g₃ h₃) : MidP pr g₁ h₁ g₃ h₃ := ⟨x.le.trans y.le, fun a o e p t e' => let ⟨e1, e2⟩ := x.kp a o e p t e'; y.kp a o e1 p t e2⟩
theorem MidP.weak {g g' : GP} {h h' : Heap} (x : MidP Prot0 g h g' h') : Mid g h g' h' := ⟨x.le, fun a o e p t e' => x.kp a o e ⟨p.1, p.2.1⟩ t e'⟩
theorem After.midP {A : Around} {g g' : GP} {s s' : Shared} {pr : Obj → Prop} (y : After C NoMu (fsOf A) g s g' s') (ok : OkC C n A g s) (hp : ∀ o, pr o → ∀ es ep, o.data ≠ .dict es ep) : MidP pr g s.heap g' s'.heap := ⟨y.mono, fun a o e p t e' =>
  ⟨y.ext.keep a o e (fun q => q) t fun hm => by
    obtain ⟨_, ob, es, ep, e1, e2⟩ := ok.frame hm
    rw [e] at e1; cases e1; exact hp _ p _ _ e2, y.gnone e' e⟩⟩
theorem After.mid {A : Around} {g g' : GP} {s s' : Shared} (y : After C NoMu (fsOf A) g s g' s') (ok : OkC C n A g s) : Mid g s.heap g' s'.heap := y.midP ok fun _ p => p.1
theorem MidP.touch {pr : Obj → Prop} {g : GP} {h h' : Heap} {a : Addr} {o : Obj} (hs : Heap.SameBut a h h') (ho : h.get? a = some o) (hp : ¬ pr o) : MidP pr g h g h' := ⟨.refl _, fun b ob e p t e' =>
  ⟨(hs.2 b fun q => by subst q; rw [ho] at e; cases e; exact hp p).trans e, e'⟩⟩

noncomputable def SPost (C : Cx) (n : Nat) (A : Around) (sc : Scope) (names : List Str) (env : Env) (g0 : GP) (s0 : Shared) (g : GP) (s : Shared) (Q : Flow → Shared → Prop) (E : Value → Shared → Prop) : FR → Prop
  | .next ρ => ∀ g' s', After C NoMu (fsOf A) g0 s0 g' s' → Mid g s.heap g' s'.heap → Ok C n A sc names env g' ρ s' → Q .next s'
  | .ret p => ∀ v g' s', After C NoMu (fsOf A) g0 s0 g' s' → Rep g' p v → Q (.ret v) s'
  | .exc => ∀ e g' s', After C NoMu (fsOf A) g0 s0 g' s' → Raised A g' s0 e s' → E (.ref e) s'
  | .stuck => False
noncomputable def SSound (C : Cx) (n : Nat) (sc : Scope) (names : List Str) (st : Stmt) (F : SD) : Prop :=
  ∀ A env g0 s0 g ρ s Q E, Ok C n A sc names env g ρ s → Entry env s0 → After C NoMu (fsOf A) g0 s0 g s → SPost C n A sc names env g0 s0 g s Q E (F ρ) → wpAny C.M A (exec st env) Q E s
noncomputable def BSound (C : Cx) (n : Nat) (sc : Scope) (names : List Str) (b : List Stmt) (F : SD) : Prop :=
  ∀ A env g0 s0 g ρ s Q E, Ok C n A sc names env g ρ s → Entry env s0 → After C NoMu (fsOf A) g0 s0 g s → SPost C n A sc names env g0 s0 g s Q E (F ρ) → wpAny C.M A (execs b env) Q E s
theorem SPost.start {A : Around} {env : Env} {g0 g g₁ : GP} {s0 s s₁ : Shared} {Q : Flow → Shared → Prop} {E : Value → Shared → Prop} {r : FR} (h : SPost C n A sc names env g0 s0 g s Q E r) (mi : Mid g s.heap g₁ s₁.heap) : SPost C n A sc names env g0 s0 g₁ s₁ Q E r := by
  cases r with
  | next ρ => exact fun g' s' y m ok => h g' s' y (mi.trans m) ok
  | _ => exact h
noncomputable def FR.andThen (r : FR) (k : SD) : FR := match r with | .next ρ => k ρ | r => r
theorem bs_nil : BSound C n sc names [] (fun ρ => .next ρ) := fun A env g0 s0 g ρ s Q E ok en y h => wpAny_execs_nil (h g s y (MidP.refl _ _) ok)
theorem bs_cons {st : Stmt} {b : List Stmt} {F G : SD} (h1 : SSound C n sc names st F) (h2 : BSound C n sc names b G) : BSound C n sc names (st :: b) (fun ρ => (F ρ).andThen G) := fun A env g0 s0 g ρ s Q E ok en y h => by
  refine wpAny_execs_cons (h1 A env g0 s0 g ρ s _ E ok en y ?_)
  dsimp only at h
  cases hr : F ρ with
  | next ρ' => rw [hr] at h; exact fun g' s' y' mi ok' => h2 A env g0 s0 g' ρ' s' Q E ok' en y' (h.start mi)
  | ret p => rw [hr] at h; exact fun v g' s' y' hv => h v g' s' y' hv
  | exc => rw [hr] at h; exact h
  | stuck => rw [hr] at h; exact h.elim

/-- from an expression's end on into the frame -/
noncomputable def R.toF (r : R) (k : PV → FR) : FR := match r with | .ok p => k p | .exc => .exc | .stuck => .stuck
theorem SPost.bind {A : Around} {env : Env} {g0 g : GP} {s0 s : Shared} {Q : Flow → Shared → Prop} {E : Value → Shared → Prop} {r : R} {k : PV → FR} (ok : OkC C n A g s) (y : After C NoMu (fsOf A) g0 s0 g s) (h : SPost C n A sc names env g0 s0 g s Q E (r.toF k))
    {Q' : Value → Shared → Prop} (hQ : ∀ p v g' s', r = .ok p → After C NoMu (fsOf A) g s g' s' → Rep g' p v → SPost C n A sc names env g0 s0 g' s' Q E (k p) → Q' v s') : Post C A g s Q' E r := by
  cases r with
  | ok p => exact fun v g' s' y' hv => hQ p v g' s' rfl y' hv (SPost.start h (y'.mid ok))
  | exc => exact fun e g' s' y' hf => h e g' s' (y.trans y') (hf.raised.of_live y.ext.live)
  | stuck => exact h.elim
noncomputable def R.testF (r : R) (k : Bool → FR) : FR := match r with | .ok (.bool b) => k b | .exc => .exc | _ => .stuck
theorem SPost.test {A : Around} {env : Env} {g0 g : GP} {s0 s : Shared} {Q : Flow → Shared → Prop} {E : Value → Shared → Prop} {r : R} {k : Bool → FR} (ok : OkC C n A g s) (y : After C NoMu (fsOf A) g0 s0 g s) (h : SPost C n A sc names env g0 s0 g s Q E (r.testF k))
    {K : Bool → Shared → Prop} (hK : ∀ b g' s', r = .ok (.bool b) → After C NoMu (fsOf A) g s g' s' → SPost C n A sc names env g0 s0 g' s' Q E (k b) → K b s') : TPost C A g s K E r := by
  cases r with
  | ok p =>
    cases p with
    | bool b => exact fun g' s' y' => hK b g' s' rfl y' (SPost.start h (y'.mid ok))
    | _ => exact h.elim
  | exc => exact fun e g' s' y' hf => h e g' s' (y.trans y') (hf.raised.of_live y.ext.live)
  | stuck => exact h.elim

theorem ss_Return {e : Expr} {pos : Pos} {f : ED} (h : ESound C n sc names e f) : SSound C n sc names (.Return (some e) pos) (fun ρ => (f ρ).toF .ret) := fun A env g0 s0 g ρ s Q E ok en y hp =>
  wpAny_Return_some (h A env g ρ s _ E ok (SPost.bind ok.toOkC y hp fun p v g' s' _ y' hv hk => hk v g' s' (y.trans y') hv))
theorem ss_If {t : Expr} {b o : List Stmt} {pos : Pos} {f : ED} {F G : SD} (ht : TSound C n sc names t f) (hb : BSound C n sc names b F) (ho : BSound C n sc names o G) :
    SSound C n sc names (.If t b o pos) (fun ρ => (f ρ).testF fun c => if c then F ρ else G ρ) := fun A env g0 s0 g ρ s Q E ok en y hp => by
  refine wpAny_If (ht A env g ρ s _ E ok (SPost.test ok.toOkC y hp fun c g' s' _ y' hk => ?_))
  cases c with
  | true => exact hb A env g0 s0 g' ρ s' Q E (ok.after y') en (y.trans y') hk
  | false => exact ho A env g0 s0 g' ρ s' Q E (ok.after y') en (y.trans y') hk

/-! ### storing into the frame -/
theorem Wd.touch {g : GP} {h h' : Heap} {a : Addr} {o : Obj} (w : Wd C g h) (hs : Heap.SameBut a h h') (hg : g a = none) (ho : h.get? a = some o) (hd : ∀ vs, o.data ≠ .fields vs) : Wd C g h' := by
  have ht := tabNoData w ho hd
  obtain ⟨a1, a2, a3, t1, t2⟩ := w
  have ne : ∀ b ob, g b = some ob → b ≠ a := fun b ob e q => by rw [q, hg] at e; cases e
  have kb : ∀ b ob, b ≠ a → h.get? b = some ob → h'.get? b = some ob := fun b ob hb e => (hs.2 b hb).trans e
  exact ⟨a1, fun b ob e => kb b ob (ne b ob e) (a2 b ob e), a3, t1.to (fun _ _ e => e) fun o e => kb _ _ (fun q => ht (.inl q.symm)) e, t2.to (fun _ _ e => e) fun o e => kb _ _ (fun q => ht (.inr q.symm)) e⟩
theorem After.touch {fs : List Addr} {g0 g : GP} {s0 s : Shared} {h' : Heap} {tk : Nat} {a : Addr} {o : Obj} (y : After C NoMu fs g0 s0 g s) (hs : Heap.SameBut a s.heap h') (hg : g a = none) (ho : s.heap.get? a = some o) (hd : ∀ vs, o.data ≠ .fields vs)
    (hf : s0.heap.get? a = none) : After C NoMu fs g0 s0 g { s with heap := h', toks := tk } := by
  obtain ⟨⟨h1, t1, rfl⟩, ⟨l, sl, kp⟩, m, w, fr⟩ := y
  have na : ∀ b ob, s0.heap.get? b = some ob → b ≠ a := fun b ob e q => by rw [q, hf] at e; cases e
  refine ⟨⟨h', tk, rfl⟩, ⟨fun b ob e => ?_, fun b ob e m t => ?_, fun b ob e m t f => ?_⟩, m, w.touch hs hg ho hd, fr⟩
  · obtain ⟨o2, e2⟩ := l b ob e
    exact ⟨o2, (hs.2 b (na b ob e)).trans e2⟩
  · obtain ⟨s2, e2⟩ := sl b ob e m t
    exact ⟨s2, (hs.2 b (na b ob e)).trans e2⟩
  · exact (hs.2 b (na b ob e)).trans (kp b ob e m t f)
theorem OkC.touch {A : Around} {g : GP} {s : Shared} {h' : Heap} {tk : Nat} {a : Addr} {o o' : Obj} (ok : OkC C n A g s) (hs : Heap.SameBut a s.heap h') (hg : g a = none) (ho : s.heap.get? a = some o) (hd : ∀ vs, o.data ≠ .fields vs)
    (ho' : h'.get? a = some o') (hk : ∀ es ep, o.data = .dict es ep → ∃ es' ep', o'.data = .dict es' ep') : OkC C n A g { s with heap := h', toks := tk } := by
  obtain ⟨w, r, l, hl, hf⟩ := ok
  refine ⟨w.touch hs hg ho hd, r, l, hl, FrOk.after (fun b hb _ => hb) (fun env he L ob es ep hL hob hgL hdL => ?_) hf⟩
  by_cases q : L = a
  · subst q
    rw [ho] at hob; cases hob
    obtain ⟨es', ep', e'⟩ := hk es ep hdL
    exact ⟨o', es', ep', ho', e'⟩
  · exact ⟨ob, es, ep, (hs.2 L q).trans hob, hdL⟩

noncomputable def setV (i : Nat) (p : PV) (ρ : List PV) : List PV := ρ.set i p
/-- where a name stands -/
noncomputable def at? (x : Str) : List Str → Option Nat
  | [] => Option.none
  | y :: r => if y = x then some 0 else (at? x r).map (· + 1)
theorem VarsOk.set {env : Env} {m m' : Str → Option Value} {g : GP} {h h' : Heap} {x : Str} {p : PV} (hn : ∀ y v, y ≠ x → VarOk env m h y v → VarOk env m' h' y v) (ho : ∀ l v, OwnAt g h env.locals l v → OwnAt g h' env.locals l v)
    (hx : p = .nil ∨ (∃ v, Rep g p v ∧ VarOk env m' h' x v) ∨ ∃ l v, p = .own l ∧ VarOk env m' h' x v ∧ OwnAt g h' env.locals l v) :
    ∀ {names : List Str} {ρ : List PV} {i : Nat}, names.Nodup → at? x names = some i → VarsOk env m g h names ρ → VarsOk env m' g h' names (setV i p ρ)
  | y :: ys, q :: qs, i, hnd, hi, ⟨h1, h2⟩ => by
    obtain ⟨hy, hnd'⟩ := List.nodup_cons.mp hnd
    rw [at?] at hi
    have keep : ∀ {zs : List Str} {rs : List PV}, x ∉ zs → VarsOk env m g h zs rs → VarsOk env m' g h' zs rs := by
      intro zs
      induction zs with
      | nil => intro rs _ hr; cases rs <;> first | exact trivial | exact hr.elim
      | cons z zs ih =>
        intro rs hz hr
        cases rs with
        | nil => exact hr.elim
        | cons r rs =>
          obtain ⟨k1, k2⟩ := hr
          have hzx : z ≠ x := fun e => hz (e ▸ List.mem_cons_self)
          exact ⟨k1.imp id fun k => k.imp (fun ⟨v, a, b⟩ => ⟨v, a, hn z v hzx b⟩) fun ⟨l, v, a, b, c⟩ => ⟨l, v, a, hn z v hzx b, ho l v c⟩, ih (fun e => hz (List.mem_cons_of_mem _ e)) k2⟩
    by_cases e : y = x
    · rw [if_pos e] at hi
      cases hi
      subst e
      exact ⟨hx, keep hy h2⟩
    · rw [if_neg e] at hi
      cases hj : at? x ys with
      | none => rw [hj] at hi; cases hi
      | some j =>
        rw [hj] at hi
        cases hi
        exact ⟨h1.imp id fun k => k.imp (fun ⟨v, a, b⟩ => ⟨v, a, hn y v e b⟩) fun ⟨l, v, a, b, c⟩ => ⟨l, v, a, hn y v e b, ho l v c⟩, VarsOk.set hn ho hx hnd' hj h2⟩
  | [], _, _, _, hi, _ => by cases hi
  | _ :: _, [], _, _, _, h => h.elim

/-- a name of the frame that can be bound -/
noncomputable def bindable (sc : Scope) (x : Str) : Bool := sc.names.lookup x == some .local || sc.names.lookup x == some .cell
theorem store_ok' {A : Around} {env : Env} {g0 g : GP} {s0 s : Shared} {ρ : List PV} {x : Str} {i : Nat} {p : PV} {v : Value} {Q : Unit → Shared → Prop} {E : Value → Shared → Prop} (ok : Ok C n A sc names env g ρ s) (hyL : s0.heap.get? env.locals = none) (hyC : ∀ c, env.cells.lookup x = some c → s0.heap.get? c = none) (y : After C NoMu (fsOf A) g0 s0 g s)
    (hnd : names.Nodup) (hi : at? x names = some i) (hb : bindable sc x = true)
    (hv : Rep g p v ∨ ∃ l, p = .own l ∧ OwnAt g s.heap env.locals l v)
    (h : ∀ s', After C NoMu (fsOf A) g0 s0 g s' → MidP Prot0 g s.heap g s'.heap → (∀ a, a ≠ env.locals → env.cells.lookup x ≠ some a → s'.heap.get? a = s.heap.get? a) → Ok C n A sc names env g (setV i p ρ) s' → Q () s') : wpAny C.M A (storeName env x v) Q E s := by
  have e0 := ok.env
  obtain ⟨a1, a2, a3, a4, a5, a6, a7, a8, has, m, a9, a10⟩ := e0
  obtain ⟨oL, esL, epL, eL, dL, _⟩ := id a9
  have hdL : ∀ vs, oL.data ≠ .fields vs := fun vs q => by rw [dL] at q; cases q
  rcases Bool.or_eq_true_iff.mp hb with hk | hk
  · have hk' : env.kindOf x = some .local := by unfold Env.kindOf; rw [a1]; exact beq_iff_eq.mp hk
    refine wpAny_storeName_local hk' a9 (fun h' hn hs => ?_) (by rw [a1, a2]; rfl)
    obtain ⟨oL', esL', epL', eL', dL', _⟩ := id hn
    refine h _ (y.touch hs a5 eL hdL hyL) (MidP.touch hs eL fun p => p.1 _ _ dL) (fun a h1 _ => hs.2 a h1) ⟨ok.toOkC.touch hs a5 eL hdL eL' fun _ _ _ => ⟨_, _, dL'⟩, ok.code, a1, a2, a3, a4, a5, a6, fun z c hz => ?_, a8, has, _, hn, ?_⟩
    · obtain ⟨b1, b2, b3, w, b4⟩ := a7 z c hz
      exact ⟨b1, b2, b3, w, b4.sameBut hs b3⟩
    · have ho : ∀ l v, OwnAt g s.heap env.locals l v → OwnAt g h' env.locals l v := fun l v ⟨a, vs, k, e, hlt, hg, hh, r⟩ => ⟨a, vs, k, e, hlt, hg, (hs.2 a (Nat.ne_of_gt hlt)).trans hh, r⟩
      refine VarsOk.set (m := m) (h := s.heap) (fun z w hz q => ?_) ho ?_ hnd hi a10
      · rcases q with ⟨q1, q2⟩ | ⟨q1, c, q2, q3⟩
        · exact .inl ⟨q1, by show (if z = x then some v else m z) = _; rw [if_neg hz]; exact q2⟩
        · exact .inr ⟨q1, c, q2, q3.sameBut hs (a7 z c q2).2.2.1⟩
      · have hv1 : VarOk env (fun y => if y = x then some v else m y) h' x v := .inl ⟨hk', by simp⟩
        exact .inr (hv.imp (fun r => ⟨v, r, hv1⟩) fun ⟨l, e, o⟩ => ⟨l, v, e, hv1, ho l v o⟩)
  · have hk1 : sc.names.lookup x = some .cell := beq_iff_eq.mp hk
    have hk' : env.kindOf x = some .cell := by unfold Env.kindOf; rw [a1]; exact hk1
    obtain ⟨c, hcx⟩ := Option.isSome_iff_exists.mp (has x (.inl hk1))
    obtain ⟨c1, c2, c3, w, c4⟩ := a7 x c hcx
    obtain ⟨oc, ec, dc⟩ := id c4
    have hdc : ∀ vs, oc.data ≠ .fields vs := fun vs q => by rw [dc] at q; cases q
    refine wpAny_storeName_cell (by rw [a1]; exact a2) hk' hcx c4 fun h' hv' hs => ?_
    obtain ⟨oc', ec', dc'⟩ := id hv'
    refine h _ (y.touch hs c1 ec hdc (hyC c hcx)) (MidP.touch hs ec fun p => p.2 _ dc) (fun a _ h2 => hs.2 a fun q => h2 (q ▸ hcx)) ⟨ok.toOkC.touch hs c1 ec hdc ec' (fun _ _ q => by rw [dc] at q; cases q), ok.code, a1, a2, a3, a4, a5, a6, fun z c' hz => ?_, a8, has, m, a9.sameBut hs (Ne.symm c3), ?_⟩
    · obtain ⟨b1, b2, b3, w', b4⟩ := a7 z c' hz
      by_cases q : c' = c
      · subst q; exact ⟨b1, b2, b3, _, hv'⟩
      · exact ⟨b1, b2, b3, w', b4.sameBut hs q⟩
    · have ho : ∀ l v, OwnAt g s.heap env.locals l v → OwnAt g h' env.locals l v := fun l v ⟨a, vs, k, e, hlt, hg, hh, r⟩ => ⟨a, vs, k, e, hlt, hg, (hs.2 a (fun q => by subst q; rw [hh] at ec; cases ec; cases dc)).trans hh, r⟩
      refine VarsOk.set (m := m) (h := s.heap) (fun z w hz q => ?_) ho ?_ hnd hi a10
      · rcases q with ⟨q1, q2⟩ | ⟨q1, c', q2, q3⟩
        · exact .inl ⟨q1, q2⟩
        · exact .inr ⟨q1, c', q2, q3.sameBut hs (fun q => hz (by subst q; exact a8 z x c' q2 hcx))⟩
      · have hv1 : VarOk env m h' x v := .inr ⟨.inl hk', c, hcx, hv'⟩
        exact .inr (hv.imp (fun r => ⟨v, r, hv1⟩) fun ⟨l, e, o⟩ => ⟨l, v, e, hv1, ho l v o⟩)
theorem store_ok {A : Around} {env : Env} {g0 g : GP} {s0 s : Shared} {ρ : List PV} {x : Str} {i : Nat} {p : PV} {v : Value} {Q : Unit → Shared → Prop} {E : Value → Shared → Prop} (ok : Ok C n A sc names env g ρ s) (en : Entry env s0) (y : After C NoMu (fsOf A) g0 s0 g s)
    (hnd : names.Nodup) (hi : at? x names = some i) (hb : bindable sc x = true)
    (hv : Rep g p v ∨ ∃ l, p = .own l ∧ OwnAt g s.heap env.locals l v)
    (h : ∀ s', After C NoMu (fsOf A) g0 s0 g s' → Mid g s.heap g s'.heap → Ok C n A sc names env g (setV i p ρ) s' → Q () s') : wpAny C.M A (storeName env x v) Q E s :=
  store_ok' ok en.locals (fun c hc => en.cells x c hc) y hnd hi hb hv fun s' y' mi _ ok' => h s' y' mi.weak ok'
end Mine
end

/-! ## F10 -/
section
open PySem PySem.W PyProof.Rows PySem.Calls PySem.SeqAt
set_option maxRecDepth 100000
set_option maxHeartbeats 4000000
set_option linter.unusedVariables false
namespace Mine
variable {C : Cx} {n : Nat} {sc : Scope} {names : List Str}

theorem ss_Assign {x : Str} {i : Nat} {value : Expr} {p1 pos : Pos} {f : ED} (he : ESound C n sc names value f) (hnd : names.Nodup) (hi : at? x names = some i) (hb : bindable sc x = true)
    (hs : ∀ env : Env, env.scope = sc → swapsWith value (some (.Name x p1)) pos.line env = pure false := by intro _ _; rfl) :
    SSound C n sc names (.Assign [.Name x p1] value pos) (fun ρ => (f ρ).toF fun p => .next (setV i p ρ)) := fun A env g0 s0 g ρ s Q E ok en y hp => by
  refine wpAny_Assign_Name (hs := hs env ok.env.scope) (he A env g ρ s _ E ok (SPost.bind ok.toOkC y hp fun p v g' s' _ y' hv hk => ?_))
  exact store_ok (ok.after y') en (y.trans y') hnd hi hb (.inl hv) fun s2 y2 mi ok2 => hk g' s2 y2 mi ok2

/-! ### several names at once -/
noncomputable def ListRep (g : GP) : List PV → List Value → Prop
  | [], [] => True
  | p :: ps, v :: vs => Rep g p v ∧ ListRep g ps vs
  | _, _ => False
theorem RepL.list {g : GP} : ∀ {p : PV} {vs : List Value}, RepL g p vs → ListRep g p.items vs
  | .nil, vs, h => by obtain rfl : vs = [] := h; trivial
  | .cons x r, vs, h => by
    obtain ⟨v, ws, rfl, h1, h2⟩ := h
    exact ⟨h1, RepL.list h2⟩
  | .none, _, h | .bool _, _, h | .int _, _, h | .str _, _, h | .tup _, _, h | .lst _, _, h | .reg .., _, h | .own _, _, h | .ext _, _, h => h.elim
theorem ListRep.append {g : GP} : ∀ {ps qs : List PV} {vs ws : List Value}, ListRep g ps vs → ListRep g qs ws → ListRep g (ps ++ qs) (vs ++ ws)
  | [], _, [], _, _, h => h
  | p :: ps, _, v :: vs, _, ⟨h1, h2⟩, h => ⟨h1, ListRep.append h2 h⟩
  | [], _, _ :: _, _, h, _ => h.elim
  | _ :: _, _, [], _, h, _ => h.elim
theorem ListRep.reverse {g : GP} : ∀ {ps : List PV} {vs : List Value}, ListRep g ps vs → ListRep g ps.reverse vs.reverse
  | [], [], _ => trivial
  | p :: ps, v :: vs, ⟨h1, h2⟩ => by
    rw [List.reverse_cons, List.reverse_cons]
    exact ListRep.append (ListRep.reverse h2) ⟨h1, trivial⟩
  | [], _ :: _, h => h.elim
  | _ :: _, [], h => h.elim
noncomputable def TOk (C : Cx) (A : Around) (env : Env) (E : Value → Shared → Prop) : List (Value → Sem Unit) → List Str → Prop
  | [], [] => True
  | t :: ts, x :: xs => (∀ v (Q : Unit → Shared → Prop) s, wpAny C.M A (storeName env x v) Q E s → wpAny C.M A (t v) Q E s) ∧ TOk C A env E ts xs
  | _, _ => False
noncomputable def setVs : List Nat → List PV → List PV → List PV
  | i :: is, p :: ps, ρ => setVs is ps (setV i p ρ)
  | _, _, ρ => ρ
noncomputable def atAll (names : List Str) : List Str → List Nat → Prop
  | [], [] => True
  | x :: xs, i :: is => at? x names = some i ∧ atAll names xs is
  | _, _ => False
theorem stores_ok {A : Around} {env : Env} {g0 g : GP} {s0 : Shared} {E : Value → Shared → Prop} (en : Entry env s0) (hnd : names.Nodup) :
    ∀ {ts : List (Value → Sem Unit)} {xs : List Str} {is : List Nat} {ps : List PV} {vs : List Value} {ρ : List PV} {s : Shared} {Q : Unit → Shared → Prop}, TOk C A env E ts xs → atAll names xs is → xs.all (bindable sc) = true → ps.length = xs.length → ListRep g ps vs →
      Ok C n A sc names env g ρ s → After C NoMu (fsOf A) g0 s0 g s → (∀ s', After C NoMu (fsOf A) g0 s0 g s' → Mid g s.heap g s'.heap → Ok C n A sc names env g (setVs is ps ρ) s' → Q () s') → wpAny C.M A (assignInOrder ts vs) Q E s
  | [], [], [], [], [], ρ, s, Q, _, _, _, _, _, ok, y, h => wpAny_pure (h s y (MidP.refl _ _) ok)
  | t :: ts, x :: xs, i :: is, p :: ps, v :: vs, ρ, s, Q, ⟨h1, h2⟩, ⟨k1, k2⟩, hb, hl, ⟨r1, r2⟩, ok, y, h => by
    have hb' : bindable sc x = true ∧ xs.all (bindable sc) = true := by simpa using hb
    show wpAny C.M A (holding vs (t v) >>= fun _ => assignInOrder ts vs) Q E s
    refine wpAny_bind (wpAny_holding (h1 v _ s (store_ok ok en y hnd k1 hb'.1 (.inl r1) fun s' y' mi ok' => ?_)))
    exact stores_ok en hnd h2 k2 hb'.2 (by simpa using hl) r2 ok' y' fun s2 y2 mi2 ok2 => h s2 y2 (mi.trans mi2) ok2
  | [], _ :: _, _, _, _, _, _, _, h, _, _, _, _, _, _, _ => h.elim
  | _ :: _, [], _, _, _, _, _, _, h, _, _, _, _, _, _, _ => h.elim
  | [], [], _ :: _, _, _, _, _, _, _, h, _, _, _, _, _, _ => h.elim
  | _ :: _, _ :: _, [], _, _, _, _, _, _, h, _, _, _, _, _, _ => h.elim
  | [], [], [], _ :: _, _, _, _, _, _, _, _, h, _, _, _, _ => by cases h
  | _ :: _, _ :: _, _ :: _, [], _, _, _, _, _, _, _, h, _, _, _, _ => by cases h
  | [], [], [], [], _ :: _, _, _, _, _, _, _, _, h, _, _, _ => h.elim
  | _ :: _, _ :: _, _ :: _, _ :: _, [], _, _, _, _, _, _, _, h, _, _, _ => h.elim
/-- targets that are names -/
inductive Targets : List Expr → List Str → Prop
  | nil : Targets [] []
  | cons {x : Str} {p : Pos} {es : List Expr} {xs : List Str} : Targets es xs → Targets (.Name x p :: es) (x :: xs)
theorem Targets.each {env : Env} : ∀ {es : List Expr} {xs : List Str}, Targets es xs → (assignEach es env).length = xs.length ∧ (assignEach es env).findIdx? (·.1) = none
  | _, _, .nil => ⟨rfl, rfl⟩
  | _, _, .cons (x := x) (p := p) (es := es) (xs := xs) h => by
    have e : assignEach (.Name x p :: es) env = (false, assign (.Name x p) env) :: assignEach es env := rfl
    obtain ⟨h1, h2⟩ := h.each (env := env)
    rw [e]
    refine ⟨by rw [List.length_cons, List.length_cons, h1], ?_⟩
    rw [List.findIdx?_cons, h2]; rfl
theorem Targets.ok {A : Around} {env : Env} {E : Value → Shared → Prop} : ∀ {es : List Expr} {xs : List Str}, Targets es xs → TOk C A env E ((assignEach es env).map (·.2)) xs
  | _, _, .nil => trivial
  | _, _, .cons (x := x) (p := p) (es := es) (xs := xs) h => by
    have e : assignEach (.Name x p :: es) env = (false, assign (.Name x p) env) :: assignEach es env := rfl
    rw [e]
    exact ⟨fun v Q s hs => assign_Name hs, h.ok⟩
theorem binds_ok {A : Around} {env : Env} {E : Value → Shared → Prop} : ∀ (xs : List Str), TOk C A env E (xs.map fun x => bindName env x) xs
  | [] => trivial
  | x :: xs => ⟨fun v Q s hs => wpAny_bindName hs, binds_ok xs⟩
theorem Ok.grow {A : Around} {env : Env} {g : GP} {ρ : List PV} {s : Shared} {h' : Heap} (ok : Ok C n A sc names env g ρ s) (k : ∀ a o, s.heap.get? a = some o → h'.get? a = some o) : Ok C n A sc names env g ρ { s with heap := h' } :=
  ok.after (After.grow (tk := s.toks) ok.wd k)
theorem extBut_keeps {h h' : Heap} (x : Heap.ExtBut h.objs.size h h') : ∀ a o, h.get? a = some o → h'.get? a = some o := fun a o e => x a o (Nat.ne_of_lt (Heap.lt_size e)) e
noncomputable def unpackD (k : Nat) (is : List Nat) (f : ED) (F : List Nat → List PV → List PV → List PV) : SD := fun ρ => (f ρ).toF fun p => match p with | .tup r => if r.len = k then .next (F is r.items ρ) else .stuck | _ => .stuck
theorem items_len : ∀ {p : PV}, p.row = true → p.items.length = p.len
  | .nil, _ => rfl
  | .cons x r, h => by show r.items.length + 1 = r.len + 1; rw [items_len (p := r) h]
theorem ss_Unpack {es : List Expr} {xs : List Str} {is : List Nat} {k : Nat} {value : Expr} {tp pos : Pos} {f : ED} (he : ESound C n sc names value f) (ht : Targets es xs) (hnd : names.Nodup) (hi : atAll names xs is) (hb : xs.all (bindable sc) = true)
    (hs : ∀ env : Env, env.scope = sc → swapsWithSole [.Tuple es k tp] value pos.line env = pure false) (hw : ∀ env : Env, env.scope = sc → swappedStores [.Tuple es k tp] value env = pure none) :
    SSound C n sc names (.Assign [.Tuple es k tp] value pos) (unpackD xs.length is f setVs) := fun A env g0 s0 g ρ s Q E ok en y hp => by
  refine Assign_Tuple (hs := hs env ok.env.scope) (hw := hw env ok.env.scope) (he A env g ρ s _ E ok (SPost.bind ok.toOkC y hp fun p v g' s' hq y' hv hk => ?_))
  cases p <;> first | exact hk.elim | skip
  rename_i r
  obtain ⟨a, vs, m, rfl, eg, hr⟩ := hv
  dsimp only at hk
  split at hk
  · rename_i hl
    have ok' := ok.after y'
    have ho := ok'.wd.sub _ _ eg
    have hsz : vs.size = r.len := by rw [← (RepL.row hr).2, Array.length_toList]
    obtain ⟨t1, t2⟩ := ht.each (env := env)
    refine PyProof.Rows.assign_Tuple_tuple ok'.room.calm ⟨_, ho, rfl, m, rfl⟩ (by rw [t1, hsz, hl]) t2 fun h' hx => ?_
    have kk := extBut_keeps hx
    exact stores_ok en hnd ht.ok hi hb (by rw [items_len (RepL.row hr).1, hl]) (RepL.list hr) (ok'.grow kk) ((y.trans y').trans (After.grow (tk := s'.toks) ok'.wd kk)) fun s2 y2 mi ok2 => hk g' s2 y2 (((After.grow (tk := s'.toks) ok'.wd kk).mid ok'.toOkC).trans mi) ok2
  · exact hk.elim
theorem atAll_append : ∀ {xs ys : List Str} {is js : List Nat}, atAll names xs is → atAll names ys js → atAll names (xs ++ ys) (is ++ js)
  | [], _, [], _, _, h => h
  | _ :: _, _, _ :: _, _, ⟨h1, h2⟩, h => ⟨h1, atAll_append h2 h⟩
  | [], _, _ :: _, _, h, _ => h.elim
  | _ :: _, _, [], _, h, _ => h.elim
theorem atAll_reverse : ∀ {xs : List Str} {is : List Nat}, atAll names xs is → atAll names xs.reverse is.reverse
  | [], [], _ => trivial
  | _ :: _, _ :: _, ⟨h1, h2⟩ => by
    rw [List.reverse_cons, List.reverse_cons]
    exact atAll_append (atAll_reverse h2) ⟨h1, trivial⟩
  | [], _ :: _, h => h.elim
  | _ :: _, [], h => h.elim
noncomputable def setVsR (is : List Nat) (ps : List PV) (ρ : List PV) : List PV := setVs is.reverse ps.reverse ρ
theorem ss_Swapped {es : List Expr} {xs : List Str} {is : List Nat} {k : Nat} {value : Expr} {tp pos : Pos} {f : ED} (he : ESound C n sc names value f) (hnd : names.Nodup) (hi : atAll names xs is) (hb : xs.all (bindable sc) = true)
    (hs : ∀ env : Env, env.scope = sc → swapsWithSole [.Tuple es k tp] value pos.line env = pure false) (hw : ∀ env : Env, env.scope = sc → swappedStores [.Tuple es k tp] value env = pure (some xs)) :
    SSound C n sc names (.Assign [.Tuple es k tp] value pos) (unpackD xs.length is f setVsR) := fun A env g0 s0 g ρ s Q E ok en y hp => by
  refine Assign_Tuple_swapped (hs := hs env ok.env.scope) (hw := hw env ok.env.scope) (he A env g ρ s _ E ok (SPost.bind ok.toOkC y hp fun p v g' s' hq y' hv hk => ?_))
  cases p <;> first | exact hk.elim | skip
  rename_i r
  obtain ⟨a, vs, m, rfl, eg, hr⟩ := hv
  dsimp only at hk
  split at hk
  · rename_i hl
    have ok' := ok.after y'
    have ho := ok'.wd.sub _ _ eg
    have hsz : vs.size = r.len := by rw [← (RepL.row hr).2, Array.length_toList]
    have hn : xs.length = vs.size := by rw [hsz, hl]
    rw [hn]
    refine PySem.wpAny_unpackItems_tuple ok'.room.calm ⟨_, ho, rfl, m, rfl⟩ fun h' hx => ?_
    have kk := extBut_keeps hx
    exact stores_ok en hnd (binds_ok _) (atAll_reverse hi) (by rw [List.all_reverse]; exact hb) (by rw [List.length_reverse, List.length_reverse, items_len (RepL.row hr).1, hl]) (RepL.list hr).reverse (ok'.grow kk)
      ((y.trans y').trans (After.grow (tk := s'.toks) ok'.wd kk)) fun s2 y2 mi ok2 => hk g' s2 y2 (((After.grow (tk := s'.toks) ok'.wd kk).mid ok'.toOkC).trans mi) ok2
  · exact hk.elim
end Mine
end

/-! ## F11 -/
section
open PySem PySem.W PyProof.Rows PySem.Calls PySem.SeqAt
set_option maxRecDepth 100000
set_option maxHeartbeats 4000000
set_option linter.unusedVariables false
namespace Mine
variable {C : Cx} {n : Nat} {sc : Scope} {names : List Str}

/-- what the top says of one of its functions -/
noncomputable def FnIs (K : Frag) (f : Addr) (ps : List Str) (body : List Stmt) (sc : Scope) : Prop :=
  ∃ oc od osl fd, K.lookup f = some ⟨oc, od, .func fd, osl⟩ ∧ fd.body = .stmts body ∧ fd.scope = sc ∧ fd.globals = mainGlobals ∧ fd.closure = [] ∧ fd.builtins = builtinsNs ∧ codeIn K fd.code fd.qualname = true ∧ CodeOk fd.scope fd.code (fd.qualname ++ ".<locals>.") ∧
    ∀ vs : List Value, vs.length = ps.length → bindArgs fd ⟨vs, []⟩ = pure (ps.zip vs)

theorem bindL_other {kindOf : Str → Option NameKind} {x : Str} : ∀ {bs : List (Str × Value)} {m : Str → Option Value}, (∀ b ∈ bs, b.1 ≠ x) → bindL kindOf bs m x = m x
  | [], _, _ => rfl
  | (y, v) :: r, m, h => by
    unfold bindL
    rw [bindL_other fun b hb => h b (List.mem_cons_of_mem _ hb)]
    have hy : y ≠ x := h (y, v) List.mem_cons_self
    split
    · show (if x = y then some v else m x) = m x
      rw [if_neg (Ne.symm hy)]
    · rfl
theorem bindC_other {kindOf : Str → Option NameKind} {x : Str} : ∀ {bs : List (Str × Value)} {m : Str → Option Value}, (∀ b ∈ bs, b.1 ≠ x) → bindC kindOf bs m x = m x
  | [], _, _ => rfl
  | (y, v) :: r, m, h => by
    unfold bindC
    rw [bindC_other fun b hb => h b (List.mem_cons_of_mem _ hb)]
    have hy : y ≠ x := h (y, v) List.mem_cons_self
    split
    · rfl
    · show (if x = y then some v else m x) = m x
      rw [if_neg (Ne.symm hy)]
theorem zip_fst : ∀ {ps : List Str} {vs : List Value} {b : Str × Value}, b ∈ ps.zip vs → b.1 ∈ ps
  | _ :: _, _ :: _, b, h => by
    rw [List.zip_cons_cons] at h
    rcases List.mem_cons.mp h with rfl | h
    · exact List.mem_cons_self
    · exact List.mem_cons_of_mem _ (zip_fst h)
  | [], _, _, h => by simp at h
  | _ :: _, [], _, h => by simp at h
theorem bind_at {kindOf : Str → Option NameKind} : ∀ {ps : List Str} {vs : List Value} {m cm : Str → Option Value}, ps.Nodup → ∀ {x : Str} {v : Value}, (x, v) ∈ ps.zip vs →
    (kindOf x = some .local → bindL kindOf (ps.zip vs) m x = some v) ∧ (kindOf x ≠ some .local → bindC kindOf (ps.zip vs) cm x = some v)
  | y :: ps, w :: vs, m, cm, hnd, x, v, hm => by
    obtain ⟨hy, hnd'⟩ := List.nodup_cons.mp hnd
    rw [List.zip_cons_cons] at hm ⊢
    rcases List.mem_cons.mp hm with e | hm
    · cases e
      have ho : ∀ b ∈ ps.zip vs, b.1 ≠ y := fun b hb q => hy (q ▸ zip_fst hb)
      refine ⟨fun hk => ?_, fun hk => ?_⟩
      · unfold bindL
        rw [bindL_other ho, if_pos hk]
        show (if y = y then some w else _) = _
        rw [if_pos rfl]
      · unfold bindC
        rw [bindC_other ho, if_neg hk]
        show (if y = y then some w else _) = _
        rw [if_pos rfl]
    · unfold bindL bindC
      exact bind_at hnd' hm
  | [], _, _, _, _, _, _, h => by simp at h
  | _ :: _, [], _, _, _, _, _, h => by simp at h
theorem VarsOk.nils {env : Env} {m : Str → Option Value} {g : GP} {h : Heap} : ∀ (rest : List Str), VarsOk env m g h rest (List.replicate rest.length .nil)
  | [] => trivial
  | _ :: r => ⟨.inl rfl, VarsOk.nils r⟩
theorem VarsOk.init {env : Env} {m : Str → Option Value} {g : GP} {h : Heap} {rest : List Str} : ∀ {ps : List Str} {vs : List Value} {is : List PV}, (∀ y v, (y, v) ∈ ps.zip vs → VarOk env m h y v) → ListRep g is vs → ps.length = vs.length →
    VarsOk env m g h (ps ++ rest) (is ++ List.replicate rest.length .nil)
  | [], [], [], _, _, _ => VarsOk.nils rest
  | y :: ps, v :: vs, i :: is, hv, ⟨h1, h2⟩, hl => ⟨.inr (.inl ⟨v, h1, hv y v (by rw [List.zip_cons_cons]; exact List.mem_cons_self)⟩), VarsOk.init (fun z w hz => hv z w (by rw [List.zip_cons_cons]; exact List.mem_cons_of_mem _ hz)) h2 (by simpa using hl)⟩
  | [], _ :: _, _, _, _, hl => by cases hl
  | _ :: _, [], _, _, _, hl => by cases hl
  | [], [], _ :: _, _, h, _ => h.elim
  | _ :: _, _ :: _, [], _, h, _ => h.elim

theorem fsOf_deeper {A : Around} {env : Env} {l : List Env} {L : Addr} (hl : A.frames = some l) (hf : env.frame = some L) : fsOf (A.deeper env) = L :: fsOf A := by
  unfold fsOf
  rw [Around.frames_deeper hl, hl]
  show List.filterMap _ (env :: l) = _
  rw [List.filterMap_cons_some hf]; rfl
theorem After.less {fs : List Addr} {L : Addr} {g g' : GP} {s s' : Shared} (y : After C NoMu (L :: fs) g s g' s') (hL : s.heap.get? L = none) : After C NoMu fs g s g' s' :=
  ⟨y.eq, ⟨y.ext.live, y.ext.slots, fun a o e m t f => y.ext.keep a o e m t fun q => by
    rcases List.mem_cons.mp q with rfl | q
    · rw [hL] at e; cases e
    · exact f q⟩, y.mono, y.wd, y.fresh⟩

/-- an exception leaves the frame in which it was raised, or through which it flies -/
theorem leave_ok {A : Around} {env : Env} {L : Addr} {g g' : GP} {s s' : Shared} {e : Addr} {E' : Value → Shared → Prop} {l : List Env} (ok : OkC C n A g s) (hl : A.frames = some l) (hf : env.frame = some L) (hL : s.heap.get? L = none)
    (y : After C NoMu (L :: fsOf A) g s g' s') (hr : Raised (A.deeper env) g' s e s')
    (h : ∀ s2, After C NoMu (fsOf A) g s g' s2 → Fly A g' s e s2 → E' (.ref e) s2) :
    wpAny C.M (A.deeper env) (leaving env (.ref e)) (fun _ s2 => E' (.ref e) s2) (fun e' s2 => E' e' s2) s' := by
  obtain ⟨base, a0, l', h1, ⟨h2, ht1, ht2, hgb⟩, h3, h4, h5, h6⟩ := hr
  have hfr : (A.deeper env).frames = some (env :: l) := Around.frames_deeper hl
  rw [hfr] at h1
  cases h1
  rw [fsOf_deeper hl hf] at h6
  have fin : ∀ h', Heap.FlyingW base l e (.ref 52) a0 h' → s'.heap.UpToSlots h' → E' (.ref e) { s' with heap := h' } := fun h' fl up => by
    obtain ⟨f1, f2, f3, f4⟩ := fl
    have inB : ∀ a o, s.heap.get? a = some o → a ∉ fsOf A → ¬ Tb a → base.get? a = some o := fun a o ho hn ht => by
      have hm : a ∉ L :: fsOf A := fun q => by
        rcases List.mem_cons.mp q with rfl | q
        · rw [hL] at ho; cases ho
        · exact hn q
      obtain ⟨o', e'⟩ := h6 a o ho hm
      have := h2 a o' e'
      rw [y.ext.keep a o ho (fun q => q) ht hm] at this
      cases this
      exact e'
    have tbB : ∀ a, Tb a → ∃ o, base.get? a = some o := fun a t => by
      rcases t with rfl | rfl
      · obtain ⟨ps, e1, _⟩ := ht1; exact ⟨_, e1⟩
      · obtain ⟨ps, e1, _⟩ := ht2; exact ⟨_, e1⟩
    obtain ⟨⟨hy, tky, rfl⟩, ext, mono, wd, fresh⟩ := y
    refine h _ ⟨⟨h', tky, rfl⟩, ⟨fun a o ho => ?_, fun a o ho m t => ?_, fun a o ho m t f => f1 a o (inB a o ho f t)⟩, mono, ⟨wd.base, fun a o ha => f1 a o (hgb a o ha), wd.nt, ht1.to (fun _ _ q => q) (f1 _), ht2.to (fun _ _ q => q) (f1 _)⟩, fresh⟩ ⟨base, a0, l, hl, ⟨⟨f1, f2, f3, f4⟩, ht1, ht2, hgb⟩, fun a o ho hn => ?_⟩
    · by_cases t : Tb a
      · obtain ⟨o', e'⟩ := tbB a t
        exact ⟨o', f1 a o' e'⟩
      · by_cases q : a ∈ fsOf A
        · obtain ⟨sl, e1⟩ := ext.slots a o ho (fun q => q) t
          obtain ⟨_, ob, es, ep, e2, e3⟩ := ok.frame q
          rw [ho] at e2; cases e2
          obtain ⟨sl', e4⟩ := up a _ e1 (fun vs q => by rw [e3] at q; cases q)
          exact ⟨_, e4⟩
        · exact ⟨o, f1 a o (inB a o ho q t)⟩
    · by_cases q : a ∈ fsOf A
      · obtain ⟨sl, e1⟩ := ext.slots a o ho m t
        obtain ⟨_, ob, es, ep, e2, e3⟩ := ok.frame q
        rw [ho] at e2; cases e2
        obtain ⟨sl', e4⟩ := up a _ e1 (fun vs q => by rw [e3] at q; cases q)
        exact ⟨sl', e4⟩
      · exact ⟨o.slots, f1 a o (inB a o ho q t)⟩
    · by_cases t : Tb a
      · exact tbB a t
      · exact ⟨o, inB a o ho hn t⟩
  rcases h5 with ⟨oe, vs, e1, e2, e3, e4, e5⟩ | ht
  · refine wpAny_leaving_firstW hfr h4 hf e1 h2 h3 e3 e4 e5 fun h' hL' => ?_
    obtain ⟨k1, ⟨_, _, k2⟩, k3, k4⟩ := hL'
    rw [e2] at k3
    exact fin h' ⟨k1, h3, k2, k3⟩ k4
  · exact wpAny_leaves_onW hfr hf ⟨h2, h3, h4, ht⟩ fun h' fl up => fin h' fl up

noncomputable def FR.back : FR → R
  | .ret p => .ok p
  | .next _ => .ok .none
  | .exc => .exc
  | .stuck => .stuck
noncomputable def retD (k j : Nat) (F : SD) : PV → R := fun p => if p.len = k then (F (p.items ++ List.replicate j .nil)).back else .stuck
theorem cs_def {f : Addr} {ps rest : List Str} {body : List Stmt} {F : SD} (hf : FnIs (KF C.w) f ps body sc) (hb : BSound C n sc (ps ++ rest) body F) (hk : sc.kind = .function) (hco : sc.isCoroutine = false) (hgen : sc.isGenerator = false)
    (hps : ps.Nodup) (hkind : ps.all (bindable sc) = true) (hfree : sc.names.all (fun p => p.2 != .free) = true) : CSound C (n + 1) (.ref f) (retD ps.length rest.length F) := fun A g s Q E p vs ok hr h => by
  obtain ⟨oc, od, osl, fd, e1, e2, e3, e4, e5, e6, e7, e9, e8⟩ := hf
  subst e3
  have X := ok.wd.kin
  have hrow := RepL.row hr
  unfold retD at h
  by_cases hl : p.len = ps.length
  · rw [if_pos hl] at h
    have hvl : vs.length = ps.length := by rw [hrow.2, hl]
    have hlim : s.heap.NoLimit := C.top.nolimit.keeps fun a o q => ok.wd.sub _ _ (ok.wd.base a o q)
    refine wpAny_call (codeAny_call_function ok.room.depth_lt (X _ _ e1) rfl hco hgen e2 (codeRec_of X e7) ?_)
    rw [e8 vs hvl, e5]
    refine wpAny_pure (wpAny_newFunctionEnv_cells hk (fun b hb => ?_) fun env he s' x => ?_)
    · have hb1 := List.all_eq_true.mp hkind b.1 (zip_fst hb)
      rcases Bool.or_eq_true_iff.mp hb1 with q | q
      · exact .inl (beq_iff_eq.mp q)
      · exact .inr ⟨beq_iff_eq.mp q, cellsFrom_some _ _ _ (.inl (beq_iff_eq.mp q))⟩
    have hL : env.locals = s.heap.objs.size := by rw [he]; rfl
    have hfr : env.frame = some env.locals := by rw [he]; rfl
    have hsc : env.scope = fd.scope := by rw [he]; rfl
    have hgl : env.globals = mainGlobals := by rw [he]; exact e4
    have hbl : env.builtins = builtinsNs := by rw [he]; exact e6
    have hcl : env.cells = cellsFrom (s.heap.objs.size + 1) fd.scope.names [] := by rw [he]; rfl
    obtain ⟨h1, tk, rfl, kk⟩ := x.done
    refine ⟨hlim.keeps kk, codeAny_func ?_⟩
    obtain ⟨l, hl0, hfro⟩ := ok.frames
    have hnew : s.heap.get? env.locals = none := by rw [hL]; exact heap_new _
    obtain ⟨oL, esL, epL, eL, dL, _⟩ := id x.toInCall.ns
    have wd1 : Wd C g h1 := ok.wd.grow kk
    have fresh : ∀ a, s.heap.objs.size ≤ a → s.heap.get? a = none := fun a ha => Heap.get?_none_of_le ha
    have gnone : ∀ a, s.heap.objs.size ≤ a → g a = none := fun a ha => ok.wd.none_new (fresh a ha)
    have tnone : ∀ a, s.heap.objs.size ≤ a → ¬ Tb a := fun a ha t => by
      obtain ⟨o, e⟩ := ok.wd.tb_live t
      rw [fresh a ha] at e; cases e
    have hroom : Room n (A.deeper env) := by
      refine ⟨ok.room.calm, ?_, ?_⟩
      · have := ok.room.depth; show A.depth + 1 + n < 900; omega
      · have := ok.room.units; show A.units + 3 + 20 * n < 9000; omega
    have fro : FrOk g h1 (env :: l) := by
      refine ⟨?_, ⟨env.locals, oL, hfr, gnone _ (Nat.le_of_eq hL.symm), eL, _, _, dL⟩, ?_⟩
      · rw [hsc, hk]; decide
      · exact FrOk.after (fun a ha _ => ha) (fun env' _ L o es ep _ ho _ hd => ⟨o, es, ep, kk _ _ ho, hd⟩) hfro
    have okc : OkC C n (A.deeper env) g { s with heap := h1, toks := tk } := ⟨wd1, hroom, env :: l, Around.frames_deeper hl0, fro⟩
    have entry : Entry env s := ⟨hnew, fun z c hz => by have := x.above z c (mem_of_lookup hz); rw [hL] at this; exact Heap.get?_none_of_le (Nat.le_of_lt this), Nat.le_of_eq hL.symm⟩
    have hvars : VarsOk env (bindL env.kindOf (ps.zip vs) fun _ => none) g h1 (ps ++ rest) (p.items ++ List.replicate rest.length .nil) := by
      refine VarsOk.init (fun z v hz => ?_) (RepL.list hr) hvl.symm
      obtain ⟨b1, b2⟩ := bind_at (kindOf := env.kindOf) (m := fun _ => none) (cm := fun _ => none) hps hz
      have hb1 := List.all_eq_true.mp hkind z (zip_fst hz)
      rcases Bool.or_eq_true_iff.mp hb1 with q | q
      · have hk1 : env.kindOf z = some .local := by unfold Env.kindOf; rw [hsc]; exact beq_iff_eq.mp q
        exact .inl ⟨hk1, b1 hk1⟩
      · have hk1 : env.kindOf z = some .cell := by unfold Env.kindOf; rw [hsc]; exact beq_iff_eq.mp q
        have hc : (env.cells.lookup z).isSome = true := by rw [hcl]; exact cellsFrom_some _ _ _ (.inl (beq_iff_eq.mp q))
        obtain ⟨c, hc⟩ := Option.isSome_iff_exists.mp hc
        have hcell := x.cell z c hc
        rw [b2 (by rw [hk1]; decide)] at hcell
        exact .inr ⟨.inl hk1, c, hc, hcell⟩
    have okb : Ok C n (A.deeper env) fd.scope (ps ++ rest) env g (p.items ++ List.replicate rest.length .nil) { s with heap := h1, toks := tk } := by
      refine ⟨okc, by rw [he]; exact e9, hsc, hk, hgl, hbl, gnone _ (Nat.le_of_eq hL.symm), tnone _ (Nat.le_of_eq hL.symm), fun z c hz => ?_, fun z z' c hz hz' => name_of_addr x.apart (mem_of_lookup hz) (mem_of_lookup hz'), fun z hz => ?_, _, x.toInCall.ns, hvars⟩
      · have hlt := x.above z c (mem_of_lookup hz)
        have hle : s.heap.objs.size ≤ c := by rw [hL] at hlt; exact Nat.le_of_lt hlt
        exact ⟨gnone c hle, tnone c hle, Nat.ne_of_gt hlt, _, x.cell z c hz⟩
      · rcases hz with hz | hz
        · rw [hcl]; exact cellsFrom_some _ _ _ (.inl hz)
        · have := List.all_eq_true.mp hfree _ (mem_of_lookup hz)
          simp at this
    have hfs : fsOf (A.deeper env) = env.locals :: fsOf A := fsOf_deeper hl0 hfr
    have start : After C NoMu (fsOf (A.deeper env)) g s g { s with heap := h1, toks := tk } := After.grow ok.wd kk
    refine hb (A.deeper env) env g s g _ _ _ _ okb entry start ?_
    cases hF : F (p.items ++ List.replicate rest.length .nil) with
    | next ρ' =>
      rw [hF] at h
      exact fun g' s' y _ _ => h _ g' s' ((hfs ▸ y).less hnew) rfl
    | ret q =>
      rw [hF] at h
      exact fun v g' s' y hv => h v g' s' ((hfs ▸ y).less hnew) hv
    | exc =>
      rw [hF] at h
      exact fun e g' s' y hr => leave_ok (E' := E) ok hl0 hfr hnew (hfs ▸ y) hr fun s2 y2 fl => h e g' s2 y2 fl
    | stuck => rw [hF] at h; exact h.elim
  · rw [if_neg hl] at h; exact h.elim
end Mine
end

/-! ## F12 -/
section
open PySem PySem.W PyProof.Rows PySem.Calls PySem.SeqAt
set_option maxRecDepth 100000
set_option maxHeartbeats 4000000
set_option linter.unusedVariables false
namespace Mine

abbrev bm52 : List Value := [.ref 39, .type "Exception", .type "BaseException", .type "object"]
abbrev obj52 : Obj := excClassObj "OperandError" "OperandError" 52 51 [.ref 39] bm52 true [] [] false none none (some (.ref 43)) none (some (.str "OperandError" 227)) (some (.str "OperandError" 235)) (some (.bool true)) "Exception.__new__"
theorem kf_52 (w : World) : (KF w).lookup 52 = some obj52 := by kernel_rfl
theorem kf_52init (w : World) : findIn (KF w) (.ref 52) "__init__" = some (some (.ref 29)) := by kernel_rfl
theorem kf_29fn (w : World) : typeIn (KF w) (.ref 29) = some (.type "function") := by kernel_rfl
abbrev excObj (t : Addr) : Obj := { cls := .ref 52, data := .fields #[.ref t, .none, .none, .none, .bool false, .none] }

section
variable {prog : Program} {w : World} {A : Around} {R : Result → Shared → Prop} {h : Heap} {g : Array GenState} {d : Drawn} {t : Nat} {os : OsState}
theorem exc_check_new {M : Model} {E : Value → Shared → Prop} {rest : List Value} {Q : Unit → Shared → Prop} (hC : h.get? 52 = some obj52)
    (hq : Q () ⟨h, g, d, t, os⟩) : wpAny M A (checkBuiltinCall "Exception.__new__" ⟨.ref 52 :: rest, []⟩) Q E ⟨h, g, d, t, os⟩ := by
  have F := PySem.F.excBase_Exception
  have hcont : (Value.ref 52 :: bm52).contains (.type "Exception") = true := by decide +kernel
  have hstar := F.noStar
  simp only [checkBuiltinCall, F.newKind, F.newSplit, F.newRow]
  repeat (first | refine wpAny_loadPart_at hC ?_ | (refine wpAny_isSubtype_exc hC ?_; rw [hcont]) | refine wpAny_staticBase_exc hC ?_ | refine wpAny_madeBy_exc hC ?_ | simp only [bne_self_eq_false, Bool.false_eq_true, if_false] | wp_step)
  exact hq
theorem exc_new {rest : List Value} (hC : h.get? 52 = some obj52)
    (hq : R (.ok (.ret (.ref (h.objs.size + 1)))) ⟨(h.push { cls := .type "tuple", data := .seq rest.toArray }).push (excObj h.objs.size), g, d, t, os⟩) (hrest : rest.length ≤ sizeLine) :
    codeAny (model prog w) A (.builtin "Exception.__new__" ⟨.ref 52 :: rest, []⟩) R ⟨h, g, d, t, os⟩ := by
  have F := PySem.F.excBase_Exception
  have hends := F.ends
  have hcB : (Value.ref 52 :: bm52).contains (.type "Exception") = true := by decide +kernel
  have hcA : (Value.ref 52 :: bm52).contains (.type "AttributeError") = false := by decide +kernel
  have hcN : (Value.ref 52 :: bm52).contains (.type "NameError") = false := by decide +kernel
  refine codeAny_builtinAt F.entry ?_
  unfold Builtin.«BaseException.__new__»
  refine PySem.wpAt_bind ?_
  show PySem.wpAt _ _ _ (stack >>= _) _ _ _
  refine PySem.wpAt_bind (PySem.wpAt_stack fun p below => PySem.wpAt_of_wpAny ?_)
  wp_walk
  refine PySem.wpAt_of_wpAny ?_
  rw [F.owner]
  repeat (first | with_reducible refine wpAny_madeHere_exc F.canon hC ?_ | with_reducible refine wpAny_loadPart_at hC ?_ | (with_reducible refine wpAny_isSubtype_exc hC ?_; first | rw [hcB] | rw [hcA] | rw [hcN]) | wp_step)
  show R _ _
  rw [Heap.size_push]
  exact hq

/-- what making an exception has laid when its __init__ is called -/
abbrev excHeap (h : Heap) (rest : List Value) : Heap := (h.push { cls := .type "tuple", data := .seq rest.toArray }).push (excObj h.objs.size)
theorem exc_type_call {E : Value → Shared → Prop} {v : Value} {Q : Fin → Shared → Prop} (X : (KF w).In h)
    (hq : wpAny (model prog w) A (call (.ref 29) [.ref (h.objs.size + 1), v]) (fun r s' => r = .none ∧ Q (.done (.ret (.ref (h.objs.size + 1)))) s') E ⟨excHeap h [v], g, d, t, os⟩) :
    wpAny (model prog w) A (Builtin.«type.__call__» ⟨.ref 52 :: [v], []⟩) Q E ⟨h, g, d, t, os⟩ := by
  have F := PySem.F.excBase_Exception
  have hC : h.get? 52 = some obj52 := X 52 _ (kf_52 w)
  repeat (first | with_reducible refine wpAny_loadPart_at hC ?_ | with_reducible refine wpAny_madeBy_exc hC ?_ | wp_step)
  refine codeAny_call_builtin_code (Code.quiet_builtin _ F.quiet) (exc_check_new hC ?_)
  refine exc_new hC ?_ (by rw [sizeLine_eq]; exact Nat.le_of_ble_eq_true rfl)
  show wpAny _ _ _ _ _ _
  have kk : ∀ b o, h.get? b = some o → (excHeap h [v]).get? b = some o := fun b o e => Heap.get?_push_of_some _ (Heap.get?_push_of_some _ e)
  have hC₁ := kk _ _ hC
  have X₁ : (KF w).In (excHeap h [v]) := fun a o e => kk _ _ (X a o e)
  have hget : (excHeap h [v]).get? (h.objs.size + 1) = some (excObj h.objs.size) := by heap_get
  have hcC : (Value.ref 52 :: bm52).contains (.ref 52) = true := by decide +kernel
  unfold isInstance
  repeat (first | with_reducible refine wpAny_loadPart_at hget ?_ | (with_reducible refine wpAny_isSubtype_exc hC₁ ?_; rw [hcC]) | wp_step)
  show wpAny _ _ (typeLookup (.ref 52) "__init__") _ _ _
  refine (looks_findIn X₁ (kf_52init w)).here ?_
  refine wpAny_holding (wpAny_bind ((bind_fn X₁ _ (kf_29fn w)).here ?_))
  dsimp only
  refine wpAny_bind (wpAny_mono hq (fun r s' hr => ?_) fun _ _ e => e)
  obtain ⟨rfl, hr⟩ := hr
  refine wpAny_pure ?_
  dsimp only
  exact wpAny_pure hr
theorem exc_call {E : Value → Shared → Prop} {v : Value} {Q : Value → Shared → Prop} (X : (KF w).In h)
    (hq : wpAny (model prog w) (A.under (.builtin "type.__call__" ⟨.ref 52 :: [v], []⟩)) (call (.ref 29) [.ref (h.objs.size + 1), v]) (fun r s' => r = .none ∧ Q (.ref (h.objs.size + 1)) s') E ⟨excHeap h [v], g, d, t, os⟩) :
    wpAny (model prog w) A (call (.ref 52) [v]) Q E ⟨h, g, d, t, os⟩ := by
  have hC : h.get? 52 = some obj52 := X 52 _ (kf_52 w)
  have f1 := tc_lookup
  have f2 := tc_bind (.ref 52)
  have hT : (⟨h, g, d, t, os⟩ : Shared).TypeIs (.ref 52) "type" := ⟨_, hC, rfl⟩
  refine wpAny_call (codeAny_of_tree ?_)
  show wpAny _ _ (callAny (.ref 52) _) _ _ _
  repeat (any_goals (first | assumption | with_reducible refine wpAny_loadPart_at hC ?_ | wp_step))
  refine ⟨rfl, ?_⟩
  refine codeAny_call_builtin_at (Code.quiet_builtin _ (by decide +kernel)) entry_typeCall (wpAny_check_type_call_sub hC ?_)
  exact exc_type_call X hq
end

/-! ### the body of __init__ -/
theorem kf_exc_init (w : World) : findCls (KF w) (.type "Exception") (.type "type") "__init__" = some (.val (.builtin "Exception.__init__")) := by kernel_rfl
theorem kf_52setattr (w : World) : findIn (KF w) (.ref 52) "__setattr__" = some (some (.builtin "object.__setattr__")) := by kernel_rfl
theorem kf_52what (w : World) : findIn (KF w) (.ref 52) "what" = some none := by kernel_rfl
theorem kf_52at (w : World) : findIn (KF w) (.ref 52) "at" = some none := by kernel_rfl
end Mine
end

/-! ## F13 -/
section
open PySem PySem.W PyProof.Rows PySem.Calls PySem.SeqAt Builtin Builtin.ObjectAttr
set_option maxRecDepth 100000
set_option maxHeartbeats 4000000
set_option linter.unusedVariables false
namespace Mine

theorem kf_52cls (w : World) : clsIn (KF w) 52 = some { name := "OperandError", bases := [.ref 39], mro := .ref 52 :: bm52, ns := 51, qualname := "OperandError" } := by kernel_rfl
theorem kf_52mro (w : World) : mroIn (KF w) 52 (.type "object") = some true := by kernel_rfl
section
variable {prog : Program} {w : World} {A : Around} {h : Heap} {g : Array GenState} {d : Drawn} {t : Nat} {os : OsState}

theorem exc_set {E : Value → Shared → Prop} {x : Addr} {mA : Str → Option Value} {name : Str} {v : Value} {Q : Unit → Shared → Prop} {ns : List Str} (X : (KF w).In h) (hname : findIn (KF w) (.ref 52) name = some none)
    (I : h.Inst x 52 mA)
    (hq : ∀ h' tk', h'.Inst x 52 (fun y => if y = name then some v else mA y) →
      (∀ b o, b ≠ x → (∀ o₀ dx, h.get? x = some o₀ → o₀.dict = some dx → b ≠ dx) → h.get? b = some o → h'.get? b = some o) →
      (∀ o₀, h.get? x = some o₀ → ∃ o₁, h'.get? x = some o₁ ∧ o₁.cls = o₀.cls ∧ o₁.data = o₀.data ∧ ∀ dx, o₁.dict = some dx → o₀.dict = some dx ∨ h.get? dx = none) → Q () ⟨h', g, d, tk', os⟩) (hw : Within mA ns) (hsz : ns.length ≤ 1000) :
    wpAny (model prog w) A (setAttr (.ref x) name v) Q E ⟨h, g, d, t, os⟩ := by
  obtain ⟨o, hx, hc, hnc, hd⟩ := I
  have SF := PySem.F.store_object
  have L0 : Looks (model prog w) h (typeOf (.ref x)) (.ref 52) := hc ▸ (Looks.ld hx).andThen .now
  refine wpAny_bind (wpAny_mkText (wpAny_bind (wpAny_bind (wpAny_bind (L0.here ((looks_findIn X (kf_52setattr w)).here (wpAny_holding ?_)))))))
  rw [SF.slot.bind]
  refine wpAny_bind (wpAny_pure (wpAny_bind (wpAny_call ?_)))
  have sub : Looks (model prog w) h (isInstance (.ref x) (.type "object")) true := L0.andThen (looks_mroIn X (kf_52mro w))
  refine codeAny_call_builtin SF.slot.plain SF.entry (@check_slot (model prog w) _ _ ⟨h, g, d, t + 1, os⟩ "object.__setattr__" "object" "__setattr__" (.ref x) [.str name t, v] [] _ SF.kind SF.split sub (SF.args (.ref x) (.str name t) v) ?_)
  have hm : Looks (model prog w) h (mroOf (.ref 52)) (.ref 52 :: bm52) := (looks_clsIn X (kf_52cls w)).andThen .now
  show wpAny _ _ (Builtin.«object.__setattr__» ⟨[.ref x, .str name t, v], []⟩) _ _ _
  rw [osa_eq, refuse_eq]
  refine wpAny_bind (wpAny_bind (L0.here (wpAny_bind (hm.here ?_))))
  rw [refuseLoop_ref, refuseLoop_ref, PySem.F.store_Exception.passes]
  refine wpAny_pure (wpAny_bind (L0.here (wpAny_bind ((looks_findIn X hname).here (wpAny_bind (wpAny_pure ?_))))))
  dsimp only
  unfold storeInOwnDict ownStreamTells ownDictForStores instanceDict
  refine wpAny_bind (wpAny_pure (wpAny_bind ?_))
  dsimp only
  refine wpAny_bind (wpAny_loadPart hx ?_)
  rw [hc]
  dsimp only
  refine wpAny_bind ((looks_clsIn X (kf_52cls w)).here ?_)
  dsimp only
  rw [if_neg (by decide)]
  rcases hd with ⟨hdn, hmA⟩ | ⟨dx, hdx, hne, hns⟩
  · rw [hdn]
    dsimp only
    rw [if_neg (by simp [typeHasDict])]
    split
    · rename_i c hcd
      exact absurd hcd (hnc c)
    · have hx₁ : (h.push { cls := .type "dict", data := .dict #[] }).get? x = some o := Heap.get?_push_of_some _ hx
      have hxs : x ≠ h.objs.size := Nat.ne_of_lt (Heap.lt_size hx)
      refine wpAny_bind (wpAny_alloc ?_)
      refine wpAny_bind (wpAny_update hx₁ ?_)
      have hgd : ((h.push { cls := .type "dict", data := .dict #[] }).update x fun o => { cls := o.cls, dict := some h.objs.size, data := o.data, slots := o.slots }).get? h.objs.size
          = some { cls := .type "dict", data := .dict #[] } :=
        (Heap.get?_update_other _ _ hxs).trans (Heap.get?_push_at rfl rfl)
      have hnd : ((h.push { cls := .type "dict", data := .dict #[] }).update x fun o => { cls := o.cls, dict := some h.objs.size, data := o.data, slots := o.slots }).Ns h.objs.size (fun _ => none) :=
        ⟨_, #[], _, hgd, rfl, fun e he => absurd he (by simp), fun _ => rfl⟩
      refine wpAny_pure ?_
      show wpAny _ _ (storeInDict h.objs.size (.str name t) name v) _ _ _
      unfold storeInDict newKeyGuard
      refine wpAny_bind (wpAny_pure (wpAny_bind (wpAny_nsSet1 (Heap.Ns1.of_empty hnd) fun h' hn' hs => ?_)))
      obtain ⟨oD, esD, epD, hoD, hdD, hcD⟩ := hn'.count (Within.cons name v Within.nil)
      refine wpAny_bind (wpAny_lookBehind hoD (by rw [hdD]; exact pastItsLine_dict (Nat.le_trans hcD (by rw [List.length_cons, List.length_nil, sizeLine_eq]; omega))) ?_)
      have hx' : h'.get? x = some { cls := o.cls, dict := some h.objs.size, data := o.data, slots := o.slots } := by
        refine (hs.2 x hxs).trans (Heap.get?_update_self _ hx₁ ?_)
        have hfr := (Heap.get?_some_iff.mp hx).2
        obtain ⟨oc, od, odt, osl⟩ := o
        cases odt <;> first | rfl | exact hfr
      refine wpAny_pure (wpAny_pure (wpAny_pure (hq h' _ ⟨{ cls := o.cls, dict := some h.objs.size, data := o.data, slots := o.slots }, hx', hc, hnc, .inr ⟨h.objs.size, rfl, hxs.symm, ?_⟩⟩ (fun b ob hbx _ hb => ?_)
        (fun o₀ h₀ => by obtain rfl : o = o₀ := Option.some.inj (hx.symm.trans h₀); exact ⟨_, hx', rfl, rfl, fun dx e => by cases e; exact .inr (Heap.get?_none_of_le (Nat.le_refl _))⟩))))
      · obtain ⟨o', es, ep, e1, e2, e3, eu, e4⟩ := hn'
        exact ⟨o', es, ep, e1, e2, e3, eu, fun y => by rw [e4 y]; by_cases hy : y = name <;> simp [hy, hmA]⟩
      · exact (hs.2 b (Nat.ne_of_lt (Heap.lt_size hb))).trans ((Heap.get?_update_other _ _ (Ne.symm hbx)).trans (Heap.get?_push_of_some _ hb))
  · rw [hdx]
    refine wpAny_pure ?_
    show wpAny _ _ (storeInDict dx (.str name t) name v) _ _ _
    unfold storeInDict newKeyGuard
    refine wpAny_bind (wpAny_pure (wpAny_bind (wpAny_nsSet1 hns fun h' hn' hs => ?_)))
    obtain ⟨oD, esD, epD, hoD, hdD, hcD⟩ := hn'.count (Within.cons name v hw)
    refine wpAny_bind (wpAny_lookBehind hoD (by rw [hdD]; exact pastItsLine_dict (Nat.le_trans hcD (by rw [List.length_cons, sizeLine_eq]; omega))) ?_)
    refine wpAny_pure (wpAny_pure (wpAny_pure (hq h' _ ⟨o, (hs.2 x hne.symm).trans hx, hc, hnc, .inr ⟨dx, hdx, hne, hn'⟩⟩ (fun b ob _ hbd hb => ?_)
      (fun o₀ h₀ => ⟨o₀, (hs.2 x hne.symm).trans h₀, rfl, rfl, fun _ e => .inl e⟩))))
    exact (hs.2 b (hbd o dx hx hdx)).trans hb
end
end Mine
end

/-! ## F14 -/
section
open PySem PySem.W PyProof.Rows PySem.Calls PySem.SeqAt
set_option maxRecDepth 100000
set_option maxHeartbeats 4000000
set_option linter.unusedVariables false
namespace Mine
variable {C : Cx} {n : Nat}
noncomputable def bodyIn (K : Frag) (f : Addr) : List Stmt := match K.lookup f with
  | some ⟨_, _, .func fd, _⟩ => (match fd.body with | .stmts b => b | _ => [])
  | _ => []
noncomputable def scopeIn (K : Frag) (f : Addr) : Scope := match K.lookup f with
  | some ⟨_, _, .func fd, _⟩ => fd.scope
  | _ => default

theorem fn29 (w : World) : ∃ oc od osl fd, (KF w).lookup 29 = some ⟨oc, od, .func fd, osl⟩ ∧ fd.body = .stmts (bodyIn (KF w) 29) ∧ fd.scope = scopeIn (KF w) 29 ∧ fd.globals = mainGlobals ∧ fd.closure = [] ∧ fd.builtins = builtinsNs ∧ codeIn (KF w) fd.code fd.qualname = true ∧
    ∀ (s : Shared) (v1 v2 : Value), s.heap.get? 22 = some { cls := .type "tuple", data := .seq #[.none] } → BindsTo s fd ⟨[v1, v2], []⟩ [("self", v1), ("what", v2), ("at", .none)] := by
  refine ⟨_, _, _, _, rfl, rfl, rfl, rfl, rfl, rfl, ?_, ?_⟩
  · kernel_rfl
  · intro s v1 v2 ho
    exact BindsTo.of_defaults rfl ho rfl rfl rfl
theorem kf_22 (w : World) : (KF w).lookup 22 = some { cls := .type "tuple", data := .seq #[.none] } := by kernel_rfl
theorem under_tc (A : Around) (a : Addr) (rest : List Value) : (A.under (.builtin "type.__call__" ⟨.ref a :: rest, []⟩)).depth ≤ A.depth + 1 ∧ (A.under (.builtin "type.__call__" ⟨.ref a :: rest, []⟩)).units ≤ A.units + 20 ∧ (A.under (.builtin "type.__call__" ⟨.ref a :: rest, []⟩)).handled = A.handled ∧
    (∀ l, A.frames = some l → (A.under (.builtin "type.__call__" ⟨.ref a :: rest, []⟩)).frames = some l) := by
  refine ⟨?_, ?_, rfl, ?_⟩
  · show A.depth + (Code.builtin "type.__call__" ⟨.ref a :: rest, []⟩).weight ≤ _
    have : (Code.builtin "type.__call__" ⟨.ref a :: rest, []⟩).weight = 1 := by kernel_rfl
    omega
  · show A.units + (Code.builtin "type.__call__" ⟨.ref a :: rest, []⟩).cUnits ≤ _
    have : (Code.builtin "type.__call__" ⟨.ref a :: rest, []⟩).cUnits ≤ 20 := by
      have : (Code.builtin "type.__call__" ⟨.ref a :: rest, []⟩).cUnits = 1 := by kernel_rfl
      omega
    omega
  · intro l hl
    unfold Around.under
    dsimp only
    rw [hl]; rfl

/-- a call of a function of the top, down to its body -/
theorem fn_run {A : Around} {s : Shared} {R : Result → Shared → Prop} {f : Addr} {oc : Value} {od : Option Addr} {osl : Array (Option Value)} {fd : FuncData} {body : List Stmt} {args : Args} {binds : List (Str × Value)} (X : (KF C.w).In s.heap) (hlim : s.heap.NoLimit) (hd : A.depth < recursionLimit)
    (e1 : (KF C.w).lookup f = some ⟨oc, od, .func fd, osl⟩) (e2 : fd.body = .stmts body) (e4 : fd.globals = mainGlobals) (e5 : fd.closure = []) (e6 : fd.builtins = builtinsNs) (e7 : codeIn (KF C.w) fd.code fd.qualname = true) (hb : BindsTo s fd args binds)
    (hk : fd.scope.kind = .function) (hco : fd.scope.isCoroutine = false) (hgen : fd.scope.isGenerator = false) (hcell : ∀ x ∈ fd.scope.names, x.2 ≠ .cell) (hloc : ∀ x ∈ binds, fd.scope.names.lookup x.1 = some .local)
    (h : ∀ env h1 tk, env.scope = fd.scope → env.globals = mainGlobals → env.builtins = builtinsNs → env.locals = s.heap.objs.size → h1.Ns s.heap.objs.size (fun x => binds.reverse.lookup x) → (∀ a o, s.heap.get? a = some o → h1.get? a = some o) →
      wpAny C.M (A.deeper env) (execs body env) (fun f s' => R (.ok (.ret (match f with | .ret v => v | _ => .none))) s') (fun _ _ => False) { s with heap := h1, toks := tk }) :
    codeAny C.M A (.call (.ref f) args) R s := by
  refine codeAny_call_function hd (X _ _ e1) rfl hco hgen e2 (codeRec_of X e7) (hb _ _ _ _ ?_)
  rw [e5]
  refine wpAny_newFunctionEnv hcell hloc (fun h1 hns hsb => ?_) hk
  have kk : ∀ a o, s.heap.get? a = some o → h1.get? a = some o := fun a o e => hsb.extBut a o (Nat.ne_of_lt (Heap.lt_size e)) (Heap.get?_push_of_some _ e)
  refine ⟨hlim.keeps kk, codeAny_func (wpAny_mono (h _ h1 _ rfl e4 e6 rfl hns kk) (fun _ _ x => x) fun _ _ x => x.elim)⟩
theorem local_load {M : Model} {A : Around} {env : Env} {sc : Scope} {E : Value → Shared → Prop} {s : Shared} {m : Str → Option Value} {L : Addr} {x : Str} {pos : Pos} {v : Value} {Q : Value → Shared → Prop} (hs : env.scope = sc) (hk : sc.kind = .function) (hL : env.locals = L) (hn : s.heap.Ns L m)
    (hx : sc.names.lookup x = some .local) (hv : m x = some v) (h : Q v s) (hd : (x == ("__debug__" : Str)) = false) : wpAny M A (eval (.Name x pos) env) Q E s := by
  subst hL
  exact wpAny_Name (wpAny_loadName_local (by rw [hs]; exact hk) (by unfold Env.kindOf; rw [hs]; exact hx) hn hv h) hd

theorem exc_check_init {M : Model} {A : Around} {h : Heap} {g : Array GenState} {d : Drawn} {t : Nat} {os : OsState} {E : Value → Shared → Prop} {e : Addr} {oe : Obj} {rest : List Value} {Q : Unit → Shared → Prop} (hC : h.get? 52 = some obj52) (he : h.get? e = some oe) (hcls : oe.cls = .ref 52)
    (hq : Q () ⟨h, g, d, t, os⟩) : wpAny M A (checkBuiltinCall "Exception.__init__" ⟨.ref e :: rest, []⟩) Q E ⟨h, g, d, t, os⟩ := by
  have F := PySem.F.excBase_Exception
  have hcB : (Value.ref 52 :: bm52).contains (.type "Exception") = true := by decide +kernel
  have hshort := F.noStar
  simp only [checkBuiltinCall, F.initKind, F.initSplit, F.initRow]
  repeat (first | (with_reducible refine wpAny_loadPart_at he ?_; rw [hcls]) | with_reducible refine wpAny_loadPart_at hC ?_ | (with_reducible refine wpAny_isSubtype_exc hC ?_; rw [hcB]) | wp_step)
  refine wpAny_onRaise ?_
  rw [show ∀ (a b : String) (n : Nat), Bind.check ⟨.positional, "*", "Exception", .self, [⟨"args", .varPos, false⟩]⟩ a b n (List.map (fun x => x.fst) ({ pos := Value.ref e :: rest } : Args).kw) = pure () from
    fun a b n => check_star_args _ _ _ _ _ _]
  exact wpAny_pure hq
/-- Exception.__init__(e, v) -/
theorem exc_base_init {A : Around} {h : Heap} {g : Array GenState} {d : Drawn} {t : Nat} {os : OsState} {E : Value → Shared → Prop} {e t0 : Addr} {v : Value} {Q : Value → Shared → Prop} (X : (KF C.w).In h) (he : h.get? e = some (excObj t0))
    (hq : ∀ h' t1, h'.get? e = some (excObj t1) → (∀ a o, a ≠ e → h.get? a = some o → h'.get? a = some o) → Q .none ⟨h', g, d, t, os⟩) :
    wpAny C.M A (call (.builtin "Exception.__init__") [.ref e, v]) Q E ⟨h, g, d, t, os⟩ := by
  have F := PySem.F.excBase_Exception
  have hC : h.get? 52 = some obj52 := X 52 _ (kf_52 C.w)
  refine wpAny_call (codeAny_call_builtin F.init.plain F.initEntry (exc_check_init hC he rfl ?_))
  wp_walk
  refine hq _ h.objs.size ?_ fun a o ha hb => ?_
  · rw [Heap.get?_update_self _ (Heap.get?_push_of_some _ he) rfl]
    rfl
  · rw [Heap.get?_update_other _ _ (Ne.symm ha)]
    exact Heap.get?_push_of_some _ hb
end Mine
end

/-! ## F15 -/
section
open PySem PySem.W PyProof.Rows PySem.Calls PySem.SeqAt
set_option maxRecDepth 100000
set_option maxHeartbeats 4000000
set_option linter.unusedVariables false
namespace Mine
variable {C : Cx} {n : Nat}

theorem sc29_kind (w : World) : (scopeIn (KF w) 29).kind = .function ∧ (scopeIn (KF w) 29).isCoroutine = false ∧ (scopeIn (KF w) 29).isGenerator = false := ⟨rfl, rfl, rfl⟩
theorem sc29_self (w : World) : (scopeIn (KF w) 29).names.lookup ("self" : Str) = some .local := by kernel_rfl
theorem sc29_what (w : World) : (scopeIn (KF w) 29).names.lookup ("what" : Str) = some .local := by kernel_rfl
theorem sc29_at (w : World) : (scopeIn (KF w) 29).names.lookup ("at" : Str) = some .local := by kernel_rfl
theorem sc29_exc (w : World) : (scopeIn (KF w) 29).names.lookup ("Exception" : Str) = some .globalImplicit := by kernel_rfl
theorem sc29_cell (w : World) : ∀ x ∈ (scopeIn (KF w) 29).names, x.2 ≠ .cell := by
  have h : ((scopeIn (KF w) 29).names.all fun x => x.2 != .cell) = true := by kernel_rfl
  intro x hx
  simpa using List.all_eq_true.mp h x hx
theorem kf_Exception (w : World) : nsIn (KF w) mainGlobals "Exception" = some none := by kernel_rfl

theorem boot_Exception : bootBuiltins "Exception" = some (.type "Exception") := (PyProof.Rows.excClass_Exception).boot
theorem meta_Exception : typeOf (.type "Exception") = pure (.type "type") := by rfl

theorem exc_made {A : Around} {g : GP} {s : Shared} {v : Value} {E : Value → Shared → Prop} {Q : Value → Shared → Prop} (ok : OkC C (n + 1) A g s)
    (hq : ∀ h' tk e oe t1, (∀ a o, s.heap.get? a = some o → h'.get? a = some o) → s.heap.get? e = none → h'.get? e = some oe → oe.cls = .ref 52 → oe.data = .fields #[.ref t1, .none, .none, .none, .bool false, .none] → Q (.ref e) { s with heap := h', toks := tk }) :
    wpAny C.M A (call (.ref 52) [v]) Q E s := by
  have X := ok.wd.kin
  obtain ⟨hh, gg, dd, tt, os⟩ := s
  obtain ⟨u1, u2, u3, u4⟩ := under_tc A 52 [v]
  refine exc_call X ?_
  generalize hA' : A.under (.builtin "type.__call__" ⟨.ref 52 :: [v], []⟩) = A' at u1 u2 u3 u4
  have k0 : ∀ a o, hh.get? a = some o → (excHeap hh [v]).get? a = some o := fun a o e => Heap.get?_push_of_some _ (Heap.get?_push_of_some _ e)
  have X1 : (KF C.w).In (excHeap hh [v]) := fun a o e => k0 _ _ (X a o e)
  have hlim : hh.NoLimit := C.top.nolimit.keeps fun a o q => ok.wd.sub _ _ (ok.wd.base a o q)
  have hG : hh.Ns mainGlobals C.mg := C.top.g.keeps fun a o q => ok.wd.sub _ _ (ok.wd.base a o q)
  have hB : hh.Ns builtinsNs C.mb := C.top.b.keeps fun a o q => ok.wd.sub _ _ (ok.wd.base a o q)
  have hget : (excHeap hh [v]).get? (hh.objs.size + 1) = some (excObj hh.objs.size) := by heap_get
  have hnew : hh.get? (hh.objs.size + 1) = none := Heap.get?_none_of_le (Nat.le_succ _)
  generalize hex : hh.objs.size + 1 = e at hget hnew ⊢
  generalize hht : hh.objs.size = t0 at hget
  obtain ⟨oc, od, osl, fd, e1, e2, e3, e4, e5, e6, e7, e8⟩ := fn29 C.w
  have hd1 : A'.depth < recursionLimit := by have := ok.room.depth; unfold recursionLimit; omega
  refine wpAny_call (fn_run (s := ⟨excHeap hh [v], gg, dd, tt, os⟩) X1 (hlim.keeps k0) hd1 e1 e2 e4 e5 e6 e7 (e8 _ (.ref e) v (X1 _ _ (kf_22 C.w))) (by rw [e3]; exact (sc29_kind _).1) (by rw [e3]; exact (sc29_kind _).2.1) (by rw [e3]; exact (sc29_kind _).2.2) (by rw [e3]; exact sc29_cell _) ?_ ?_)
  · rw [e3]
    intro x hx
    simp only [List.mem_cons, List.not_mem_nil, or_false] at hx
    rcases hx with rfl | rfl | rfl
    · exact sc29_self _
    · exact sc29_what _
    · exact sc29_at _
  intro env h1 tk1 q1 q2 q3 q4 hns k1
  rw [e3] at q1
  have hk : (scopeIn (KF C.w) 29).kind = .function := (sc29_kind _).1
  have he1 : h1.get? e = some (excObj t0) := k1 _ _ hget
  have kk1 : ∀ a o, hh.get? a = some o → h1.get? a = some o := fun a o q => k1 a o (k0 a o q)
  have X2 : (KF C.w).In h1 := fun a o q => k1 _ _ (X1 a o q)
  generalize hL : ({ heap := excHeap hh [v], gens := gg, drawn := dd, toks := tt, os := os } : Shared).heap.objs.size = L at q4 hns
  have hLe : L ≠ e := by
    intro q
    have := Heap.lt_size hget
    rw [← q, ← hL] at this
    exact Nat.lt_irrefl _ this
  generalize hm : (fun x => ([("self", Value.ref e), ("what", v), ("at", Value.none)] : List (Str × Value)).reverse.lookup x) = m at hns
  have m1 : m "self" = some (.ref e) := by subst hm; rfl
  have m2 : m "what" = some v := by subst hm; rfl
  have m3 : m "at" = some .none := by subst hm; rfl
  conv =>
    arg 3
    arg 1
    whnf
  have hi : interactive env = false := by unfold interactive; rw [q1, hk]; rfl
  -- Exception.__init__(self, what)
  refine wpAny_execs_cons (wpAny_Expr (hi := hi) ?_)
  have hkg : env.scope.kind = .function := by rw [q1]; exact hk
  have FR0 : Fr hh L h1 m := ⟨hns, kk1, by rw [← hL]; show hh.objs.size ≤ (excHeap hh [v]).objs.size; rw [Heap.size_push, Heap.size_push]; omega⟩
  refine methodCall_KW (Name_function_global hkg (by unfold Env.kindOf; rw [q1]; exact sc29_exc _) (loadGlobal_builtin (mg := C.mg) (mb := C.mb) (by rw [q2]; exact hG.keeps kk1) (C.mgn (kf_Exception _)) (by rw [q3]; exact hB.keeps kk1)
    ((C.top.builtins "Exception" (by decide)).trans boot_Exception) ?_))
  refine method_type FR0 X meta_Exception (by decide +kernel) (kf_exc_init C.w) rfl ?_
  refine Calls.callWith_builtin rfl (evalArgs_plain ?_)
  refine Calls.spliced_cons (local_load q1 hk q4 hns (sc29_self _) m1 ?_ rfl)
  refine Calls.spliced_cons (local_load q1 hk q4 hns (sc29_what _) m2 ?_ rfl)
  refine Calls.spliced_nil ?_
  show wpAny C.M (A'.deeper env) (call (.builtin "Exception.__init__") [.ref e, v]) _ _ _
  refine exc_base_init X2 he1 fun h2 t1 he2 k2 => ?_
  have kk2 : ∀ a o, hh.get? a = some o → h2.get? a = some o := fun a o q => k2 a o (fun z => by rw [z, hnew] at q; cases q) (kk1 a o q)
  have X3 : (KF C.w).In h2 := fun a o q => kk2 _ _ (X a o q)
  have hns2 : h2.Ns L m := by
    obtain ⟨oL, es, ep, z1, z2⟩ := hns
    exact ⟨oL, es, ep, k2 L oL hLe z1, z2⟩
  -- self.what = what
  refine wpAny_execs_cons (plainObj_wpAny_Assign_Attribute ?_)
  refine local_load q1 hk q4 hns2 (sc29_what _) m2 ?_ rfl
  refine local_load q1 hk q4 hns2 (sc29_self _) m1 ?_ rfl
  have I2 : h2.Inst e 52 (fun _ => none) := ⟨_, he2, rfl, (fun c z => by cases z), .inl ⟨rfl, fun _ => rfl⟩⟩
  refine exc_set (ns := []) X3 (kf_52what _) I2 (fun h3 tk3 I3 k3 s3 => ?_) Within.nil (by decide)
  obtain ⟨o3, he3, c3, d3, dict3⟩ := s3 _ he2
  have kk3 : ∀ a o, a ≠ e → h2.get? a = some o → h3.get? a = some o := fun a o ha z => k3 a o ha (fun o₀ dx z1 z2 => by rw [he2] at z1; cases z1; cases z2) z
  have kb3 : ∀ a o, hh.get? a = some o → h3.get? a = some o := fun a o q => kk3 a o (fun z => by rw [z, hnew] at q; cases q) (kk2 a o q)
  have X4 : (KF C.w).In h3 := fun a o q => kb3 _ _ (X a o q)
  have hns3 : h3.Ns L m := by
    obtain ⟨oL, es, ep, z1, z2⟩ := hns2
    exact ⟨oL, es, ep, kk3 L oL hLe z1, z2⟩
  -- self.at = at
  refine wpAny_execs_cons (plainObj_wpAny_Assign_Attribute ?_)
  refine local_load q1 hk q4 hns3 (sc29_at _) m3 ?_ rfl
  refine local_load q1 hk q4 hns3 (sc29_self _) m1 ?_ rfl
  refine exc_set (ns := ["what"]) X4 (kf_52at _) I3 (fun h4 tk4 I4 k4 s4 => ?_) (Within.cons "what" v Within.nil) (by decide)
  obtain ⟨o4, he4, c4, d4, dict4⟩ := s4 _ he3
  refine wpAny_execs_nil ?_
  refine ⟨rfl, ?_⟩
  have kb4 : ∀ a o, hh.get? a = some o → h4.get? a = some o := fun a o q => k4 a o (fun z => by rw [z, hnew] at q; cases q) (fun o₀ dx z1 z2 z3 => by
    rw [he3] at z1; cases z1
    rcases dict3 dx z2 with z | z
    · cases z
    · rw [← z3, kk2 a o q] at z; cases z) (kb3 a o q)
  exact hq h4 tk4 e o4 t1 kb4 hnew he4 (c4.trans (c3.trans rfl)) (d4.trans (d3.trans rfl))
end Mine
end

/-! ## F16 -/
section
open PySem PySem.W PyProof.Rows PySem.Calls PySem.SeqAt
set_option maxRecDepth 100000
set_option maxHeartbeats 4000000
set_option linter.unusedVariables false
namespace Mine
variable {C : Cx} {n : Nat} {sc : Scope} {names : List Str}

theorem raise_made {M : Model} {A : Around} {E : Value → Shared → Prop} {env : Env} {s : Shared} {x : Sem Value} {Q : Flow → Shared → Prop} (hh : A.handled = none)
    (h : wpAny M A x (fun v s₁ => ∃ e oe t1, v = .ref e ∧ s₁.heap.get? 52 = some obj52 ∧ s₁.heap.get? e = some oe ∧ oe.cls = .ref 52 ∧ oe.data = .fields #[.ref t1, .none, .none, .none, .bool false, .none] ∧ E (.ref e) s₁) E s) :
    wpAny M A (raiseStmt env (some x) none) Q E s := by
  have hcB : (Value.ref 52 :: bm52).contains (.type "BaseException") = true := by decide +kernel
  unfold raiseStmt
  refine wpAny_bind (wpAny_mono h (fun v s₁ h₁ => ?_) fun _ _ x => x)
  obtain ⟨e, oe, t1, rfl, hC, he, hc, hd, hE⟩ := h₁
  obtain ⟨oc, odi, oda, osl⟩ := oe
  dsimp only at hc hd
  subst hc hd
  obtain ⟨hp, g, d, tk, os⟩ := s₁
  repeat (first | with_reducible refine wpAny_loadPart_at he ?_ | with_reducible refine wpAny_loadPart_at hC ?_ | (with_reducible refine wpAny_isSubtype_exc hC ?_; rw [hcB]) | wp_step)
  exact wpAny_raiseNew_none hh hE

theorem FrOk.fun {g : GP} {h base : Heap} : ∀ {l : List Env}, FrOk g h l → (∀ L ∈ l.filterMap (·.frame), base.get? L = none) → h.FunFrames base l
  | [], _, _ => trivial
  | env :: r, ⟨h1, ⟨L, o, h2, h3, h4, es, ep, h5⟩, h6⟩, hb => by
    rw [List.filterMap_cons_some h2] at hb
    exact ⟨h1, ⟨L, o, h2, hb L List.mem_cons_self, h4, fun vs q => by rw [h5] at q; cases q⟩, FrOk.fun h6 fun L' hL' => hb L' (List.mem_cons_of_mem _ hL')⟩
theorem ss_Raise {x : Str} {np cpos pos : Pos} {arg : Expr} {f : ED} (hg : GlobIs C sc x (.ref 52)) (hk : KOk C (.ref 52)) (ha : ESound C (n + 1) sc names arg f)
    (he : ∀ env, starEach [arg] env = [(false, eval arg env)] := by intro _; rfl) :
    SSound C (n + 1) sc names (.Raise (some (.Call (.Name x np) [arg] [] cpos)) none pos) (fun ρ => (f ρ).toF fun _ => .exc) := fun A env g0 s0 g ρ s Q E ok en y hp => by
  rw [arm_exec_Raise]
  show wpAny C.M A (do standAt pos; raiseStmt env (some (do let v ← eval (.Call (.Name x np) [arg] [] cpos) env; standAt pos; pure v)) none) Q E s
  refine wpAny_bind (wpAny_standAt (raise_made ok.room.calm (wpAny_bind ?_)))
  refine wpAny_Call_ofName (hg (n + 1) names A env g ρ s np _ E ok ?_)
  refine callWith_sound hk (by rw [he]; rfl) rfl ?_
  refine wpAny_items_cons (he := by rw [he]; rfl) (ha A env g ρ s _ E ok (SPost.bind ok.toOkC y hp fun p v g1 s1 _ y1 hv hk1 => wpAny_items_nil ⟨(ok.after y1).wd.kin, ?_⟩))
  have ok1 := ok.after y1
  show wpAny C.M A (call (.ref 52) [v]) _ E s1
  refine exc_made ok1.toOkC fun h' tk e oe t1 kk hn he' hc hd => wpAny_bind (wpAny_standAt (wpAny_pure ⟨e, oe, t1, rfl, kk _ _ (ok1.wd.kin _ _ (kf_52 C.w)), he', hc, hd, ?_⟩))
  have y2 : After C NoMu (fsOf A) g1 s1 g1 { s1 with heap := h', toks := tk } := After.grow ok1.wd kk
  have y3 := (y.trans y1).trans y2
  obtain ⟨l, hl, hf⟩ := ok1.frames
  have hfs : fsOf A = l.filterMap (·.frame) := by unfold fsOf; rw [hl]; rfl
  have hfr : ∀ a ∈ fsOf A, ∃ o es ep, s1.heap.get? a = some o ∧ o.data = .dict es ep := fun a ha => (ok1.toOkC.frame ha).2
  have nfs : ∀ a, Tb a → a ∉ fsOf A := fun a t hm => by
    obtain ⟨o, es, ep, e1, e2⟩ := hfr a hm
    exact tabNoData ok1.wd e1 (fun vs q => by rw [e2] at q; cases q) t
  refine hk1 e g1 _ y3 ⟨hideAll s1.heap (fsOf A), .ref t1, l, hl, ⟨fun a o q => kk a o (of_hideAll _ q), ok1.wd.t1.to (fun _ _ q => q) (fun o q => hideAll_get _ q (nfs _ (.inl rfl))), ok1.wd.t2.to (fun _ _ q => q) (fun o q => hideAll_get _ q (nfs _ (.inr rfl))), fun a o q => hideAll_get _ (ok1.wd.sub a o q) fun hm => by rw [(ok1.toOkC.frame hm).1] at q; cases q⟩, ?_, ?_, .inl ⟨oe, _, he', hc, hd, rfl, rfl⟩, fun a o ha hna => ?_⟩
  · cases q : (hideAll s1.heap (fsOf A)).get? e with
    | none => rfl
    | some o => have := of_hideAll _ q; rw [hn] at this; cases this
  · refine FrOk.fun (g := g1) (FrOk.after (fun a ha _ => ha) (fun env' _ L o es ep _ ho _ hd => ⟨o, es, ep, kk _ _ ho, hd⟩) hf) fun L hL => hideAll_none _ (by rw [hfs]; exact hL)
  · obtain ⟨o', e1⟩ := (y.trans y1).ext.live a o ha
    exact ⟨o', hideAll_get _ e1 hna⟩
end Mine
end

/-! ## F17 -/
section
open PySem PySem.W PyProof.Rows PySem.Calls PySem.SeqAt
set_option maxRecDepth 100000
set_option maxHeartbeats 4000000
set_option linter.unusedVariables false
namespace Mine
variable {C : Cx} {n : Nat} {sc : Scope} {names : List Str}

theorem fn68 (w : World) : FnIs (KF w) 68 ["self", "name", "kind", "number", "size"] (bodyIn (KF w) 68) (scopeIn (KF w) 68) := by
  refine ⟨_, _, _, _, rfl, rfl, rfl, rfl, rfl, rfl, ?_, .none ?_ ?_, ?_⟩
  · kernel_rfl
  · kernel_rfl
  · kernel_rfl
  · intro vs h
    match vs, h with
    | [a, b, c, d, e], _ => rfl
theorem sc68_kind (w : World) : (scopeIn (KF w) 68).kind = .function ∧ (scopeIn (KF w) 68).isCoroutine = false ∧ (scopeIn (KF w) 68).isGenerator = false := ⟨rfl, rfl, rfl⟩
theorem sc68_self (w : World) : (scopeIn (KF w) 68).names.lookup ("self" : Str) = some .local := by kernel_rfl
theorem sc68_name (w : World) : (scopeIn (KF w) 68).names.lookup ("name" : Str) = some .local := by kernel_rfl
theorem sc68_kind' (w : World) : (scopeIn (KF w) 68).names.lookup ("kind" : Str) = some .local := by kernel_rfl
theorem sc68_number (w : World) : (scopeIn (KF w) 68).names.lookup ("number" : Str) = some .local := by kernel_rfl
theorem sc68_size (w : World) : (scopeIn (KF w) 68).names.lookup ("size" : Str) = some .local := by kernel_rfl
theorem sc68_cell (w : World) : ∀ x ∈ (scopeIn (KF w) 68).names, x.2 ≠ .cell := by
  have h : ((scopeIn (KF w) 68).names.all fun x => x.2 != .cell) = true := by kernel_rfl
  intro x hx
  simpa using List.all_eq_true.mp h x hx
theorem kf_makes (w : World) : makesIn (KF w) 106 = true := by kernel_rfl
theorem kf_106init (w : World) : findIn (KF w) (.ref 106) "__init__" = some (some (.ref 68)) := by kernel_rfl
theorem kf_68fn (w : World) : typeIn (KF w) (.ref 68) = some (.type "function") := by kernel_rfl
theorem kf_106set (w : World) : findIn (KF w) (.ref 106) "__setattr__" = some (some (.builtin "object.__setattr__")) := by kernel_rfl
theorem kf_106over (w : World) : plainOver (KF w) 106 = true := by kernel_rfl
theorem kf_tk_name (w : World) : takerIn (KF w) 106 "name" = some none := by kernel_rfl
theorem kf_tk_kind (w : World) : takerIn (KF w) 106 "kind" = some none := by kernel_rfl
theorem kf_tk_number (w : World) : takerIn (KF w) 106 "number" = some none := by kernel_rfl
theorem kf_tk_size (w : World) : takerIn (KF w) 106 "size" = some none := by kernel_rfl

noncomputable def regK : PV → R
  | .cons (.str nm) (.cons (.str k) (.cons (.int num) (.cons (.int size) .nil))) => .ok (.reg nm k num size)
  | _ => .stuck
theorem reg_made {A : Around} {g : GP} {s : Shared} {v1 v2 v3 v4 : Value} {E : Value → Shared → Prop} {Q : Value → Shared → Prop} (ok : OkC C (n + 1) A g s)
    (hq : ∀ h' tk x dx (es : List DictEntry) k, (∀ a o, s.heap.get? a = some o → h'.get? a = some o) → s.heap.get? x = none → s.heap.get? dx = none → x ≠ dx → h'.get? x = some (instObj 106 dx) → h'.get? dx = some (dictOf es k) →
      getL "name" es = some (some v1) → getL "kind" es = some (some v2) → getL "number" es = some (some v3) → getL "size" es = some (some v4) →
      getL "code" es = some none → getL "is_extended" es = some none → getL "is_high" es = some none → getL "needs_rex" es = some none → getL "told" es = some none → Q (.ref x) { s with heap := h', toks := tk }) :
    wpAny C.M A (call (.ref 106) [v1, v2, v3, v4]) Q E s := by
  have X := ok.wd.kin
  obtain ⟨hh, gg, dd, tt, os⟩ := s
  obtain ⟨u1, u2, u3, u4⟩ := under_tc A 106 [v1, v2, v3, v4]
  refine wpAny_call (make_core (makes_of X (kf_makes _)) (looks_findIn X (kf_106init _)) (fun self => bind_fn X self (kf_68fn _)) (.inl rfl) ?_)
  generalize hA' : A.under (.builtin "type.__call__" ⟨.ref 106 :: [v1, v2, v3, v4], []⟩) = A' at u1 u2 u3 u4
  have k0 : ∀ a o, hh.get? a = some o → ((hh.push emptyDict).push (instObj 106 hh.objs.size)).get? a = some o := fun a o e => Heap.get?_push_of_some _ (Heap.get?_push_of_some _ e)
  have X1 : (KF C.w).In ((hh.push emptyDict).push (instObj 106 hh.objs.size)) := fun a o e => k0 _ _ (X a o e)
  have hlim : hh.NoLimit := C.top.nolimit.keeps fun a o q => ok.wd.sub _ _ (ok.wd.base a o q)
  have hx : ((hh.push emptyDict).push (instObj 106 hh.objs.size)).get? (hh.objs.size + 1) = some (instObj 106 hh.objs.size) := by heap_get
  have hdx : ((hh.push emptyDict).push (instObj 106 hh.objs.size)).get? hh.objs.size = some emptyDict := by heap_get
  have nx : hh.get? (hh.objs.size + 1) = none := Heap.get?_none_of_le (Nat.le_succ _)
  have nd : hh.get? hh.objs.size = none := Heap.get?_none_of_le (Nat.le_refl _)
  have hne : hh.objs.size + 1 ≠ hh.objs.size := Nat.succ_ne_self _
  have hsz : ((hh.push emptyDict).push (instObj 106 hh.objs.size)).objs.size = hh.objs.size + 2 := by rw [Heap.size_push, Heap.size_push]
  obtain ⟨oc, od, osl, fd, e1, e2, e3, e4, e5, e6, e7, _, e8⟩ := fn68 C.w
  have hd1 : A'.depth < recursionLimit := by have := ok.room.depth; unfold recursionLimit; omega
  refine fn_run (s := ⟨(hh.push emptyDict).push (instObj 106 hh.objs.size), gg, dd, tt, os⟩) X1 (hlim.keeps k0) hd1 e1 e2 e4 e5 e6 e7 (BindsTo.of_eq (e8 [.ref (hh.objs.size + 1), v1, v2, v3, v4] rfl)) (by rw [e3]; exact (sc68_kind _).1) (by rw [e3]; exact (sc68_kind _).2.1) (by rw [e3]; exact (sc68_kind _).2.2) (by rw [e3]; exact sc68_cell _) ?_ ?_
  · rw [e3]
    intro x hx
    simp only [List.zip_cons_cons, List.zip_nil_right, List.mem_cons, List.not_mem_nil, or_false] at hx
    rcases hx with rfl | rfl | rfl | rfl | rfl
    · exact sc68_self _
    · exact sc68_name _
    · exact sc68_kind' _
    · exact sc68_number _
    · exact sc68_size _
  intro env h1 tk1 q1 q2 q3 q4 hns k1
  rw [e3] at q1
  have hk : (scopeIn (KF C.w) 68).kind = .function := (sc68_kind _).1
  have x1 := k1 _ _ hx
  have d1 := k1 _ _ hdx
  have kk1 : ∀ a o, hh.get? a = some o → h1.get? a = some o := fun a o q => k1 a o (k0 a o q)
  generalize hm : (fun x => ((["self", "name", "kind", "number", "size"] : List Str).zip [Value.ref (hh.objs.size + 1), v1, v2, v3, v4]).reverse.lookup x) = m at hns
  have m0 : m "self" = some (.ref (hh.objs.size + 1)) := by subst hm; rfl
  have m1 : m "name" = some v1 := by subst hm; rfl
  have m2 : m "kind" = some v2 := by subst hm; rfl
  have m3 : m "number" = some v3 := by subst hm; rfl
  have m4 : m "size" = some v4 := by subst hm; rfl
  change h1.Ns ((hh.push emptyDict).push (instObj 106 hh.objs.size)).objs.size m at hns
  change env.locals = ((hh.push emptyDict).push (instObj 106 hh.objs.size)).objs.size at q4
  rw [hsz] at q4 hns
  generalize hX : hh.objs.size + 1 = x at *
  generalize hD : hh.objs.size = d at *
  have F1 : Fr hh (d + 2) h1 m := ⟨hns, kk1, by rw [hD]; exact Nat.le_add_right _ _⟩
  have N1 : News hh (d + 2) h1 [(x, instObj 106 d), (d, dictOf [] 0)] := by
    intro p hp
    simp only [List.mem_cons, List.not_mem_nil, or_false] at hp
    rcases hp with rfl | rfl
    · exact ⟨x1, by show x ≠ d + 2; omega, nx⟩
    · exact ⟨d1, by show d ≠ d + 2; omega, nd⟩
  have hdx' : d ≠ x := Ne.symm hne
  have hall : ∀ p ∈ ([] : List (Addr × Obj)), p.1 ≠ d := fun _ h => nomatch h
  conv =>
    arg 3
    arg 1
    whnf
  -- four fields
  refine wpAny_execs_cons (plainObj_wpAny_Assign_Attribute ?_)
  refine local_load q1 hk q4 hns (sc68_name _) m1 ?_ rfl
  refine local_load q1 hk q4 hns (sc68_self _) m0 ?_ rfl
  refine set_dict F1 X N1 (InstAt.of_news N1 (.head _) (.tail _ (.head _))) rfl (kf_106set _) (kf_106over _) (kf_tk_name _) (kf_hasdict _) rfl rfl (Upd.tail hne (Upd.head hall)) (Nat.le_of_ble_eq_true rfl) fun h2 F2 N2 => ?_
  refine wpAny_execs_cons (plainObj_wpAny_Assign_Attribute ?_)
  refine local_load q1 hk q4 F2.ns (sc68_kind' _) m2 ?_ rfl
  refine local_load q1 hk q4 F2.ns (sc68_self _) m0 ?_ rfl
  refine set_dict F2 X N2 (InstAt.of_news N2 (.head _) (.tail _ (.head _))) rfl (kf_106set _) (kf_106over _) (kf_tk_kind _) (kf_hasdict _) rfl rfl (Upd.tail hne (Upd.head hall)) (Nat.le_of_ble_eq_true rfl) fun h3 F3 N3 => ?_
  refine wpAny_execs_cons (plainObj_wpAny_Assign_Attribute ?_)
  refine local_load q1 hk q4 F3.ns (sc68_number _) m3 ?_ rfl
  refine local_load q1 hk q4 F3.ns (sc68_self _) m0 ?_ rfl
  refine set_dict F3 X N3 (InstAt.of_news N3 (.head _) (.tail _ (.head _))) rfl (kf_106set _) (kf_106over _) (kf_tk_number _) (kf_hasdict _) rfl rfl (Upd.tail hne (Upd.head hall)) (Nat.le_of_ble_eq_true rfl) fun h4 F4 N4 => ?_
  refine wpAny_execs_cons (plainObj_wpAny_Assign_Attribute ?_)
  refine local_load q1 hk q4 F4.ns (sc68_size _) m4 ?_ rfl
  refine local_load q1 hk q4 F4.ns (sc68_self _) m0 ?_ rfl
  refine set_dict F4 X N4 (InstAt.of_news N4 (.head _) (.tail _ (.head _))) rfl (kf_106set _) (kf_106over _) (kf_tk_size _) (kf_hasdict _) rfl rfl (Upd.tail hne (Upd.head hall)) (Nat.le_of_ble_eq_true rfl) fun h5 F5 N5 => ?_
  refine wpAny_execs_nil ?_
  refine ⟨rfl, ?_⟩
  exact hq h5 _ x d _ _ F5.keep nx nd hne (N5 _ (.head _)).1 (N5 _ (.tail _ (.head _))).1 rfl rfl rfl rfl rfl rfl rfl rfl rfl
theorem cs_Register : CSound C (n + 1) (.ref 106) regK := fun A g s Q E p vs ok hr h => by
  unfold regK at h
  split at h
  · rename_i nm k num size
    obtain ⟨v1, w1, rfl, r1, hr⟩ := hr
    obtain ⟨v2, w2, rfl, r2, hr⟩ := hr
    obtain ⟨v3, w3, rfl, r3, hr⟩ := hr
    obtain ⟨v4, w4, rfl, r4, hr⟩ := hr
    obtain rfl : w4 = [] := hr
    refine reg_made ok fun h' tk x dx es m kk nx nd hne hx hd a1 a2 a3 a4 a5 a6 a7 a8 a9 => ?_
    have y1 : After C NoMu (fsOf A) g s g { s with heap := h', toks := tk } := After.grow ok.wd kk
    have gd : g dx = none := ok.wd.none_new nd
    have gx : g x = none := ok.wd.none_new nx
    have y2 := y1.adopt nd gd hd ok.wd
    have gx2 : (g.add dx (dictOf es m)) x = none := by
      unfold GP.add
      rw [if_neg hne]; exact gx
    have y3 := y2.adopt nx gx2 hx ok.wd
    refine h (.ref x) _ _ y3 ⟨x, rfl, dx, es, m, v1, v2, v3, v4, GP.add_self .., ?_, a1, a2, a3, a4, a5, a6, a7, a8, a9, r1, r2, r3, r4⟩
    unfold GP.add
    rw [if_neg (Ne.symm hne), if_pos rfl]
  · exact h.elim
end Mine
end

/-! ## F18 -/
section
open PySem PySem.W PyProof.Rows PySem.Calls PySem.SeqAt
set_option maxRecDepth 100000
set_option maxHeartbeats 4000000
set_option linter.unusedVariables false
namespace Mine
variable {C : Cx} {n : Nat} {sc : Scope} {names : List Str}

/-! ### the frame of a comprehension -/
theorem closure_is {env : Env} {scope : Scope} (h : ∀ x, (x, NameKind.free) ∈ scope.names → (env.cells.lookup x).isSome = true) :
    ∃ cl, closureFor scope env = pure cl ∧ (∀ x c, (x, c) ∈ cl → env.cells.lookup x = some c) ∧ (∀ x c, (x, c) ∈ cl → (x, NameKind.free) ∈ scope.names) ∧ ∀ x, (x, NameKind.free) ∈ scope.names → (cl.lookup x).isSome = true := by
  have go : ∀ (l : List (Str × NameKind)) (acc : List (Str × Addr)), (∀ x, (x, NameKind.free) ∈ l → (env.cells.lookup x).isSome = true) → (∀ x c, (x, c) ∈ acc → env.cells.lookup x = some c) →
      ∃ cl, (forIn l acc (fun x r => (do if (x.2 == NameKind.free) = true then do let c ← cellOf env x.1; pure (ForInStep.yield ((x.1, c) :: r)) else pure (ForInStep.yield r) : Sem _))) = pure cl ∧ (∀ x c, (x, c) ∈ cl → env.cells.lookup x = some c) ∧
        (∀ x, (x, NameKind.free) ∈ l → (cl.lookup x).isSome = true) ∧ (∀ x c, (x, c) ∈ cl → (x, c) ∈ acc ∨ (x, NameKind.free) ∈ l) ∧ ∀ x, (acc.lookup x).isSome = true → (cl.lookup x).isSome = true := by
    intro l
    induction l with
    | nil => intro acc _ h2; exact ⟨acc, rfl, h2, fun x hx => (nomatch hx), fun x c hx => .inl hx, fun x hx => hx⟩
    | cons a l ih =>
      intro acc h1 h2
      obtain ⟨x, k⟩ := a
      rw [List.forIn_cons]
      by_cases hk : (k == NameKind.free) = true
      · have hk' : k = .free := by simpa using hk
        subst hk'
        obtain ⟨c, hc⟩ := Option.isSome_iff_exists.mp (h1 x List.mem_cons_self)
        have e : cellOf env x = pure c := by unfold cellOf; rw [hc]
        dsimp only
        rw [if_pos hk, e]
        simp only [pure_bind]
        obtain ⟨cl, e1, e2, e3, e5, e4⟩ := ih ((x, c) :: acc) (fun y hy => h1 y (List.mem_cons_of_mem _ hy)) fun y d hd => by
          rcases List.mem_cons.mp hd with q | q
          · cases q; exact hc
          · exact h2 y d q
        have hx : (cl.lookup x).isSome = true := e4 x (by rw [List.lookup_cons]; simp)
        refine ⟨cl, e1, e2, fun y hy => ?_, fun y d hd => ?_, fun y hy => ?_⟩
        · rcases List.mem_cons.mp hy with q | q
          · cases q; exact hx
          · exact e3 y q
        · rcases e5 y d hd with q | q
          · rcases List.mem_cons.mp q with q | q
            · cases q; exact .inr List.mem_cons_self
            · exact .inl q
          · exact .inr (List.mem_cons_of_mem _ q)
        · refine e4 y ?_
          rw [List.lookup_cons]
          cases y == x <;> simp_all
      · dsimp only
        rw [if_neg hk]
        simp only [pure_bind]
        obtain ⟨cl, e1, e2, e3, e5, e4⟩ := ih acc (fun y hy => h1 y (List.mem_cons_of_mem _ hy)) h2
        refine ⟨cl, e1, e2, fun y hy => ?_, fun y d hd => (e5 y d hd).imp id fun q => List.mem_cons_of_mem _ q, e4⟩
        rcases List.mem_cons.mp hy with q | q
        · cases q; exact absurd rfl hk
        · exact e3 y q
  obtain ⟨cl, e1, e2, e3, e5, _⟩ := go scope.names [] h (fun _ _ hm => (nomatch hm))
  refine ⟨cl, ?_, e2, fun y d hd => (e5 y d hd).elim (fun q => (nomatch q)) id, e3⟩
  unfold closureFor
  refine Eq.trans (b := (forIn scope.names ([] : List (Str × Addr)) _ >>= pure)) rfl ?_
  rw [bind_pure]
  exact e1

theorem cellsFrom_app : ∀ (names : List (Str × NameKind)) (a : Nat) (acc : List (Str × Addr)), cellsFrom a names acc = cellsFrom a names [] ++ acc
  | [], _, _ => rfl
  | (x, k) :: r, a, acc => by
    unfold cellsFrom
    by_cases hk : (k == NameKind.cell) = true
    · rw [if_pos hk, if_pos hk, cellsFrom_app r (a + 1) ((x, a) :: acc), cellsFrom_app r (a + 1) [(x, a)]]; simp
    · rw [if_neg hk, if_neg hk, cellsFrom_app r a acc]
theorem cellsFrom_kind : ∀ (names : List (Str × NameKind)) (a : Nat) (x : Str) (c : Addr), (x, c) ∈ cellsFrom a names [] → (x, NameKind.cell) ∈ names
  | [], _, _, _, h => (nomatch h)
  | (y, k) :: r, a, x, c, h => by
    unfold cellsFrom at h
    by_cases hk : (k == NameKind.cell) = true
    · rw [if_pos hk, cellsFrom_app] at h
      rcases List.mem_append.mp h with q | q
      · exact List.mem_cons_of_mem _ (cellsFrom_kind r _ x c q)
      · simp at q
        obtain ⟨rfl, rfl⟩ := q
        have hk' : k = .cell := by simpa using hk
        rw [hk']; exact List.mem_cons_self
    · rw [if_neg hk] at h
      exact List.mem_cons_of_mem _ (cellsFrom_kind r _ x c h)
theorem lookup_relabel {scope : Scope} {env : Env} (x : Str) : (relabel scope env).names.lookup x = (scope.names.lookup x).map fun k => if (k == .free && env.scope.kind == .function && env.kindOf x == some .cell) = true then .cell else k := by
  have go : ∀ l : List (Str × NameKind), (l.map fun (n, k) => if (k == NameKind.free && env.scope.kind == .function && env.kindOf n == some .cell) = true then (n, NameKind.cell) else (n, k)).lookup x = (l.lookup x).map fun k => if (k == NameKind.free && env.scope.kind == .function && env.kindOf x == some .cell) = true then NameKind.cell else k := by
    intro l
    induction l with
    | nil => rfl
    | cons a l ih =>
      obtain ⟨y, k⟩ := a
      show List.lookup x ((if (k == NameKind.free && env.scope.kind == .function && env.kindOf y == some .cell) = true then (y, NameKind.cell) else (y, k)) :: _) = _
      cases hx : x == y with
      | true =>
        have hxy : x = y := by simpa using hx
        subst hxy
        by_cases hc : (k == NameKind.free && env.scope.kind == .function && env.kindOf x == some .cell) = true
        · rw [if_pos hc]; simp only [List.lookup_cons, hx, Option.map_some]; rw [if_pos hc]
        · rw [if_neg hc]; simp only [List.lookup_cons, hx, Option.map_some]; rw [if_neg hc]
      | false =>
        by_cases hc : (k == NameKind.free && env.scope.kind == .function && env.kindOf y == some .cell) = true
        · rw [if_pos hc]; simp only [List.lookup_cons, hx]; exact ih
        · rw [if_neg hc]; simp only [List.lookup_cons, hx]; exact ih
  exact go scope.names

/-- the scope of a comprehension inside a scope -/
noncomputable def relS (scope sc : Scope) : Scope := { scope with names := scope.names.map fun (n, k) => if (k == .free && sc.kind == .function && sc.names.lookup n == some .cell) then (n, .cell) else (n, k) }
theorem relabel_relS {scope : Scope} {env : Env} (e : env.scope = sc) : relabel scope env = relS scope sc := by subst e; rfl

noncomputable def capt1 : Option PV → PV
  | some (.own _) => .nil
  | some p => p
  | none => .nil
noncomputable def capt (is : List Nat) (ρ : List PV) : List PV := is.map fun i => capt1 ρ[i]?
/-- a captured name: a cell of the frame around, free in the comprehension -/
noncomputable def capOk (scope sc : Scope) (x : Str) : Bool := scope.names.lookup x == some .free && !(scope.names.contains (x, .cell)) && (sc.names.lookup x == some .cell || sc.names.lookup x == some .free)
noncomputable def frees (scope sc : Scope) : Bool := scope.names.all fun p => p.2 != .free || (sc.names.lookup p.1 == some .cell || sc.names.lookup p.1 == some .free)
noncomputable def capsAt (names : List Str) : List Str → List Nat → Prop
  | [], [] => True
  | x :: xs, i :: is => names[i]? = some x ∧ capsAt names xs is
  | _, _ => False
theorem caps_vars {env cenv : Env} {m m' : Str → Option Value} {g : GP} {h h' : Heap} {ρ : List PV} (hv : VarsOk env m g h names ρ)
    (P : Str → Prop) (hP : ∀ x v, P x → VarOk env m h x v → VarOk cenv m' h' x v) :
    ∀ {xs : List Str} {is : List Nat}, capsAt names xs is → (∀ x ∈ xs, P x) → VarsOk cenv m' g h' xs (capt is ρ)
  | [], [], _, _ => trivial
  | x :: xs, i :: is, ⟨h1, h2⟩, hx => by
    refine ⟨?_, caps_vars hv P hP h2 fun y hy => hx y (List.mem_cons_of_mem _ hy)⟩
    show capt1 ρ[i]? = .nil ∨ (∃ v, Rep g (capt1 ρ[i]?) v ∧ _) ∨ _
    cases q : ρ[i]? with
    | none => exact .inl rfl
    | some p =>
      rcases hv.get h1 q with rfl | ⟨v, r, w⟩ | ⟨l, v, rfl, _⟩
      · exact .inl rfl
      · have : VarOk cenv m' h' x v := hP x v (hx x List.mem_cons_self) w
        cases p <;> first | exact .inl rfl | exact .inr (.inl ⟨v, r, this⟩)
      · exact .inl rfl
  | [], _ :: _, h, _ => h.elim
  | _ :: _, [], h, _ => h.elim

theorem cenv_ok {A : Around} {env : Env} {g : GP} {ρ : List PV} {s : Shared} {scope : Scope} {cl : List (Str × Addr)} {h2 : Heap} {tk : Nat} {x : Str} {caps : List Str} {is : List Nat} {cenv : Env} (ok : Ok C n A sc names env g ρ s)
    (hcl : ∀ x c, (x, c) ∈ cl → env.cells.lookup x = some c) (hin : ∀ x c, (x, c) ∈ cl → (x, NameKind.free) ∈ scope.names) (hfr : ∀ x, (x, NameKind.free) ∈ scope.names → (cl.lookup x).isSome = true) (hk : scope.kind = .function)
    (hcap : caps.all (capOk scope sc) = true) (hat : capsAt names caps is) (hnc1 : (scope.names.lookup ("left" : Str) == some .cell) = false) (hnc2 : (scope.names.lookup ("told" : Str) == some .cell) = false) (e6 : cenv.code = env.code) (e7 : cenv.qual = env.qual)
    (e1 : cenv.scope = relS scope sc) (e2 : cenv.globals = env.globals) (e3 : cenv.builtins = env.builtins) (e4 : cenv.locals = s.heap.objs.size) (e5 : cenv.cells = cellsFrom (s.heap.objs.size + 1) scope.names cl)
    (hh : h2 = pushCells (s.heap.push { cls := .type "dict", data := .dict #[] }) scope.names) :
    (∀ a o, s.heap.get? a = some o → h2.get? a = some o) ∧ (∀ c, (x, NameKind.free) ∉ scope.names → cenv.cells.lookup x = some c → s.heap.objs.size ≤ c) ∧ h2.Ns s.heap.objs.size (fun _ => none) ∧
    Ok C n A (relS scope sc) (x :: caps) cenv g (.nil :: capt is ρ) { s with heap := h2, toks := tk } := by
  have kk : ∀ a o, s.heap.get? a = some o → h2.get? a = some o := fun a o e => hh ▸ pushCells_keeps _ _ a o (Heap.get?_push_of_some _ e)
  have hns : h2.Ns s.heap.objs.size (fun _ => none) := hh ▸ (Heap.Ns.new s.heap (.type "dict")).keeps (pushCells_keeps _ _)
  have new := cellsFrom_ok scope.names (s.heap.push { cls := .type "dict", data := .dict #[] }) (s.heap.objs.size + 1) [] ⟨fun _ _ hm => (nomatch hm), List.Pairwise.nil⟩ (by rw [Heap.size_push]; exact Nat.le_refl _)
  rw [Heap.size_push, ← hh] at new
  have ee := ok.env
  have hcc : cenv.cells = cellsFrom (s.heap.objs.size + 1) scope.names [] ++ cl := e5.trans (cellsFrom_app ..)
  have old : ∀ y c, env.cells.lookup y = some c → c < s.heap.objs.size := fun y c hc => by
    obtain ⟨_, _, _, v, o, e, _⟩ := ee.cells y c hc
    exact Heap.lt_size e
  have two : ∀ y c, cenv.cells.lookup y = some c → ((y, c) ∈ cellsFrom (s.heap.objs.size + 1) scope.names [] ∨ env.cells.lookup y = some c) := fun y c hc => by
    have hm := mem_of_lookup hc
    rw [hcc] at hm
    exact (List.mem_append.mp hm).imp id fun q => hcl y c q
  have some_of : ∀ y, (y, NameKind.free) ∈ scope.names → (cenv.cells.lookup y).isSome = true := fun y hy => by
    rw [hcc, List.lookup_append]
    cases (cellsFrom (s.heap.objs.size + 1) scope.names []).lookup y <;> simp [hfr y hy]
  have hlt : ∀ L, s.heap.objs.size ≤ L → s.heap.get? L = none := fun L hL => Heap.get?_none_of_le hL
  have gnone : ∀ L, s.heap.objs.size ≤ L → g L = none := fun L hL => ok.wd.none_new (hlt L hL)
  have tnone : ∀ L, s.heap.objs.size ≤ L → ¬ Tb L := fun L hL t => by
    obtain ⟨o, e⟩ := ok.wd.tb_live t
    rw [hlt L hL] at e; cases e
  refine ⟨kk, fun c hx hc => ?_, hns, ⟨(ok.after (After.grow (tk := tk) ok.wd kk)).toOkC, ?_, ?_⟩⟩
  · rw [hcc, List.lookup_append] at hc
    cases q : (cellsFrom (s.heap.objs.size + 1) scope.names []).lookup x with
    | none =>
      rw [q] at hc
      exact absurd (hin x c (mem_of_lookup hc)) hx
    | some c' =>
      rw [q] at hc
      cases hc
      exact Nat.le_of_succ_le (new.empty _ _ (mem_of_lookup q)).2
  · have key : ∀ y : Str, (scope.names.lookup y == some .cell) = false → ((relS scope sc).names.lookup y == some .cell) = true → (sc.names.lookup y == some .cell) = true := fun y h1 h2 => by
      have hl := lookup_relabel (scope := scope) (env := env) y
      rw [relabel_relS ee.scope] at hl
      rw [hl] at h2
      cases q : scope.names.lookup y with
      | none => rw [q] at h2; cases h2
      | some k =>
        rw [q] at h1 h2
        simp only [Option.map_some] at h2
        split at h2
        · rename_i hc
          have hc' : (k = .free ∧ env.scope.kind = .function) ∧ env.kindOf y = some .cell := by simpa using hc
          have := hc'.2
          unfold Env.kindOf at this
          rw [ee.scope] at this
          rw [this]; rfl
        · rw [h2] at h1; cases h1
    rw [e6, e7]
    exact ⟨fun h => ok.code.c1 (key _ hnc1 h), fun h => ok.code.c2 (key _ hnc2 h)⟩
  · refine ⟨e1, hk, e2.trans ee.glob, e3.trans ee.blt, by rw [e4]; exact gnone _ (Nat.le_refl _), by rw [e4]; exact tnone _ (Nat.le_refl _), fun y c hc => ?_, fun y z c hy hz => ?_, fun y hy => ?_, fun _ => none, by rw [e4]; exact hns, ?_⟩
    · rcases two y c hc with q | q
      · obtain ⟨k1, k2⟩ := new.empty _ _ q
        exact ⟨gnone c (Nat.le_of_succ_le k2), tnone c (Nat.le_of_succ_le k2), by rw [e4]; exact Nat.ne_of_gt k2, _, k1⟩
      · obtain ⟨k1, k2, k3, v, k4⟩ := ee.cells y c q
        exact ⟨k1, k2, by rw [e4]; exact Nat.ne_of_lt (old y c q), v, isCell_slots k4 fun o e => ⟨o.slots, kk _ _ e⟩⟩
    · rcases two y c hy with q | q
      · rcases two z c hz with r | r
        · exact name_of_addr new.apart q r
        · exact absurd (old z c r) (Nat.not_lt.mpr (Nat.le_of_succ_le (new.empty _ _ q).2))
      · rcases two z c hz with r | r
        · exact absurd (old y c q) (Nat.not_lt.mpr (Nat.le_of_succ_le (new.empty _ _ r).2))
        · exact ee.inj y z c q r
    · have hl := lookup_relabel (scope := scope) (env := env) y
      rw [relabel_relS ee.scope] at hl
      have hy' : scope.names.lookup y = some .cell ∨ scope.names.lookup y = some .free := by
        rw [hl] at hy
        cases q : scope.names.lookup y with
        | none => rw [q] at hy; rcases hy with h | h <;> cases h
        | some k =>
          cases k <;> first | exact .inl rfl | exact .inr rfl | (rw [q] at hy; rcases hy with h | h <;> simp at h)
      rcases hy' with q | q
      · rw [e5]; exact cellsFrom_some _ _ _ (.inl q)
      · exact some_of y (mem_of_lookup q)
    · obtain ⟨m, hm, hv⟩ := ee.vars
      refine ⟨.inl rfl, caps_vars hv (fun y => capOk scope sc y = true) (fun y v hy w => ?_) hat fun y hy => List.all_eq_true.mp hcap y hy⟩
      have hy1 : (scope.names.lookup y = some .free ∧ (y, NameKind.cell) ∉ scope.names) ∧ (sc.names.lookup y = some .cell ∨ sc.names.lookup y = some .free) := by simpa [capOk] using hy
      obtain ⟨⟨hf, hnc⟩, hkk⟩ := hy1
      have hko : env.kindOf y = some .cell ∨ env.kindOf y = some .free := by unfold Env.kindOf; rw [ee.scope]; exact hkk
      rcases w with ⟨w1, _⟩ | ⟨_, c, w2, w3⟩
      · rcases hko with q | q <;> (rw [w1] at q; cases q)
      · obtain ⟨c', hc'⟩ := Option.isSome_iff_exists.mp (some_of y (mem_of_lookup hf))
        have : c' = c := by
          rcases two y c' hc' with q | q
          · exact absurd (cellsFrom_kind _ _ _ _ q) hnc
          · rw [w2] at q; cases q; rfl
        subst this
        refine .inr ⟨?_, c', hc', isCell_slots w3 fun o e => ⟨o.slots, kk _ _ e⟩⟩
        unfold Env.kindOf
        rw [e1, ← relabel_relS (env := env) ee.scope, lookup_relabel, hf]
        simp only [Option.map_some]
        split
        · exact .inl rfl
        · exact .inr rfl
end Mine
end

/-! ## F19 -/
section
open PySem PySem.W PyProof.Rows PySem.Calls PySem.SeqAt
set_option maxRecDepth 100000
set_option maxHeartbeats 4000000
set_option linter.unusedVariables false
namespace Mine
variable {C : Cx} {n : Nat} {sc : Scope} {names : List Str}

theorem listObj_prot0 {ys : Array Value} {j : Nat} : Prot0 (listObj ys j) := ⟨fun _ _ q => (by cases q), fun _ q => (by cases q)⟩
theorem listObj_nofields {ys : Array Value} {j : Nat} : ∀ vs, (listObj ys j).data ≠ .fields vs := fun _ q => (by cases q)

/-! ### what is walked -/
structure Src (C : Cx) (A : Around) (g : GP) (I : Addr) (fp wr : List Addr) (ps : List PV) (P : Nat → Value → Prop) (St : Nat → Heap → Prop) : Prop where
  W : Walks PG C.w A I fp wr ps.length P St
  val : ∀ i p v, ps[i]? = some p → P i v → Rep g p v
  kept : ∀ b ∈ fp, b ∈ wr ∨ ∃ o, g b = some o
  live : ∀ i h, St i h → ∀ b ∈ wr, ∃ o, h.get? b = some o ∧ Prot o

section steps
variable {g : GP} {h h' : Heap} {wr : List Addr}
theorem Wd.steps (w : Wd C g h) (hw : ∀ b ∈ wr, g b = none ∧ ¬ Tb b) (k : ∀ b o, b ∉ wr → h.get? b = some o → h'.get? b = some o) : Wd C g h' := by
  obtain ⟨a1, a2, a3, t1, t2⟩ := w
  exact ⟨a1, fun b ob e => k b ob (fun q => by rw [(hw b q).1] at e; cases e) (a2 b ob e), a3, t1.to (fun _ _ e => e) (fun o e => k _ _ (fun q => (hw _ q).2 (.inl rfl)) e), t2.to (fun _ _ e => e) (fun o e => k _ _ (fun q => (hw _ q).2 (.inr rfl)) e)⟩
theorem After.steps {fs : List Addr} {g0 : GP} {s0 s : Shared} {tk : Nat} (y : After C NoMu fs g0 s0 g s) (hw : ∀ b ∈ wr, g b = none ∧ ¬ Tb b) (hy : ∀ b ∈ wr, s0.heap.get? b = none) (k : ∀ b o, b ∉ wr → s.heap.get? b = some o → h'.get? b = some o) :
    After C NoMu fs g0 s0 g { s with heap := h', toks := tk } := by
  obtain ⟨⟨h1, t1, rfl⟩, ⟨l, sl, kp⟩, m, w, fr⟩ := y
  have na : ∀ b ob, s0.heap.get? b = some ob → b ∉ wr := fun b ob e q => by rw [hy b q] at e; cases e
  refine ⟨⟨h', tk, rfl⟩, ⟨fun b ob e => ?_, fun b ob e m t => ?_, fun b ob e m t f => ?_⟩, m, w.steps hw k, fr⟩
  · obtain ⟨o2, e2⟩ := l b ob e
    exact ⟨o2, k b _ (na b ob e) e2⟩
  · obtain ⟨s2, e2⟩ := sl b ob e m t
    exact ⟨s2, k b _ (na b ob e) e2⟩
  · exact k b _ (na b ob e) (kp b ob e m t f)
theorem OkC.steps {A : Around} {s : Shared} {tk : Nat} (ok : OkC C n A g s) (hw : ∀ b ∈ wr, g b = none ∧ ¬ Tb b) (hp : ∀ b ∈ wr, ∃ o, s.heap.get? b = some o ∧ Prot o) (k : ∀ b o, b ∉ wr → s.heap.get? b = some o → h'.get? b = some o) :
    OkC C n A g { s with heap := h', toks := tk } := by
  obtain ⟨w, r, l, hl, hf⟩ := ok
  refine ⟨w.steps hw k, r, l, hl, FrOk.after (fun b hb _ => hb) (fun env he L ob es ep hL hob hgL hdL => ⟨ob, es, ep, k L ob (fun q => ?_) hob, hdL⟩) hf⟩
  obtain ⟨o, e1, e2⟩ := hp L q
  rw [hob] at e1; cases e1
  exact e2.1 _ _ hdL
theorem Ok.steps {A : Around} {env : Env} {ρ : List PV} {s : Shared} {tk : Nat} (ok : Ok C n A sc names env g ρ s) (hw : ∀ b ∈ wr, g b = none ∧ ¬ Tb b) (hp : ∀ b ∈ wr, ∃ o, s.heap.get? b = some o ∧ Prot o) (k : ∀ b o, b ∉ wr → s.heap.get? b = some o → h'.get? b = some o) :
    Ok C n A sc names env g ρ { s with heap := h', toks := tk } := by
  refine ⟨ok.toOkC.steps hw hp k, ok.code, ?_⟩
  obtain ⟨a1, a2, a3, a4, a5, a6, a7, a8, has, m, a9, a10⟩ := ok.env
  have k' : ∀ b o, s.heap.get? b = some o → ¬ Prot o → h'.get? b = some o := fun b o e np => k b o (fun q => by
    obtain ⟨o', e1, e2⟩ := hp b q
    rw [e] at e1; cases e1; exact np e2) e
  have kc : ∀ c v, s.heap.IsCell c v → h'.IsCell c v := fun c v ⟨o, e, d⟩ => ⟨o, k' c o e fun p => p.2.1 _ d, d⟩
  refine ⟨a1, a2, a3, a4, a5, a6, fun x c hc => ?_, a8, has, m, ?_, ?_⟩
  · obtain ⟨b1, b2, b3, v, b4⟩ := a7 x c hc
    exact ⟨b1, b2, b3, v, kc c v b4⟩
  · obtain ⟨o, es, ep, e, d, r⟩ := a9
    exact ⟨o, es, ep, k' _ o e fun p => p.1 _ _ d, d, r⟩
  · exact a10.mono (.refl _) (fun x c v _ hc => kc c _ hc) fun a vs j hg hh => ⟨k' a _ hh fun p => p.2.2 rfl, hg⟩
theorem Mid.steps {g0 : GP} {h0 : Heap} (m : Mid g0 h0 g h) (hy : ∀ b ∈ wr, h0.get? b = none) (k : ∀ b o, b ∉ wr → h.get? b = some o → h'.get? b = some o) : Mid g0 h0 g h' := ⟨m.le, fun a o e p t e' =>
  let ⟨e1, e2⟩ := m.kp a o e p t e'
  ⟨k a o (fun q => by rw [hy a q] at e; cases e) e1, e2⟩⟩
end steps
theorem Src.mono {A : Around} {g g' : GP} {I : Addr} {fp wr : List Addr} {ps : List PV} {P : Nat → Value → Prop} {St : Nat → Heap → Prop} (S : Src C A g I fp wr ps P St) (k : GLe g g') : Src C A g' I fp wr ps P St :=
  ⟨S.W, fun i p v e q => (S.val i p v e q).mono k, fun b hb => (S.kept b hb).imp id fun ⟨o, e⟩ => ⟨o, k _ _ e⟩, S.live⟩
theorem Src.frame {A : Around} {g g' : GP} {h h' : Heap} {I : Addr} {fp wr : List Addr} {ps : List PV} {P : Nat → Value → Prop} {St : Nat → Heap → Prop} {i : Nat} (S : Src C A g I fp wr ps P St) (st : St i h) (w : Wd C g h) (w' : Wd C g' h') 
    (hw : ∀ b ∈ wr, g b = none ∧ ¬ Tb b) (m : Mid g h g' h') : St i h' := by
  refine S.W.frame i h h' st fun b hb o e => ?_
  rcases S.kept b hb with q | ⟨o', q⟩
  · obtain ⟨o2, e2, p⟩ := S.live i h st b q
    rw [e] at e2; cases e2
    exact (m.kp b o e p (hw b q).2 (hw b q).1).1
  · have := w.sub _ _ q
    rw [e] at this; cases this
    exact w'.sub _ _ (m.le _ _ q)
theorem Mid.none {g g' : GP} {h h' : Heap} {wr : List Addr} (m : Mid g h g' h') (hw : ∀ b ∈ wr, g b = none ∧ ¬ Tb b) (hp : ∀ b ∈ wr, ∃ o, h.get? b = some o ∧ Prot o) : ∀ b ∈ wr, g' b = none ∧ ¬ Tb b := fun b hb =>
  let ⟨o, e, p⟩ := hp b hb
  ⟨(m.kp b o e p (hw b hb).2 (hw b hb).1).2, (hw b hb).2⟩

/-! ### a comprehension's turns -/
noncomputable def collect (ft fe : ED) (c : List PV) : List PV → Option (List PV)
  | [] => some []
  | x :: r => match ft (x :: c) with
    | .ok (.bool true) => match fe (x :: c) with
      | .ok y => (collect ft fe c r).map (y :: ·)
      | _ => none
    | .ok (.bool false) => collect ft fe c r
    | _ => none
theorem collect_len {ft fe : ED} {c : List PV} : ∀ {ps qs : List PV}, collect ft fe c ps = some qs → qs.length ≤ ps.length
  | [], qs, h => by cases h; exact Nat.le_refl _
  | x :: r, qs, h => by
    rw [collect] at h
    split at h
    · split at h
      · cases q : collect ft fe c r with
        | none => rw [q] at h; cases h
        | some l => rw [q] at h; cases h; exact Nat.succ_le_succ (collect_len q)
      · cases h
    · exact Nat.le_succ_of_le (collect_len h)
    · cases h
theorem ListRep.length {g : GP} : ∀ {ps : List PV} {vs : List Value}, ListRep g ps vs → vs.length = ps.length
  | [], [], _ => rfl
  | _ :: _, _ :: _, ⟨_, h⟩ => by rw [List.length_cons, List.length_cons, ListRep.length h]
  | [], _ :: _, h => h.elim
  | _ :: _, [], h => h.elim
theorem ListRep.mono {g g' : GP} (k : GLe g g') : ∀ {ps : List PV} {vs : List Value}, ListRep g ps vs → ListRep g' ps vs
  | [], [], _ => trivial
  | _ :: _, _ :: _, ⟨h1, h2⟩ => ⟨h1.mono k, ListRep.mono k h2⟩
  | [], _ :: _, h => h.elim
  | _ :: _, [], h => h.elim
theorem ListRep.of {g : GP} : ∀ {ps : List PV} {vs : List Value}, ListRep g ps vs → RepL g (ofItems ps) vs
  | [], [], _ => rfl
  | _ :: _, _ :: _, ⟨h1, h2⟩ => ⟨_, _, rfl, h1, ListRep.of h2⟩
  | [], _ :: _, h => h.elim
  | _ :: _, [], h => h.elim
noncomputable def noOwn (ρ : List PV) : Prop := ∀ p ∈ ρ, ∀ l, p ≠ .own l
theorem noOwn.cons {p : PV} {ρ : List PV} (h1 : ∀ l, p ≠ .own l) (h2 : noOwn ρ) : noOwn (p :: ρ) := fun q hq => by
  rcases List.mem_cons.mp hq with rfl | hq
  · exact h1
  · exact h2 q hq
theorem noOwn.capt (is : List Nat) (ρ : List PV) : noOwn (capt is ρ) := fun p hp l e => by
  obtain ⟨i, _, rfl⟩ := List.mem_map.mp hp
  cases q : ρ[i]? with
  | none => rw [q] at e; cases e
  | some p => rw [q] at e; cases p <;> cases e
theorem Rep.notOwn {g : GP} {p : PV} {v : Value} (h : Rep g p v) : ∀ l, p ≠ .own l := fun l e => by subst e; exact h
theorem VarsOk.mono' {env : Env} {m : Str → Option Value} {g g' : GP} {h h' : Heap} (k : GLe g g') (hc : ∀ x c v, env.cells.lookup x = some c → h.IsCell c v → h'.IsCell c v) :
    ∀ {names : List Str} {ρ : List PV}, noOwn ρ → VarsOk env m g h names ρ → VarsOk env m g' h' names ρ
  | [], [], _, _ => trivial
  | x :: xs, p :: ps, no, ⟨h1, h2⟩ => ⟨h1.imp id fun q => q.imp (fun ⟨v, r, q⟩ => ⟨v, r.mono k, q.mono hc⟩) fun ⟨l, v, e, _⟩ => absurd e (no p List.mem_cons_self l), VarsOk.mono' k hc (fun q hq => no q (List.mem_cons_of_mem _ hq)) h2⟩
  | [], _ :: _, _, h => h.elim
  | _ :: _, [], _, h => h.elim
/-- a list of ours that no name holds is changed -/
theorem Ok.listed {A : Around} {env : Env} {g : GP} {ρ : List PV} {s : Shared} {h' : Heap} {tk : Nat} {D : Addr} {ys ys' : Array Value} {k k' : Nat} (ok : Ok C n A sc names env g ρ s) (no : noOwn ρ) (hD : s.heap.get? D = some (listObj ys k)) (hg : g D = none)
    (hs : Heap.SameBut D s.heap h') (hD' : h'.get? D = some (listObj ys' k')) : Ok C n A sc names env g ρ { s with heap := h', toks := tk } := by
  refine ⟨ok.toOkC.touch hs hg hD (listObj_nofields) hD' (fun _ _ q => by cases q), ok.code, ?_⟩
  obtain ⟨a1, a2, a3, a4, a5, a6, a7, a8, has, m, a9, a10⟩ := ok.env
  have nd : ∀ b o, s.heap.get? b = some o → (∀ vs j, o.data ≠ .seq vs j) → h'.get? b = some o := fun b o e nl => (hs.2 b fun q => by subst q; rw [hD] at e; cases e; exact nl _ _ rfl).trans e
  have kc : ∀ c v, s.heap.IsCell c v → h'.IsCell c v := fun c v ⟨o, e, d⟩ => ⟨o, nd c o e (fun _ _ q => by rw [d] at q; cases q), d⟩
  refine ⟨a1, a2, a3, a4, a5, a6, fun x c hc => ?_, a8, has, m, ?_, a10.mono' (.refl _) (fun x c v _ hc => kc c _ hc) no⟩
  · obtain ⟨b1, b2, b3, v, b4⟩ := a7 x c hc
    exact ⟨b1, b2, b3, v, kc c v b4⟩
  · obtain ⟨o, es, ep, e, d, r⟩ := a9
    exact ⟨o, es, ep, nd _ o e (fun _ _ q => by rw [d] at q; cases q), d, r⟩

noncomputable def TestsOk (C : Cx) (n : Nat) (sc : Scope) (names : List Str) (ifs : List Expr) (ft : ED) : Prop :=
  ∀ A env g ρ s K E, Ok C n A sc names env g ρ s → TPost C A g s K E (ft ρ) →
    wpAny C.M A (forIn ifs true fun c r => if r = true then do let ok ← isTrue c env (eval c env); pure (ForInStep.yield ok) else pure (ForInStep.yield r)) K E s
theorem tests_nil : TestsOk C n sc names [] (fun _ => .ok (.bool true)) := fun A env g ρ s K E ok h => wpAny_tests_nil (h g s (After.refl ok.wd))
theorem tests_one {t : Expr} {ft : ED} (h : TSound C n sc names t ft) : TestsOk C n sc names [t] ft := fun A env g ρ s K E ok hp => wpAny_tests_one (h A env g ρ s K E ok hp)

theorem comp_loop {elt iter : Expr} {x : Str} {px : Pos} {ifs : List Expr} {scope : Scope} {pos : Pos} {A : Around} {cenv : Env} {I D : Addr} {fp wr : List Addr} {ps qs cp : List PV} {P : Nat → Value → Prop} {St : Nat → Heap → Prop} {ft fe : ED} {R : Result → Shared → Prop}
    {gB g : GP} {sB s : Shared} {caps : List Str} {k0 : Nat} (S : Src C A g I fp wr ps P St) (ht : TestsOk C n sc (x :: caps) ifs ft) (he : ESound C n sc (x :: caps) elt fe)
    (hnd : (x :: caps).Nodup) (hb : bindable sc x = true) (hyL : sB.heap.get? cenv.locals = none) (hyC : ∀ c, cenv.cells.lookup x = some c → sB.heap.get? c = none) (hnc : noOwn cp)
    (base : After C NoMu (fsOf A) gB sB g s) (hw : ∀ b ∈ wr, g b = none ∧ ¬ Tb b) (hwB : ∀ b ∈ wr, sB.heap.get? b = none) (hDB : sB.heap.get? D = none)
    (st : St 0 s.heap) (ok : Ok C n A sc (x :: caps) cenv g (.nil :: cp) s) (hD : s.heap.get? D = some (listObj #[] k0)) (hg : g D = none) (hcol : collect ft fe cp ps = some qs) (hlen : ps.length ≤ 1000)
    (hR : ∀ g' s' ρ' ys k, After C NoMu (fsOf A) gB sB g' s' → Ok C n A sc (x :: caps) cenv g' ρ' s' → s'.heap.get? D = some (listObj ys k) → g' D = none → ListRep g' qs ys.toList → R (.ok .next) s') :
    codeAny C.M A (.compLoop (.ListComp elt [⟨.Name x px, iter, ifs, 0⟩] scope pos) 0 (.ref I) (.ref D) cenv) R s := by
  have hx0 : at? x (x :: caps) = some 0 := by rw [at?, if_pos rfl]
  refine codeAny_compLoop_tests
    (fun k s' => ∃ i g' q ys j done qr, After C NoMu (fsOf A) gB sB g' s' ∧ GLe g g' ∧ Ok C n A sc (x :: caps) cenv g' (q :: cp) s' ∧ noOwn (q :: cp) ∧ St i s'.heap ∧ s'.heap.get? D = some (listObj ys j) ∧ g' D = none ∧ (∀ b ∈ wr, g' b = none ∧ ¬ Tb b) ∧
      ListRep g' done ys.toList ∧ collect ft fe cp (ps.drop i) = some qr ∧ done ++ qr = qs ∧ i ≤ ps.length ∧ k = ps.length + 1 - i) ?_ (ps.length + 1)
    ⟨0, g, .nil, #[], k0, [], qs, base, .refl _, ok, hnc.cons (fun _ e => (nomatch e)), st, hD, hg, hw, trivial, hcol, rfl, Nat.zero_le _, rfl⟩
  rintro k s' ⟨i, g', q, ys, j, done, qr, y', kg, ok', no', st', hD', hg', hw', hl', hc', hq', hi, rfl⟩
  have S' := S.mono kg
  by_cases hlt : i < ps.length
  · refine S'.W.item i _ _ _ hlt st' fun v h1 tk1 hPv st1 k1 => ?_
    have hp' := S'.live i _ st'
    have ok1 := ok'.steps (tk := tk1) hw' hp' k1
    have y1 := y'.steps (tk := tk1) hw' hwB k1
    have hD1 : h1.get? D = some (listObj ys j) := k1 D _ (fun q => by obtain ⟨o, e, p⟩ := hp' D q; rw [hD'] at e; cases e; exact p.2.2 rfl) hD'
    have hdrop : ps.drop i = ps[i] :: ps.drop (i + 1) := List.drop_eq_getElem_cons hlt
    have hget : ps[i]? = some ps[i] := List.getElem?_eq_getElem hlt
    have hr := S'.val i _ v hget hPv
    refine assign_Name (store_ok' (p := ps[i]) ok1 hyL hyC y1 hnd hx0 hb (.inl hr) fun s2 y2 m2 _ ok2 => ?_)
    replace ok2 : Ok C n A sc (x :: caps) cenv g' (ps[i] :: cp) s2 := ok2
    have st2 : St (i + 1) s2.heap := S'.frame st1 ok1.wd ok2.wd hw' m2.weak
    have hD2 : s2.heap.get? D = some (listObj ys j) := (m2.kp D _ hD1 listObj_prot0 (tabNoData ok1.wd hD1 listObj_nofields) hg').1
    rw [hdrop] at hc'
    rw [collect] at hc'
    refine ht A cenv g' _ s2 _ _ ok2 ?_
    cases htt : ft (ps[i] :: cp) with
    | stuck => rw [htt] at hc'; cases hc'
    | exc => rw [htt] at hc'; cases hc'
    | ok t =>
      rw [htt] at hc'
      cases t with
      | bool b =>
        intro g3 s3 y3
        have ok3 := ok2.after y3
        have m3 := y3.mid ok2.toOkC
        have y03 := y2.trans y3
        have hw3 := m3.none hw' (S'.live _ _ st2)
        have st3 := (S'.frame st2 ok2.wd ok3.wd hw' m3)
        have hD3 := y3.midP (pr := Prot0) ok2.toOkC (fun _ p => p.1) |>.kp D _ hD2 listObj_prot0 (tabNoData ok2.wd hD2 listObj_nofields) hg'
        have no3 : noOwn (ps[i] :: cp) := hnc.cons hr.notOwn
        cases b with
        | false =>
          rw [if_neg (by decide)]
          exact ⟨ps.length + 1 - (i + 1), by omega, i + 1, g3, _, ys, j, done, qr, y03, kg.trans y3.mono, ok3, no3, st3, hD3.1, hD3.2, hw3, hl'.mono y3.mono, hc', hq', hlt, rfl⟩
        | true =>
          rw [if_pos rfl]
          dsimp only at hc'
          cases hee : fe (ps[i] :: cp) with
          | stuck => rw [hee] at hc'; cases hc'
          | exc => rw [hee] at hc'; cases hc'
          | ok r =>
            rw [hee] at hc'
            dsimp only at hc'
            obtain ⟨qr', hc1, rfl⟩ := Option.map_eq_some_iff.mp hc'
            refine he A cenv g3 _ s3 _ _ ok3 ?_
            rw [hee]
            intro v4 g4 s4 y4 hv4
            have ok4 := ok3.after y4
            have m4 := y4.mid ok3.toOkC
            have hw4 := m4.none hw3 (S'.live _ _ st3)
            have st4 := ((S'.mono y3.mono).frame st3 ok3.wd ok4.wd hw3 m4)
            have hD4 := y4.midP (pr := Prot0) ok3.toOkC (fun _ p => p.1) |>.kp D _ hD3.1 listObj_prot0 (tabNoData ok3.wd hD3.1 listObj_nofields) hD3.2
            have hsz : ys.size ≤ sizeLine := by
              have e1 := hl'.length
              have e2 := collect_len hcol
              have e3 : done.length ≤ qs.length := by rw [← hq', List.length_append]; exact Nat.le_add_right _ _
              rw [Array.length_toList] at e1
              rw [sizeLine_eq]; omega
            refine wpAny_list_append_plain (hsz := hsz) ⟨j, hD4.1⟩ fun h5 hl5 hs5 => ?_
            obtain ⟨j5, hD5⟩ := hl5
            refine ⟨ps.length + 1 - (i + 1), by omega, i + 1, g4, _, ys.push v4, j5, done ++ [r], qr', ?_, (kg.trans y3.mono).trans y4.mono, ok4.listed (tk := s4.toks) no3 hD4.1 hD4.2 hs5 hD5, no3, ?_, hD5, hD4.2, hw4, ?_, hc1, by rw [List.append_assoc]; exact hq', hlt, rfl⟩
            · exact (y03.trans y4).touch (tk := s4.toks) hs5 hD4.2 hD4.1 (listObj_nofields) hDB
            · refine S'.W.frame _ _ _ st4 fun b hbm o e => (hs5.2 b fun q => ?_).trans e
              subst q
              rcases S'.kept b hbm with q | ⟨o', q⟩
              · obtain ⟨o2, e2, p⟩ := S'.live _ _ st4 b q
                rw [hD4.1] at e2; cases e2
                exact p.2.2 rfl
              · rw [hg'] at q; cases q
            · rw [Array.toList_push]
              exact ListRep.append ((hl'.mono y3.mono).mono y4.mono) ⟨hv4, trivial⟩
      | _ => cases hc'
  · have hin : i = ps.length := by omega
    subst hin
    refine S'.W.done _ _ _ st' fun h1 tk1 k1 => ?_
    have hp' := S'.live _ _ st'
    have ok1 := ok'.steps (tk := tk1) hw' hp' k1
    have y1 := y'.steps (tk := tk1) hw' hwB k1
    have hD1 : h1.get? D = some (listObj ys j) := k1 D _ (fun q => by obtain ⟨o, e, p⟩ := hp' D q; rw [hD'] at e; cases e; exact p.2.2 rfl) hD'
    rw [List.drop_length] at hc'
    cases hc'
    rw [List.append_nil] at hq'
    subst hq'
    exact hR g' _ _ ys j y1 ok1 hD1 hg' hl'
end Mine
end

/-! ## F20 -/
section
open PySem PySem.W PyProof.Rows PySem.Calls PySem.SeqAt
set_option maxRecDepth 100000
set_option maxHeartbeats 4000000
set_option linter.unusedVariables false
namespace Mine
variable {C : Cx} {n : Nat} {sc : Scope} {names : List Str}

noncomputable def IPost (C : Cx) (A : Around) (g : GP) (s : Shared) (Q : Value → Shared → Prop) : R → Prop
  | .ok p => ∀ I g' s' fp wr P St, After C NoMu (fsOf A) g s g' s' → Src C A g' I fp wr p.items P St → St 0 s'.heap → (∀ b ∈ wr, s.heap.get? b = none) → (∀ b ∈ wr, g' b = none ∧ ¬ Tb b) → p.items.length ≤ 1000 → Q (.ref I) s'
  | _ => False
/-- a row of values to go through -/
noncomputable def ISound (C : Cx) (n : Nat) (sc : Scope) (names : List Str) (e : Expr) (f : ED) : Prop :=
  ∀ A env g ρ s Q E, Ok C n A sc names env g ρ s → IPost C A g s Q (f ρ) → wpAny C.M A (eval e env) (fun xv s₁ => wpAny C.M A (pyIter xv) Q E s₁) E s
theorem After.none {mu : Addr → Prop} {fs : List Addr} {g g' : GP} {s s' : Shared} (y : After C mu fs g s g' s') {a : Addr} (h : s'.heap.get? a = none) : s.heap.get? a = none := by
  cases q : s.heap.get? a with
  | none => rfl
  | some o => obtain ⟨o', e⟩ := y.ext.live a o q; rw [h] at e; cases e

theorem comp_block {elt iter : Expr} {x : Str} {px : Pos} {ifs : List Expr} {scope : Scope} {pos : Pos} {A : Around} {env : Env} {I : Addr} {fp wr : List Addr} {ps qs : List PV} {P : Nat → Value → Prop} {St : Nat → Heap → Prop} {ft fe : ED}
    {RR : Value → Addr → Result → Shared → Prop} {E : Value → Shared → Prop} {gB g : GP} {sB s : Shared} {ρ : List PV} {caps : List Str} {is : List Nat} {cl : List (Str × Addr)} (S : Src C A g I fp wr ps P St)
    (ht : TestsOk C n (relS scope sc) (x :: caps) ifs ft) (he : ESound C n (relS scope sc) (x :: caps) elt fe)
    (hnd : (x :: caps).Nodup) (hb : bindable (relS scope sc) x = true) (hxf : (x, NameKind.free) ∉ scope.names) (hk : scope.kind = .function) (hcap : caps.all (capOk scope sc) = true) (hat : capsAt names caps is) (hnc1 : (scope.names.lookup ("left" : Str) == some .cell) = false) (hnc2 : (scope.names.lookup ("told" : Str) == some .cell) = false)
    (hcl : ∀ x c, (x, c) ∈ cl → env.cells.lookup x = some c) (hin : ∀ x c, (x, c) ∈ cl → (x, NameKind.free) ∈ scope.names) (hfr : ∀ x, (x, NameKind.free) ∈ scope.names → (cl.lookup x).isSome = true)
    (ok : Ok C n A sc names env g ρ s) (base : After C NoMu (fsOf A) gB sB g s) (hw : ∀ b ∈ wr, g b = none ∧ ¬ Tb b) (hwB : ∀ b ∈ wr, sB.heap.get? b = none) (st : St 0 s.heap) (hcol : collect ft fe (capt is ρ) ps = some qs) (hlen : ps.length ≤ 1000)
    (hRR : ∀ D L g' s' ys k m, After C NoMu (fsOf A) gB sB g' s' → sB.heap.get? D = none → sB.heap.get? L = none → D ≠ L → env.locals < D → s'.heap.get? D = some (listObj ys k) → g' D = none → g' L = none → s'.heap.Ns L m → ListRep g' qs ys.toList → RR (.ref D) L (.ok .next) s') :
    wpAny C.M A (newList []) (fun acc s₃ => wpAny C.M A (newFunctionEnv scope env.globals cl [] env.qual none .none (some env)) (fun cenv s₄ =>
      codeAny C.M A (.compStart (.ListComp elt [⟨.Name x px, iter, ifs, 0⟩] scope pos) 0 (.ref I) acc { cenv with scope := relabel scope env }) (RR acc cenv.locals) s₄) E s₃) E s := by
  refine wpAny_newObj_type ?_
  generalize hH2 : s.heap.push { cls := .type "list", dict := none, data := .seq ([] : List Value).toArray } = H2
  have hsz2 : H2.objs.size = s.heap.objs.size + 1 := by rw [← hH2, Heap.size_push]
  have k2 : ∀ a o, s.heap.get? a = some o → H2.get? a = some o := fun a o e => hH2 ▸ Heap.get?_push_of_some _ e
  have hD2 : H2.get? s.heap.objs.size = some (listObj #[] 0) := hH2 ▸ Heap.get?_push_size _ rfl
  have ok2 := ok.grow k2
  have y2 : After C NoMu (fsOf A) gB sB g { s with heap := H2, toks := s.toks } := base.trans (After.grow ok.wd k2)
  have ee := ok.env
  have hLs : env.locals < s.heap.objs.size := by obtain ⟨m, ⟨o, _, _, e, _⟩, _⟩ := ee.vars; exact Heap.lt_size e
  simp only [newFunctionEnv, Option.isSome_some, if_true]
  refine wpAny_bind (wpAny_alloc ?_)
  refine wpAny_bind (wpAny_layCells _ (fun name kind cells => by cases hkc : kind == NameKind.cell <;> simp [hkc]) _ _ _ _ ?_)
  simp only [List.forIn_nil]
  refine wpAny_bind (wpAny_pure (wpAny_pure ?_))
  rw [Heap.size_push]
  generalize hcE : ({ scope := relabel scope env, locals := H2.objs.size, globals := env.globals, cells := cellsFrom (H2.objs.size + 1) scope.names cl, qual := env.qual, func := none, code := env.code, frame := env.frame, builtins := env.builtins } : Env) = cenv
  obtain ⟨kk, hc1, hns, okc⟩ := cenv_ok (x := x) (h2 := pushCells (H2.push { cls := .type "dict", data := .dict #[] }) scope.names) (tk := s.toks) (cenv := cenv) ok2 hcl hin hfr hk hcap hat hnc1 hnc2 (by rw [← hcE]) (by rw [← hcE]) (by rw [← hcE]; exact relabel_relS ee.scope) (by rw [← hcE]) (by rw [← hcE]) (by rw [← hcE]) (by rw [← hcE]) rfl
  dsimp only at kk hc1 hns okc
  have eL : cenv.locals = H2.objs.size := by rw [← hcE]
  have y4 : After C NoMu (fsOf A) gB sB g { s with heap := pushCells (H2.push { cls := .type "dict", data := .dict #[] }) scope.names, toks := s.toks } := y2.trans (After.grow (s := { s with heap := H2, toks := s.toks }) ok2.wd kk)
  have young : ∀ a, s.heap.objs.size ≤ a → sB.heap.get? a = none := fun a ha => base.none (Heap.get?_none_of_le ha)
  have gy : ∀ a, s.heap.objs.size ≤ a → g a = none := fun a ha => ok.wd.none_new (Heap.get?_none_of_le ha)
  have st4 := S.frame st ok.wd okc.wd hw ⟨.refl _, fun a o e _ _ e' => ⟨kk _ _ (k2 _ _ e), e'⟩⟩
  have hDL : s.heap.objs.size ≠ H2.objs.size := by rw [hsz2]; exact Nat.ne_of_lt (Nat.lt_succ_self _)
  have loop : codeAny C.M A (.compLoop (.ListComp elt [⟨.Name x px, iter, ifs, 0⟩] scope pos) 0 (.ref I) (.ref s.heap.objs.size) cenv) (RR (.ref s.heap.objs.size) H2.objs.size) { s with heap := pushCells (H2.push { cls := .type "dict", data := .dict #[] }) scope.names, toks := s.toks } := by
    refine comp_loop S ht he hnd hb (young _ (by rw [eL, hsz2]; exact Nat.le_succ _)) (fun c hc => young c (Nat.le_trans (by rw [hsz2]; exact Nat.le_succ _) (hc1 c hxf hc))) (noOwn.capt _ _) y4 hw hwB (young _ (Nat.le_refl _)) st4 okc (kk _ _ hD2) (gy _ (Nat.le_refl _)) hcol hlen ?_
    intro g' s' ρ' ys k y' ok' hD' hg' hl'
    obtain ⟨m, hm, _⟩ := ok'.env.vars
    rw [eL] at hm
    exact hRR _ _ g' s' ys k m y' (young _ (Nat.le_refl _)) (young _ (by rw [hsz2]; exact Nat.le_succ _)) hDL hLs hD' hg' (eL ▸ ok'.env.gl) hm hl'
  exact codeAny_compStart_list loop (S.W.self 0 _ _ _ st4 loop)

noncomputable def compD (fi ft fe : ED) (is : List Nat) : ED := fun ρ => match fi ρ with
  | .ok p => match collect ft fe (capt is ρ) p.items with
    | some qs => .ok (.lst (ofItems qs))
    | none => .stuck
  | _ => .stuck
theorem es_ListComp {elt iter : Expr} {x : Str} {px : Pos} {ifs : List Expr} {scope : Scope} {pos : Pos} {fi ft fe : ED} {caps : List Str} {is : List Nat} (hi : ISound C n sc names iter fi)
    (ht : TestsOk C n (relS scope sc) (x :: caps) ifs ft) (he : ESound C n (relS scope sc) (x :: caps) elt fe)
    (hnd : (x :: caps).Nodup) (hb : bindable (relS scope sc) x = true) (hxf : (x, NameKind.free) ∉ scope.names) (hk : scope.kind = .function) (hcap : caps.all (capOk scope sc) = true) (hat : capsAt names caps is) (hnc1 : (scope.names.lookup ("left" : Str) == some .cell) = false) (hnc2 : (scope.names.lookup ("told" : Str) == some .cell) = false)
    (hfrees : frees scope sc = true) (hnames : ∀ y ∈ scope.names, y.2 = .local → scope.names.lookup y.1 = some .local)
    (hs : ∀ env : Env, ∀ x, foldedSetIterable iter env x = pure x := by intro _ _; rfl) :
    ESound C n sc names (.ListComp elt [⟨.Name x px, iter, ifs, 0⟩] scope pos) (compD fi ft fe is) := fun A env g ρ s Q E ok h => by
  rw [eval_ListComp]
  have hfr0 : ∀ y, (y, NameKind.free) ∈ scope.names → (env.cells.lookup y).isSome = true := fun y hy => by
    have := List.all_eq_true.mp hfrees _ hy
    have h2 : sc.names.lookup y = some .cell ∨ sc.names.lookup y = some .free := by simpa using this
    exact ok.env.has y h2
  obtain ⟨cl, hclos, hcl, hin, hfr⟩ := closure_is hfr0
  refine wpAny_comprehension_free (use := none) rfl (hs env) hclos hk hnames (hi A env g ρ s _ E ok ?_)
  unfold compD at h
  cases q : fi ρ with
  | stuck => rw [q] at h; exact h.elim
  | exc => rw [q] at h; exact h.elim
  | ok p =>
    rw [q] at h
    dsimp only at h
    cases hc : collect ft fe (capt is ρ) p.items with
    | none => rw [hc] at h; exact h.elim
    | some qs =>
      rw [hc] at h
      intro I g1 s1 fp wr P St y1 S st hwB hw hlen
      refine comp_block (RR := fun acc L => compPost C.M A E none Q acc L) S ht he hnd hb hxf hk hcap hat hnc1 hnc2 hcl hin hfr (ok.after y1) y1 hw hwB st hc hlen ?_
      intro D L g2 s2 ys k m y2 hDB hLB hDL hlt hD hgD hgL hm hl
      obtain ⟨oL, esL, epL, eL, dL, _⟩ := id hm
      refine ⟨m, hm, fun h' hs' => ?_⟩
      have y3 := y2.touch (tk := s2.toks) hs' hgL eL (fun vs q => by rw [dL] at q; cases q) hLB
      have hD3 : h'.get? D = some (listObj ys k) := (hs'.2 D hDL).trans hD
      exact h _ _ _ (y3.adopt hDB hgD hD3 ok.wd) ⟨D, ys, k, rfl, GP.add_self .., ListRep.of (hl.mono (GP.le_add hgD))⟩
end Mine
end

/-! ## F21 -/
section
open PySem PySem.W PyProof.Rows PySem.Calls PySem.SeqAt
set_option maxRecDepth 100000
set_option maxHeartbeats 4000000
set_option linter.unusedVariables false
namespace Mine
variable {C : Cx} {n : Nat} {sc : Scope} {names : List Str}

/-- a dict that no name of the frame needs is changed -/
theorem Ok.other {A : Around} {env : Env} {g : GP} {ρ : List PV} {s : Shared} {h' : Heap} {tk : Nat} {L : Addr} {o : Obj} (ok : Ok C n A sc names env g ρ s) (hL : s.heap.get? L = some o) (hg : g L = none) (h1 : L ≠ env.locals) (h2 : L ∉ fsOf A)
    (hd : ∃ es ep, o.data = .dict es ep) (hs : Heap.SameBut L s.heap h') : Ok C n A sc names env g ρ { s with heap := h', toks := tk } := by
  obtain ⟨es0, ep0, hd⟩ := hd
  have k : ∀ b ob, b ≠ L → s.heap.get? b = some ob → h'.get? b = some ob := fun b ob hb e => (hs.2 b hb).trans e
  have w' := ok.wd.touch hs hg hL fun vs q => by rw [hd] at q; cases q
  obtain ⟨w, r, l, hl, hf⟩ := ok.toOkC
  refine ⟨⟨w', r, l, hl, FrOk.after (fun b hb _ => hb) (fun e he M ob es ep hM hob hgM hdM => ⟨ob, es, ep, k M ob (fun q => h2 ?_) hob, hdM⟩) hf⟩, ok.code, ?_⟩
  · unfold fsOf; rw [hl]; exact List.mem_filterMap.mpr ⟨e, he, q ▸ hM⟩
  · obtain ⟨a1, a2, a3, a4, a5, a6, a7, a8, has, m, a9, a10⟩ := ok.env
    have kc : ∀ c v, s.heap.IsCell c v → h'.IsCell c v := fun c v ⟨o', e, d⟩ => ⟨o', k c o' (fun q => by subst q; rw [hL] at e; cases e; rw [hd] at d; cases d) e, d⟩
    refine ⟨a1, a2, a3, a4, a5, a6, fun x c hc => ?_, a8, has, m, ?_, ?_⟩
    · obtain ⟨b1, b2, b3, v, b4⟩ := a7 x c hc
      exact ⟨b1, b2, b3, v, kc c v b4⟩
    · obtain ⟨o', es, ep, e, d, r⟩ := a9
      exact ⟨o', es, ep, k _ o' (Ne.symm h1) e, d, r⟩
    · exact a10.mono (.refl _) (fun x c v _ hc => kc c _ hc) fun a vs j hga hh => ⟨k a _ (fun q => by subst q; rw [hL] at hh; cases hh; cases hd) hh, hga⟩

noncomputable def asgD (own : Bool) (i : Nat) (f : ED) : SD := fun ρ => match f ρ with
  | .ok (.lst r) => .next (setV i (match own with | true => .own r | false => .lst r) ρ)
  | _ => .stuck
theorem ss_AssignComp {elt iter : Expr} {x y : Str} {px py : Pos} {ifs : List Expr} {scope : Scope} {pos spos : Pos} {fi ft fe : ED} {caps : List Str} {is : List Nat} {i : Nat} (own : Bool) (hi : ISound C n sc names iter fi)
    (ht : TestsOk C n (relS scope sc) (x :: caps) ifs ft) (he : ESound C n (relS scope sc) (x :: caps) elt fe)
    (hnd : (x :: caps).Nodup) (hb : bindable (relS scope sc) x = true) (hxf : (x, NameKind.free) ∉ scope.names) (hk : scope.kind = .function) (hcap : caps.all (capOk scope sc) = true) (hat : capsAt names caps is) (hnc1 : (scope.names.lookup ("left" : Str) == some .cell) = false) (hnc2 : (scope.names.lookup ("told" : Str) == some .cell) = false)
    (hfrees : frees scope sc = true) (hnames : ∀ y ∈ scope.names, y.2 = .local → scope.names.lookup y.1 = some .local)
    (hnd2 : names.Nodup) (hyi : at? y names = some i) (hyb : bindable sc y = true)
    (hsw : ∀ env : Env, env.scope = sc → swapsWith (.ListComp elt [⟨.Name x px, iter, ifs, 0⟩] scope pos) (some (.Name y py)) spos.line env = pure true)
    (hs : ∀ env : Env, ∀ x, foldedSetIterable iter env x = pure x := by intro _ _; rfl) :
    SSound C n sc names (.Assign [.Name y py] (.ListComp elt [⟨.Name x px, iter, ifs, 0⟩] scope pos) spos) (asgD own i (compD fi ft fe is)) := fun A env g0 s0 g ρ s Q E ok en yy h => by
  rw [exec_Assign_Name_used _ _ _ _ (hsw env ok.env.scope)]
  refine wpAny_bind (wpAny_standAt (wpAny_bind ?_))
  show wpAny _ A (do let _ ← comprehension (.ListComp elt [⟨.Name x px, iter, ifs, 0⟩] scope pos) scope env _ (newList []) false (eval iter env) (some (assign (.Name y py) env))) _ _ s
  have hfr0 : ∀ y, (y, NameKind.free) ∈ scope.names → (env.cells.lookup y).isSome = true := fun y hy => by
    have := List.all_eq_true.mp hfrees _ hy
    have h2 : sc.names.lookup y = some .cell ∨ sc.names.lookup y = some .free := by simpa using this
    exact ok.env.has y h2
  obtain ⟨cl, hclos, hcl, hin, hfr⟩ := closure_is hfr0
  refine wpAny_bind (wpAny_mono (wpAny_comprehension_free (use := some (assign (.Name y py) env)) (Q := fun _ s' => Q .next s') rfl (hs env) hclos hk hnames (hi A env g ρ s _ E ok ?_)) (fun _ s' hq => wpAny_pure (wpAny_pure hq)) fun _ _ e => e)
  unfold asgD compD at h
  cases q : fi ρ with
  | stuck => rw [q] at h; exact h.elim
  | exc => rw [q] at h; exact h.elim
  | ok p =>
    rw [q] at h
    dsimp only at h
    cases hc : collect ft fe (capt is ρ) p.items with
    | none => rw [hc] at h; exact h.elim
    | some qs =>
      rw [hc] at h
      dsimp only at h
      intro I g1 s1 fp wr P St y1 S st hwB hw hlen
      have ok1 := ok.after y1
      refine comp_block (RR := fun acc L => compPost C.M A E (some (assign (.Name y py) env)) (fun _ s' => Q .next s') acc L) S ht he hnd hb hxf hk hcap hat hnc1 hnc2 hcl hin hfr ok1 y1 hw hwB st hc hlen ?_
      intro D L g2 s2 ys k m y2 hDB hLB hDL hlt hD hgD hgL hm hl
      have ok2 := ok.after y2
      have live : ∀ a, s.heap.get? a = none → ∀ o, s.heap.get? a ≠ some o := fun a e o q => by rw [e] at q; cases q
      have hLl : L ≠ env.locals := fun q => by obtain ⟨_, ⟨o, _, _, e, _⟩, _⟩ := ok.env.vars; exact live L hLB o (q ▸ e)
      have hLf : L ∉ fsOf A := fun q => by obtain ⟨_, o, _, _, e, _⟩ := ok.toOkC.frame q; exact live L hLB o e
      have hLc : env.cells.lookup y ≠ some L := fun q => by obtain ⟨_, _, _, v, o, e, _⟩ := ok.env.cells y L q; exact live L hLB o e
      -- the list is kept from now on, or is the frame's own
      have fin : ∀ g3 (p : PV), After C NoMu (fsOf A) g s g3 s2 → g3 L = none → (Rep g3 p (.ref D) ∨ ∃ l, p = .own l ∧ OwnAt g3 s2.heap env.locals l (.ref D)) → SPost C n A sc names env g0 s0 g s Q E (.next (setV i p ρ)) →
          compPost C.M A E (some (assign (.Name y py) env)) (fun _ s' => Q .next s') (.ref D) L (.ok .next) s2 := fun g3 p y3 hgL3 hv hq => by
        show wpAny C.M A (assign (.Name y py) env (.ref D)) _ E s2
        refine assign_Name (store_ok' (ok.after y3) en.locals (fun c hc => en.cells y c hc) (yy.trans y3) hnd2 hyi hyb hv fun s4 y4 m4 hsame ok4 => ?_)
        obtain ⟨oL, esL, epL, eL, dL, rL⟩ := id hm
        have eL4 : s4.heap.get? L = some oL := (hsame L hLl hLc).trans eL
        refine ⟨m, ⟨oL, esL, epL, eL4, dL, rL⟩, fun h' hs' => ?_⟩
        refine hq g3 _ (y4.touch (tk := s4.toks) hs' hgL3 eL4 (fun vs q => by rw [dL] at q; cases q) (yy.none hLB)) ?_ (ok4.other (tk := s4.toks) eL4 hgL3 hLl hLf ⟨_, _, dL⟩ hs')
        refine ⟨y3.mono, fun a o e pr t e' => ?_⟩
        obtain ⟨e1, e2⟩ := (y3.mid ok.toOkC).kp a o e pr t e'
        obtain ⟨e3, e4⟩ := m4.weak.kp a o e1 pr t e2
        exact ⟨(hs'.2 a fun q => live L hLB o (q ▸ e)).trans e3, e4⟩
      cases own with
      | true => exact fin g2 (.own (ofItems qs)) y2 hgL (.inr ⟨_, rfl, D, ys, k, rfl, hlt, hgD, hD, ListRep.of hl⟩) h
      | false =>
        refine fin (g2.add D (listObj ys k)) (.lst (ofItems qs)) (y2.adopt hDB hgD hD ok.wd) ?_ (.inl ⟨D, ys, k, rfl, GP.add_self .., ListRep.of (hl.mono (GP.le_add hgD))⟩) h
        unfold GP.add
        rw [if_neg (Ne.symm hDL)]; exact hgL
end Mine
end

/-! ## F22 -/
section
open PySem PySem.W PyProof.Rows PySem.Calls PySem.SeqAt
set_option maxRecDepth 100000
set_option maxHeartbeats 4000000
set_option linter.unusedVariables false
namespace Mine
variable {C : Cx} {n : Nat} {sc : Scope} {names : List Str}

/-! ### rows to go through -/
theorem ListRep.get {g : GP} : ∀ {ps : List PV} {vs : List Value} {i : Nat} {p : PV} {v : Value}, ListRep g ps vs → ps[i]? = some p → vs[i]? = some v → Rep g p v
  | _ :: _, _ :: _, 0, _, _, ⟨h, _⟩, e1, e2 => by cases e1; cases e2; exact h
  | _ :: _, _ :: _, i + 1, _, _, ⟨_, h⟩, e1, e2 => ListRep.get (i := i) h (by simpa using e1) (by simpa using e2)
  | [], _, _, _, _, _, e1, _ => by simp at e1
  | _ :: _, [], _, _, _, h, _, _ => h.elim
theorem Prot.fields {c : Value} {vs : Array Value} (hc : c ≠ .type "list") : Prot { cls := c, data := .fields vs } := ⟨fun _ _ q => (by cases q), fun _ q => (by cases q), hc⟩
theorem Prot.mk {o : Obj} {c : String} {vs : Array Value} (hc : o.cls = .type c) (hd : o.data = .fields vs) (hn : c ≠ "list") : Prot o := ⟨fun _ _ q => (by rw [hd] at q; cases q), fun _ q => (by rw [hd] at q; cases q), fun q => hn (by rw [hc] at q; cases q; rfl)⟩
theorem src_list {A : Around} {g : GP} {s : Shared} {a : Addr} {vs : Array Value} {m : Nat} {r : PV} (hh : A.handled = none) (eg : g a = some (listObj vs m)) (hr : RepL g r vs.toList) (hlt : a < s.heap.objs.size) :
    Src C A g s.heap.objs.size [s.heap.objs.size, a] [s.heap.objs.size] r.items (fun i v => vs[i]? = some v) (fun i h => h.IsListIter s.heap.objs.size a i ∧ h.IsList a vs) := by
  have hl := RepL.list hr
  have hn : r.items.length = vs.size := by rw [← hl.length, Array.length_toList]
  refine ⟨hn ▸ Walks.list hh _ a (Nat.ne_of_lt hlt) vs, fun i p v e1 e2 => hl.get e1 (by rw [Array.getElem?_toList]; exact e2), fun b hb => ?_, fun i h st b hb => ?_⟩
  · simp at hb ⊢
    rcases hb with h | h
    · exact .inl h
    · exact .inr ⟨_, h ▸ eg⟩
  · simp at hb; subst hb
    obtain ⟨⟨o, e, hc, hd⟩, _⟩ := st
    exact ⟨_, e, .mk hc hd (by decide)⟩
theorem src_tup {A : Around} {g : GP} {s : Shared} {a : Addr} {vs : Array Value} {m : Nat} {r : PV} (hh : A.handled = none) (eg : g a = some { cls := .type "tuple", data := .seq vs m }) (hr : RepL g r vs.toList) (hlt : a < s.heap.objs.size) :
    Src C A g s.heap.objs.size [s.heap.objs.size, a] [s.heap.objs.size] r.items (fun i v => vs[i]? = some v) (fun i h => h.IsTupleIter s.heap.objs.size a i ∧ h.IsTuple a vs) := by
  have hl := RepL.list hr
  have hn : r.items.length = vs.size := by rw [← hl.length, Array.length_toList]
  refine ⟨hn ▸ Walks.tuple hh _ a (Nat.ne_of_lt hlt) vs, fun i p v e1 e2 => hl.get e1 (by rw [Array.getElem?_toList]; exact e2), fun b hb => ?_, fun i h st b hb => ?_⟩
  · simp at hb ⊢
    rcases hb with h | h
    · exact .inl h
    · exact .inr ⟨_, h ▸ eg⟩
  · simp at hb; subst hb
    obtain ⟨⟨o, e, hc, hd⟩, _⟩ := st
    exact ⟨_, e, .mk hc hd (by decide)⟩
noncomputable def numsR (a : Int) : Nat → PV
  | 0 => .nil
  | k + 1 => .cons (.int a) (numsR (a + 1) k)
theorem numsR_items : ∀ (k : Nat) (a : Int), (numsR a k).items.length = k ∧ ∀ (i : Nat) (p : PV), (numsR a k).items[i]? = some p → p = PV.int (a + i)
  | 0, _ => ⟨rfl, fun i p e => by simp [numsR, PV.items] at e⟩
  | k + 1, a => by
    obtain ⟨h1, h2⟩ := numsR_items k (a + 1)
    refine ⟨by show (numsR (a + 1) k).items.length + 1 = _; rw [h1], fun i p e => ?_⟩
    cases i with
    | zero => cases e; simp
    | succ i =>
      have := h2 i p (by simpa [numsR, PV.items] using e)
      rw [this]; congr 1; push_cast; omega
theorem src_range {A : Around} {g : GP} {s : Shared} {a : Int} {k : Nat} (hh : A.handled = none) :
    Src C A g s.heap.objs.size [s.heap.objs.size] [s.heap.objs.size] (numsR a k).items (fun i v => ∃ t, v = .int (a + i * 1) t) (fun i h => IsRangeIter h s.heap.objs.size (a + (i : Nat) * 1) ((k : Int) - (i : Nat)) 1) := by
  obtain ⟨h1, h2⟩ := numsR_items k a
  refine ⟨h1.symm ▸ Walks.range hh _ a 1 k, fun i p v e1 ⟨t, e2⟩ => ?_, fun b hb => .inl hb, fun i h st b hb => ?_⟩
  · rw [h2 i p e1, e2]
    exact ⟨t, by rw [Int.mul_one]⟩
  · simp at hb; subst hb
    exact ⟨_, st, .fields (by decide)⟩
noncomputable def seqI (f : ED) : ED := fun ρ => match f ρ with
  | .ok (.lst r) => if r.items.length ≤ 1000 then .ok r else .stuck
  | .ok (.tup r) => if r.items.length ≤ 1000 then .ok r else .stuck
  | _ => .stuck
theorem young_hw {g : GP} {h : Heap} (w : Wd C g h) : ∀ b ∈ [h.objs.size], g b = none ∧ ¬ Tb b := fun b hb => by
  simp at hb; subst hb
  exact ⟨w.none_new (heap_new _), fun t => by obtain ⟨o, e⟩ := w.tb_live t; rw [heap_new] at e; cases e⟩
theorem is_seq {e : Expr} {f : ED} (h : ESound C n sc names e f) : ISound C n sc names e (seqI f) := fun A env g ρ s Q E ok hp => by
  refine h A env g ρ s _ E ok ?_
  unfold seqI at hp
  cases q : f ρ with
  | stuck => rw [q] at hp; exact hp.elim
  | exc => rw [q] at hp; exact hp.elim
  | ok p =>
    rw [q] at hp
    cases p <;> first | exact hp.elim | skip
    · intro v g1 s1 y1 hv
      have ok1 := ok.after y1
      obtain ⟨a, vs, m, rfl, eg, hr⟩ := hv
      rename_i r
      dsimp only at hp
      split at hp
      · rename_i hlen
        have ho := ok1.wd.sub _ _ eg
        refine PySem.wpAny_pyIter_tuple ⟨_, ho, rfl, m, rfl⟩ ?_
        refine hp _ g1 _ _ _ _ _ (y1.trans (After.grow (tk := s1.toks) ok1.wd fun a x e => Heap.get?_push_of_some _ e)) (src_tup ok.room.calm eg hr (Heap.lt_size ho)) ⟨⟨_, Heap.get?_push_size _ rfl, rfl, rfl⟩, ⟨_, Heap.get?_push_of_some _ ho, rfl, m, rfl⟩⟩
          (fun b hb => by simp at hb; subst hb; exact y1.none (heap_new _)) (young_hw ok1.wd) hlen
      · exact hp.elim
    · intro v g1 s1 y1 hv
      have ok1 := ok.after y1
      obtain ⟨a, vs, m, rfl, eg, hr⟩ := hv
      rename_i r
      dsimp only at hp
      split at hp
      · rename_i hlen
        have ho := ok1.wd.sub _ _ eg
        refine PySem.wpAny_pyIter_list ⟨_, ho, rfl, m, rfl⟩ ?_
        refine hp _ g1 _ _ _ _ _ (y1.trans (After.grow (tk := s1.toks) ok1.wd fun a x e => Heap.get?_push_of_some _ e)) (src_list ok.room.calm eg hr (Heap.lt_size ho)) ⟨⟨_, Heap.get?_push_size _ rfl, rfl, rfl⟩, ⟨_, Heap.get?_push_of_some _ ho, rfl, m, rfl⟩⟩
          (fun b hb => by simp at hb; subst hb; exact y1.none (heap_new _)) (young_hw ok1.wd) hlen
      · exact hp.elim

noncomputable def rangeI1 : PV → R
  | .cons (.int b) .nil => if 0 ≤ b ∧ b ≤ 1000 then .ok (numsR 0 b.toNat) else .stuck
  | _ => .stuck
noncomputable def rangeI2 : PV → R
  | .cons (.int a) (.cons (.int b) .nil) => if 0 ≤ a ∧ a ≤ b ∧ b ≤ 1000 then .ok (numsR a (b - a).toNat) else .stuck
  | _ => .stuck
theorem range_iter {A : Around} {g g1 : GP} {s s1 : Shared} {a b : Int} {k : Nat} {t u v : Tok} {r : Addr} {Q E : Value → Shared → Prop} (hh : A.handled = none) (w : Wd C g1 s1.heap) (y : After C NoMu (fsOf A) g s g1 s1) (hr : IsRange s1.heap r a b 1 t u v) (h0 : 0 ≤ a) (h1 : a ≤ b) (h2 : b ≤ 1000) (hk : k = (b - a).toNat)
    (h : IPost C A g s Q (.ok (numsR a k))) : wpAny C.M A (pyIter (.ref r)) Q E s1 := by
  refine PySem.wpAny_pyIter_range hr (small_one (by omega) (by omega) (by omega) (by omega)) ?_
  have hsz : Builtin.Range.rangeSize a b 1 = (k : Int) := by rw [rangeSize_one]; split <;> omega
  refine h _ g1 _ _ _ _ _ (y.trans (After.grow (tk := s1.toks) w fun a x e => Heap.get?_push_of_some _ e)) (src_range hh) ?_ (fun b hb => by simp at hb; subst hb; exact y.none (heap_new _)) (young_hw w) ?_
  · show IsRangeIter _ _ _ _ _
    rw [hsz]
    have e1 : a + ((0 : Nat) : Int) * 1 = a := by simp
    have e2 : (k : Int) - ((0 : Nat) : Int) = k := by simp
    rw [e1, e2]
    exact Heap.get?_push_size _ rfl
  · rw [(numsR_items k a).1]; omega
theorem is_range1 {x : Str} {np pos : Pos} {e : Expr} {fs : List ED} (hg : GlobIs C sc x (.type "range")) (hk : KOk C (.type "range")) (ha : LSound C n sc names [e] fs)
    (he : ∀ env, starEach [e] env = (false, eval e env) :: starEach [] env := by intro _; rfl) : ISound C n sc names (.Call (.Name x np) [e] [] pos) (fun ρ => (rowD fs ρ).bind rangeI1) := fun A env g ρ s Q E ok h => by
  dsimp only at h
  refine wpAny_Call_ofName (hg n names A env g ρ s np _ E ok ?_)
  refine callWith_sound hk (he env) rfl (ha A env g ρ s _ E pos ok ?_)
  cases q : rowD fs ρ with
  | stuck => rw [q] at h; exact h.elim
  | exc => rw [q] at h; exact h.elim
  | ok p =>
    rw [q] at h
    intro vs g1 s1 y1 hvs
    have ok1 := ok.after y1
    refine ⟨ok1.wd.kin, ?_⟩
    simp only [R.bind] at h
    unfold rangeI1 at h
    split at h
    · rename_i b
      split at h
      · rename_i hb
        obtain ⟨v, ws, rfl, ⟨t, rfl⟩, hn⟩ := hvs
        obtain rfl : ws = [] := hn
        refine call_range_1 ?_
        refine range_iter (a := 0) (b := b) ok.room.calm (Wd.grow ok1.wd fun a x e => Heap.get?_push_of_some _ e) (y1.trans (After.grow (tk := s1.toks + 1 + 1) ok1.wd fun a x e => Heap.get?_push_of_some _ e)) (IsRange.new ..) (Int.le_refl _) hb.1 hb.2 (by simp) h
      · exact h.elim
    · exact h.elim
theorem is_range2 {x : Str} {np pos : Pos} {e e2 : Expr} {fs : List ED} (hg : GlobIs C sc x (.type "range")) (hk : KOk C (.type "range")) (ha : LSound C n sc names [e, e2] fs)
    (he : ∀ env, starEach [e, e2] env = (false, eval e env) :: starEach [e2] env := by intro _; rfl) (hplain : ∀ env, (backTo pos (starEach [e2] env)).any (·.1) = false := by intro _; rfl) : ISound C n sc names (.Call (.Name x np) [e, e2] [] pos) (fun ρ => (rowD fs ρ).bind rangeI2) := fun A env g ρ s Q E ok h => by
  dsimp only at h
  refine wpAny_Call_ofName (hg n names A env g ρ s np _ E ok ?_)
  refine callWith_sound hk (he env) (hplain env) (ha A env g ρ s _ E pos ok ?_)
  cases q : rowD fs ρ with
  | stuck => rw [q] at h; exact h.elim
  | exc => rw [q] at h; exact h.elim
  | ok p =>
    rw [q] at h
    intro vs g1 s1 y1 hvs
    have ok1 := ok.after y1
    refine ⟨ok1.wd.kin, ?_⟩
    simp only [R.bind] at h
    unfold rangeI2 at h
    split at h
    · rename_i a b
      split at h
      · rename_i hb
        obtain ⟨v, ws, rfl, ⟨t, rfl⟩, v2, ws2, rfl, ⟨t2, rfl⟩, hn⟩ := hvs
        obtain rfl : ws2 = [] := hn
        refine call_range_2 ?_
        refine range_iter (a := a) (b := b) ok.room.calm (Wd.grow ok1.wd fun a x e => Heap.get?_push_of_some _ e) (y1.trans (After.grow (tk := s1.toks + 1) ok1.wd fun a x e => Heap.get?_push_of_some _ e)) (IsRange.new ..) hb.1 hb.2.1 hb.2.2 rfl h
      · exact h.elim
    · exact h.elim
end Mine
end

/-! ## F23 -/
section
open PySem PySem.W PyProof.Rows PySem.Calls PySem.SeqAt
set_option maxRecDepth 100000
set_option maxHeartbeats 4000000
set_option linter.unusedVariables false
namespace Mine
variable {C : Cx} {n : Nat} {sc : Scope} {names : List Str}

/-! ### a list that the frame still builds -/
noncomputable def notOwn : PV → Bool
  | .own _ => false
  | _ => true
theorem notOwn_ne {p : PV} (h : notOwn p = true) : ∀ l, p ≠ .own l := fun l e => by subst e; cases h
noncomputable def lone : Nat → List PV → Bool
  | _, [] => true
  | 0, _ :: r => r.all notOwn
  | i + 1, p :: r => notOwn p && lone i r
theorem VarsOk.put {env : Env} {m m' : Str → Option Value} {g : GP} {h h' : Heap} {x : Str} {p : PV} (hk : ∀ y v, VarOk env m h y v → y ≠ x → VarOk env m' h' y v) (hp : ∃ l v, p = .own l ∧ VarOk env m' h' x v ∧ OwnAt g h' env.locals l v) :
    ∀ {names : List Str} {ρ : List PV} {i : Nat}, names.Nodup → names[i]? = some x → lone i ρ = true → VarsOk env m g h names ρ → VarsOk env m' g h' names (setV i p ρ)
  | y :: ys, q :: qs, 0, hnd, e, hl, ⟨_, h2⟩ => by
    cases e
    obtain ⟨hy, _⟩ := List.nodup_cons.mp hnd
    have go : ∀ {ys : List Str} {qs : List PV}, x ∉ ys → qs.all notOwn = true → VarsOk env m g h ys qs → VarsOk env m' g h' ys qs := by
      intro ys
      induction ys with
      | nil => intro qs _ _ hv; cases qs <;> first | trivial | exact hv.elim
      | cons z zs ih =>
        intro qs hx ha hv
        cases qs with
        | nil => exact hv.elim
        | cons r rs =>
          obtain ⟨k1, k2⟩ := hv
          have ha' : notOwn r = true ∧ rs.all notOwn = true := by simpa using ha
          exact ⟨k1.imp id fun k => k.imp (fun ⟨v, a, b⟩ => ⟨v, a, hk z v b fun e => hx (e ▸ List.mem_cons_self)⟩) fun ⟨l, v, e, _⟩ => absurd e (notOwn_ne ha'.1 l), ih (fun e => hx (List.mem_cons_of_mem _ e)) ha'.2 k2⟩
    exact ⟨.inr (.inr hp), go hy hl h2⟩
  | y :: ys, q :: qs, i + 1, hnd, e, hl, ⟨h1, h2⟩ => by
    obtain ⟨hy, hnd'⟩ := List.nodup_cons.mp hnd
    have e' : ys[i]? = some x := by simpa using e
    have hl' : notOwn q = true ∧ lone i qs = true := by simpa [lone] using hl
    refine ⟨h1.imp id fun k => k.imp (fun ⟨v, a, b⟩ => ⟨v, a, hk y v b fun e => hy (e ▸ List.mem_of_getElem? e')⟩) fun ⟨l, v, e, _⟩ => absurd e (notOwn_ne hl'.1 l), VarsOk.put hk hp hnd' e' hl'.2 h2⟩
  | [], _, _, _, e, _, _ => by simp at e
  | _ :: _, [], _, _, _, _, h => h.elim
/-- the list of a name is changed in its place -/
theorem Ok.put {A : Around} {env : Env} {g : GP} {ρ : List PV} {s : Shared} {h' : Heap} {tk i k k' : Nat} {x : Str} {D : Addr} {ys ys' : Array Value} {l' : PV} (ok : Ok C n A sc names env g ρ s) (hnd : names.Nodup) (hi : names[i]? = some x) (ho : lone i ρ = true)
    (hv : ∃ m, s.heap.Ns env.locals m ∧ VarsOk env m g s.heap names ρ ∧ VarOk env m s.heap x (.ref D)) (hD : s.heap.get? D = some (listObj ys k)) (hg : g D = none) (hlt : env.locals < D)
    (hs : Heap.SameBut D s.heap h') (hD' : h'.get? D = some (listObj ys' k')) (hr : RepL g l' ys'.toList) : Ok C n A sc names env g (setV i (.own l') ρ) { s with heap := h', toks := tk } := by
  refine ⟨ok.toOkC.touch hs hg hD listObj_nofields hD' (fun _ _ q => by cases q), ok.code, ?_⟩
  obtain ⟨a1, a2, a3, a4, a5, a6, a7, a8, has, _, _, _⟩ := ok.env
  obtain ⟨m, a9, a10, hx⟩ := hv
  have nd : ∀ b o, s.heap.get? b = some o → (∀ vs j, o.data ≠ .seq vs j) → h'.get? b = some o := fun b o e nl => (hs.2 b fun q => by subst q; rw [hD] at e; cases e; exact nl _ _ rfl).trans e
  have kc : ∀ c v, s.heap.IsCell c v → h'.IsCell c v := fun c v ⟨o, e, d⟩ => ⟨o, nd c o e (fun _ _ q => by rw [d] at q; cases q), d⟩
  have kv : ∀ y v, VarOk env m s.heap y v → VarOk env m h' y v := fun y v q => q.mono fun _ c v _ hc => kc c _ hc
  refine ⟨a1, a2, a3, a4, a5, a6, fun x c hc => ?_, a8, has, m, ?_, VarsOk.put (fun y v q _ => kv y v q) ⟨l', _, rfl, kv _ _ hx, D, ys', k', rfl, hlt, hg, hD', hr⟩ hnd hi ho a10⟩
  · obtain ⟨b1, b2, b3, v, b4⟩ := a7 x c hc
    exact ⟨b1, b2, b3, v, kc c v b4⟩
  · obtain ⟨o, es, ep, e, d, r⟩ := a9
    exact ⟨o, es, ep, nd _ o e (fun _ _ q => by rw [d] at q; cases q), d, r⟩
/-- the value of such a name -/
theorem load_own {A : Around} {env : Env} {g : GP} {ρ : List PV} {s : Shared} {i : Nat} {x : Str} {pos : Pos} {l : PV} {Q E : Value → Shared → Prop} (ok : Ok C n A sc names env g ρ s) (hx : names[i]? = some x) (hp : ρ[i]? = some (.own l))
    (hd : (x == ("__debug__" : Str)) = false) (hc : (x == ("__classdict__" : Str)) = false)
    (h : ∀ D vs k, (∃ m, s.heap.Ns env.locals m ∧ VarsOk env m g s.heap names ρ ∧ VarOk env m s.heap x (.ref D)) → env.locals < D → g D = none → s.heap.get? D = some (listObj vs k) → RepL g l vs.toList → Q (.ref D) s) :
    wpAny C.M A (eval (.Name x pos) env) Q E s := by
  obtain ⟨a1, a2, a3, a4, a5, a6, a7, a8, _, m, a9, a10⟩ := ok.env
  rcases a10.get hx hp with q | ⟨v, hr, _⟩ | ⟨l', v, e, hv, D, vs, k, rfl, h1, h2, h3, h4⟩
  · cases q
  · exact hr.elim
  · cases e
    exact wpAny_Name (load_var (by rw [a1]; exact a2) a9 hv (h D vs k ⟨m, a9, a10, hv⟩ h1 h2 h3 h4) hc) hd
theorem hv_after {A : Around} {env : Env} {g g' : GP} {ρ : List PV} {s s' : Shared} {x : Str} {v : Value} (ok : Ok C n A sc names env g ρ s) (y : After C NoMu (fsOf A) g s g' s')
    (hv : ∃ m, s.heap.Ns env.locals m ∧ VarsOk env m g s.heap names ρ ∧ VarOk env m s.heap x v) : ∃ m, s'.heap.Ns env.locals m ∧ VarsOk env m g' s'.heap names ρ ∧ VarOk env m s'.heap x v := by
  obtain ⟨m, m1, m2, m3⟩ := hv
  have kc : ∀ x c v, env.cells.lookup x = some c → s.heap.IsCell c v → s'.heap.IsCell c v := fun x c v hc hcc => isCell_slots hcc fun o e => y.ext.slots c o e (fun q => q) (ok.env.cells x c hc).2.1
  refine ⟨m, ns_slots m1 fun o e => y.ext.slots _ o e (fun q => q) ok.env.nl, ?_, m3.mono kc⟩
  refine m2.mono y.mono kc fun a vs k hg hh => ?_
  exact (y.midP (pr := Prot0) ok.toOkC fun _ p => p.1).kp a _ hh listObj_prot0 (tabNoData ok.wd hh listObj_nofields) hg
noncomputable def ownD (i : Nat) (ρ : List PV) : Option PV := match ρ[i]? with
  | some (.own l) => if lone i ρ && decide (l.len ≤ 5000) then some l else none
  | _ => none
theorem ownD_some {i : Nat} {ρ : List PV} {l : PV} (h : ownD i ρ = some l) : ρ[i]? = some (.own l) ∧ lone i ρ = true ∧ l.len ≤ 5000 := by
  unfold ownD at h
  split at h
  · rename_i l' e
    split at h
    · rename_i hb
      cases h
      have := Bool.and_eq_true_iff.mp hb
      exact ⟨e, this.1, of_decide_eq_true this.2⟩
    · cases h
  · cases h
noncomputable def appendD (i : Nat) (f : ED) : SD := fun ρ => match ownD i ρ with
  | some l => match f ρ with
    | .ok p => .next (setV i (.own (l.app (.cons p .nil))) ρ)
    | _ => .stuck
  | none => .stuck
theorem own_young {A : Around} {env : Env} {g0 g : GP} {s0 s : Shared} {D : Addr} (en : Entry env s0) (h : env.locals < D) : s0.heap.get? D = none := Heap.get?_none_of_le (Nat.le_of_lt (Nat.lt_of_le_of_lt en.low h))
theorem ss_Append (i : Nat) {x : Str} {np ap cpos pos : Pos} {arg : Expr} {f : ED} (hx : names[i]? = some x) (hnd : names.Nodup) (ha : ESound C n sc names arg f)
    (hd : (x == ("__debug__" : Str)) = false := by decide) (hc : (x == ("__classdict__" : Str)) = false := by decide)
    (hb : ∀ env, backTo cpos (starEach [arg] env) = [(false, eval arg env)] := by intro _; rfl)
    (he : ∀ env, eval (.Call (.Attribute (.Name x np) "append" ap) [arg] [] cpos) env = (do let ov ← eval (.Name x np) env; standAt ap.atName; let (f, first) ← holding [ov] (getMethod ov "append" (do return (← importBound (.Name x np) env).getD true)); callWith cpos f first (backTo cpos (starEach [arg] env)) (backToKw cpos (keywordEach [] env))) := by intro _; rfl) :
    SSound C n sc names (.Expr (.Call (.Attribute (.Name x np) "append" ap) [arg] [] cpos) pos) (appendD i f) := fun A env g0 s0 g ρ s Q E ok en y h => by
  unfold appendD at h
  cases q : ownD i ρ with
  | none => rw [q] at h; exact h.elim
  | some l =>
    rw [q] at h
    obtain ⟨hρ, hlone, hlen⟩ := ownD_some q
    refine wpAny_Expr ?_ (by unfold interactive; rw [ok.env.scope, ok.env.kind]; rfl) rfl
    refine methodCall_KW (he := he env) (load_own ok hx hρ hd hc fun D vs k hv hlt hg hD hr => ?_)
    refine getMethod_list_of PySem.F.slot_list_append PySem.F.type_list_append ⟨_, hD, rfl, k, rfl⟩ ⟨_, hD, rfl⟩ ?_
    show wpAny C.M A (callWith cpos (.builtin "list.append") [.ref D] (backTo cpos (starEach [arg] env)) []) _ E s
    rw [hb env]
    refine PySem.P.append_list (ha A env g ρ s _ E ok ?_)
    cases hf : f ρ with
    | stuck => rw [hf] at h; exact h.elim
    | exc => rw [hf] at h; exact h.elim
    | ok p =>
      rw [hf] at h
      intro v g1 s1 y1 hv1
      have ok1 := ok.after y1
      obtain ⟨e1, e2⟩ := (y1.midP (pr := Prot0) ok.toOkC fun _ p => p.1).kp D _ hD listObj_prot0 (tabNoData ok.wd hD listObj_nofields) hg
      have hsz : vs.size = l.len := by rw [← (RepL.row hr).2, Array.length_toList]
      refine ⟨vs, k, by rw [hsz, sizeLine_eq]; omega, e1, ?_⟩
      have hs : Heap.SameBut D s1.heap (s1.heap.update D (Obj.mapSeq fun xs => xs.push v)) := Heap.SameBut.update ..
      obtain ⟨k', hD'⟩ : ∃ k', (s1.heap.update D (Obj.mapSeq fun xs => xs.push v)).get? D = some (listObj (vs.push v) k') := ⟨_, PySem.IsL.update e1 _⟩
      show Q .next _
      refine h g1 _ ((y.trans y1).touch (tk := s1.toks) hs e2 e1 listObj_nofields (own_young (A := A) (g0 := g0) (g := g) (s := s) en hlt)) ((y1.mid ok.toOkC).trans (MidP.touch hs e1 fun p => p.2.2 rfl)) ?_
      refine ok1.put (tk := s1.toks) hnd hx hlone (hv_after ok y1 hv) e1 e2 hlt hs hD' ?_
      rw [Array.toList_push]
      exact RepL.app (hr.mono y1.mono) ⟨v, [], rfl, hv1, rfl⟩

noncomputable def extendD (i : Nat) (f : ED) : SD := fun ρ => match ownD i ρ with
  | some l => match f ρ with
    | .ok (.lst r) => if r.len ≤ 5000 then .next (setV i (.own (l.app r)) ρ) else .stuck
    | _ => .stuck
  | none => .stuck
theorem ss_Extend (i : Nat) {x : Str} {np ap cpos pos : Pos} {arg : Expr} {f : ED} (hx : names[i]? = some x) (hnd : names.Nodup) (ha : ESound C n sc names arg f)
    (hd : (x == ("__debug__" : Str)) = false := by decide) (hc : (x == ("__classdict__" : Str)) = false := by decide)
    (hb : ∀ env, backTo cpos (starEach [arg] env) = [(false, eval arg env)] := by intro _; rfl)
    (he : ∀ env, eval (.Call (.Attribute (.Name x np) "extend" ap) [arg] [] cpos) env = (do let ov ← eval (.Name x np) env; standAt ap.atName; let (f, first) ← holding [ov] (getMethod ov "extend" (do return (← importBound (.Name x np) env).getD true)); callWith cpos f first (backTo cpos (starEach [arg] env)) (backToKw cpos (keywordEach [] env))) := by intro _; rfl) :
    SSound C n sc names (.Expr (.Call (.Attribute (.Name x np) "extend" ap) [arg] [] cpos) pos) (extendD i f) := fun A env g0 s0 g ρ s Q E ok en y h => by
  unfold extendD at h
  cases q : ownD i ρ with
  | none => rw [q] at h; exact h.elim
  | some l =>
    rw [q] at h
    obtain ⟨hρ, hlone, hlen⟩ := ownD_some q
    refine wpAny_Expr ?_ (by unfold interactive; rw [ok.env.scope, ok.env.kind]; rfl) rfl
    refine methodCall_KW (he := he env) (load_own ok hx hρ hd hc fun D vs k hv hlt hg hD hr => ?_)
    refine getMethod_list_of PySem.F.slot_list_extend PySem.F.type_list_extend ⟨_, hD, rfl, k, rfl⟩ ⟨_, hD, rfl⟩ ?_
    show wpAny C.M A (callWith cpos (.builtin "list.extend") [.ref D] (backTo cpos (starEach [arg] env)) []) _ E s
    rw [hb env]
    refine PySem.P.extend_list (ha A env g ρ s _ E ok ?_)
    cases hf : f ρ with
    | stuck => rw [hf] at h; exact h.elim
    | exc => rw [hf] at h; exact h.elim
    | ok p =>
      rw [hf] at h
      cases p <;> first | exact h.elim | skip
      rename_i r
      dsimp only at h
      split at h
      · rename_i hrl
        rintro v g1 s1 y1 ⟨b, vs2, n2, rfl, eg, hr2⟩
        have ok1 := ok.after y1
        obtain ⟨e1, e2⟩ := (y1.midP (pr := Prot0) ok.toOkC fun _ p => p.1).kp D _ hD listObj_prot0 (tabNoData ok.wd hD listObj_nofields) hg
        have hsz : vs.size = l.len := by rw [← (RepL.row hr).2, Array.length_toList]
        have hsz2 : vs2.size = r.len := by rw [← (RepL.row hr2).2, Array.length_toList]
        have big : vs.size + vs2.size ≤ sizeLine := by rw [hsz, hsz2, sizeLine_eq]; omega
        refine ⟨b, vs, vs2, k, n2, Nat.le_trans (Nat.le_add_right _ _) big, Nat.le_succ_of_le big, ?_, rfl, e1, ok1.wd.sub _ _ eg, ?_⟩
        · have : Builtin.List.listTooLong (vs.size + vs2.size) = false := by unfold Builtin.List.listTooLong; exact decide_eq_false (Nat.not_lt.mpr big)
          rw [this, Bool.and_false]; exact Bool.false_ne_true
        have hs : Heap.SameBut D s1.heap (s1.heap.update D (Obj.mapSeq fun xs => xs ++ vs2)) := Heap.SameBut.update ..
        obtain ⟨k', hD'⟩ : ∃ k', (s1.heap.update D (Obj.mapSeq fun xs => xs ++ vs2)).get? D = some (listObj (vs ++ vs2) k') := ⟨_, PySem.IsL.update e1 _⟩
        show Q .next _
        refine h g1 _ ((y.trans y1).touch (tk := s1.toks) hs e2 e1 listObj_nofields (own_young (A := A) (g0 := g0) (g := g) (s := s) en hlt)) ((y1.mid ok.toOkC).trans (MidP.touch hs e1 fun p => p.2.2 rfl)) ?_
        refine ok1.put (tk := s1.toks) hnd hx hlone (hv_after ok y1 hv) e1 e2 hlt hs hD' ?_
        rw [Array.toList_append]
        exact RepL.app (hr.mono y1.mono) hr2
      · exact h.elim

/-! ### the list goes out of the frame -/
theorem After.adopt' {mu : Addr → Prop} {fs : List Addr} {g g' : GP} {s s' : Shared} (x : After C mu fs g s g' s') {a : Addr} {o : Obj} (hn : s.heap.get? a = Option.none) (hg : g' a = Option.none) (he : s'.heap.get? a = some o) (ht : ¬ Tb a) :
    After C mu fs g s (g'.add a o) s' := by
  refine ⟨x.eq, x.ext, x.mono.trans (GP.le_add hg), ?_, fun b ob e => ?_⟩
  · refine ⟨fun b ob e => GP.le_add hg _ _ (x.wd.base b ob e), fun b ob e => ?_, fun b t => ?_, x.wd.t1.to (fun b ob e => GP.le_add hg _ _ e) (fun _ e => e), x.wd.t2.to (fun b ob e => GP.le_add hg _ _ e) (fun _ e => e)⟩
    · unfold GP.add at e
      by_cases q : b = a
      · rw [if_pos q] at e; cases e; rw [q]; exact he
      · rw [if_neg q] at e; exact x.wd.sub b ob e
    · unfold GP.add
      by_cases q : b = a
      · subst q; exact absurd t ht
      · rw [if_neg q]; exact x.wd.nt b t
  · unfold GP.add at e
    by_cases q : b = a
    · rw [q]; exact .inr hn
    · rw [if_neg q] at e; exact x.fresh b ob e
theorem own_adopt {A : Around} {env : Env} {g0 g : GP} {s0 s : Shared} {D : Addr} {vs : Array Value} {k : Nat} {l : PV} (y : After C NoMu (fsOf A) g0 s0 g s) (hn : s0.heap.get? D = none) (hg : g D = none) (hD : s.heap.get? D = some (listObj vs k)) (hr : RepL g l vs.toList) :
    ∃ g', After C NoMu (fsOf A) g0 s0 g' s ∧ Rep g' (.lst l) (.ref D) :=
  ⟨g.add D (listObj vs k), y.adopt' hn hg hD (tabNoData y.wd hD listObj_nofields), D, vs, k, rfl, GP.add_self .., hr.mono (GP.le_add hg)⟩
noncomputable def retOwnD (i : Nat) : SD := fun ρ => match ownD i ρ with
  | some l => .ret (.lst l)
  | none => .stuck
theorem ss_ReturnOwn (i : Nat) {x : Str} {np pos : Pos} (hx : names[i]? = some x) (hd : (x == ("__debug__" : Str)) = false := by decide) (hc : (x == ("__classdict__" : Str)) = false := by decide) :
    SSound C n sc names (.Return (some (.Name x np)) pos) (retOwnD i) := fun A env g0 s0 g ρ s Q E ok en y h => by
  unfold retOwnD at h
  cases q : ownD i ρ with
  | none => rw [q] at h; exact h.elim
  | some l =>
    rw [q] at h
    obtain ⟨hρ, hlone, hlen⟩ := ownD_some q
    refine wpAny_Return_some (load_own ok hx hρ hd hc fun D vs k hv hlt hg hD hr => ?_)
    have hn := own_young (A := A) (g0 := g0) (g := g) (s := s) en hlt
    obtain ⟨g', y', hr'⟩ := own_adopt (env := env) y hn hg hD hr
    exact h _ g' s y' hr'
/-- the list and one more: a new list -/
noncomputable def addOwnD (i : Nat) (f : ED) : ED := fun ρ => match ownD i ρ with
  | some l => match f ρ with
    | .ok (.lst r) => if r.len ≤ 5000 then .ok (.lst (l.app r)) else .stuck
    | _ => .stuck
  | none => .stuck
theorem es_addOwn (i : Nat) {x : Str} {np pos : Pos} {e2 : Expr} {f : ED} (hx : names[i]? = some x) (h2 : ESound C n sc names e2 f) (hd : (x == ("__debug__" : Str)) = false := by decide) (hc : (x == ("__classdict__" : Str)) = false := by decide) :
    ESound C n sc names (.BinOp (.Name x np) .Add e2 pos) (addOwnD i f) := fun A env g ρ s Q E ok h => by
  unfold addOwnD at h
  cases q : ownD i ρ with
  | none => rw [q] at h; exact h.elim
  | some l =>
    rw [q] at h
    obtain ⟨hρ, hlone, hlen⟩ := ownD_some q
    refine wpAny_BinOp (load_own ok hx hρ hd hc fun D vs k hv hlt hg hD hr => h2 A env g ρ s _ E ok ?_)
    cases hf : f ρ with
    | stuck => rw [hf] at h; exact h.elim
    | exc => rw [hf] at h; exact h.elim
    | ok p =>
      rw [hf] at h
      cases p <;> first | exact h.elim | skip
      rename_i r
      dsimp only at h
      split at h
      · rename_i hrl
        rintro v g1 s1 y1 ⟨b, vs2, n2, rfl, eg, hr2⟩
        have ok1 := ok.after y1
        obtain ⟨e1, e2⟩ := (y1.midP (pr := Prot0) ok.toOkC fun _ p => p.1).kp D _ hD listObj_prot0 (tabNoData ok.wd hD listObj_nofields) hg
        refine PySem.P.add_list e1 (ok1.wd.sub _ _ eg) ?_ ?_
        · exact h _ _ _ (y1.trans (After.lay (tk := s1.toks) ok1.wd rfl)) ⟨_, _, _, rfl, GP.add_self .., by
            rw [Array.toList_append]
            exact (RepL.app (RepL.mono (GP.le_add (ok1.wd.none_new (heap_new _))) (hr.mono y1.mono)) (RepL.mono (GP.le_add (ok1.wd.none_new (heap_new _))) hr2))⟩
        · have h1 := (RepL.row hr).2; have h2 := (RepL.row hr2).2
          rw [Array.length_toList] at h1 h2
          rw [sizeLine_eq]; omega
      · exact h.elim
/-- an empty list that is going to be filled -/
theorem ss_AssignNil {x : Str} {i : Nat} {lp p1 pos : Pos} (hnd : names.Nodup) (hi : at? x names = some i) (hb : bindable sc x = true)
    (hs : ∀ env : Env, env.scope = sc → swapsWith (.List [] lp) (some (.Name x p1)) pos.line env = pure false := by intro _ _; rfl) :
    SSound C n sc names (.Assign [.Name x p1] (.List [] lp) pos) (fun ρ => .next (setV i (.own .nil) ρ)) := fun A env g0 s0 g ρ s Q E ok en y hp => by
  refine wpAny_Assign_Name (hs := hs env ok.env.scope) (PySem.wpAny_List (wpAny_items_nil ⟨Nat.zero_le _, ?_⟩))
  have kk : ∀ a o, s.heap.get? a = some o → (s.heap.push { cls := .type "list", data := .seq ([] : List Value).toArray }).get? a = some o := fun a o e => Heap.get?_push_of_some _ e
  have ok1 := ok.grow kk
  have y1 : After C NoMu (fsOf A) g s g { s with heap := s.heap.push { cls := .type "list", data := .seq ([] : List Value).toArray }, toks := s.toks } := After.grow ok.wd kk
  have hLs : env.locals < s.heap.objs.size := by obtain ⟨m, ⟨o, _, _, e, _⟩, _⟩ := ok.env.vars; exact Heap.lt_size e
  refine store_ok ok1 en (y.trans y1) hnd hi hb (.inr ⟨.nil, rfl, s.heap.objs.size, #[], 0, rfl, hLs, ok.wd.none_new (heap_new _), Heap.get?_push_size _ rfl, rfl⟩) fun s2 y2 mi ok2 => hp g s2 y2 ((y1.mid ok.toOkC).trans mi) ok2
end Mine
end

/-! ## F24 -/
section
open PySem PySem.W PyProof.Rows PySem.Calls PySem.SeqAt
set_option maxRecDepth 100000
set_option maxHeartbeats 4000000
set_option linter.unusedVariables false
namespace Mine
variable {C : Cx} {n : Nat} {sc : Scope} {names : List Str}

/-! ### for -/
structure Draw (C : Cx) (n : Nat) (A : Around) (sc : Scope) (names : List Str) (env : Env) (tgt : Expr) (I : Addr) (yr : List Addr) (set : PV → List PV → List PV) (ps : List PV) (St : Nat → Heap → Prop) (g : GP) : Prop where
  live : ∀ i h, St i h → ∀ b ∈ yr, ∃ o, h.get? b = some o ∧ Prot o
  frame : ∀ i h h' g1 g2, GLe g g1 → St i h → Wd C g1 h → Wd C g2 h' → (∀ b ∈ yr, g1 b = none ∧ ¬ Tb b) → Mid g1 h g2 h' → St i h'
  item : ∀ (i : Nat) (p : PV) (gS : GP) (sS : Shared) (g0 : GP) (s0 : Shared) (g1 : GP) (ρ : List PV) (s : Shared) (E : Value → Shared → Prop) (K : Shared → Prop), ps[i]? = some p → GLe g g1 → St i s.heap → (∀ b ∈ yr, g1 b = none ∧ ¬ Tb b) → (∀ b ∈ yr, sS.heap.get? b = none) → (∀ b ∈ yr, s0.heap.get? b = none) →
    Ok C n A sc names env g1 ρ s → Entry env s0 → After C NoMu (fsOf A) g0 s0 g1 s → Mid gS sS.heap g1 s.heap →
    (∀ s', After C NoMu (fsOf A) g0 s0 g1 s' → Mid gS sS.heap g1 s'.heap → Ok C n A sc names env g1 (set p ρ) s' → St (i + 1) s'.heap → K s') →
    wpAny C.M A (pyNext (.ref I)) (fun r s₁ => match r with
      | none => False
      | some v => wpAny C.M A (letOwnedTupleGo tgt (.ref I) v) (fun _ s₁' => wpAny C.M A (assign tgt env v) (fun _ s₂ => K s₂) E s₁') E s₁) E s
  done : ∀ (gS : GP) (sS : Shared) (g0 : GP) (s0 : Shared) (g1 : GP) (ρ : List PV) (s : Shared) (E : Value → Shared → Prop) (K : Shared → Prop), GLe g g1 → St ps.length s.heap → (∀ b ∈ yr, g1 b = none ∧ ¬ Tb b) → (∀ b ∈ yr, sS.heap.get? b = none) → (∀ b ∈ yr, s0.heap.get? b = none) →
    Ok C n A sc names env g1 ρ s → After C NoMu (fsOf A) g0 s0 g1 s → Mid gS sS.heap g1 s.heap →
    (∀ s', After C NoMu (fsOf A) g0 s0 g1 s' → Mid gS sS.heap g1 s'.heap → Ok C n A sc names env g1 ρ s' → K s') →
    wpAny C.M A (pyNext (.ref I)) (fun r s₁ => match r with
      | none => K s₁
      | some v => False) E s

noncomputable def forD (set : PV → List PV → List PV) (F : SD) : List PV → SD
  | [], ρ => .next ρ
  | x :: r, ρ => match F (set x ρ) with
    | .next ρ' => forD set F r ρ'
    | .ret p => .ret p
    | _ => .stuck
theorem for_loop {A : Around} {env : Env} {tgt : Expr} {I : Addr} {yr : List Addr} {set : PV → List PV → List PV} {ps : List PV} {St : Nat → Heap → Prop} {body : List Stmt} {F : SD} {gS g0 g : GP} {sS s0 s : Shared} {ρ : List PV} {Q : Flow → Shared → Prop} {E : Value → Shared → Prop} {R : Result → Shared → Prop}
    (D : Draw C n A sc names env tgt I yr set ps St g) (hb : BSound C n sc names body F) (st : St 0 s.heap) (hw : ∀ b ∈ yr, g b = none ∧ ¬ Tb b) (hwS : ∀ b ∈ yr, sS.heap.get? b = none) (hw0 : ∀ b ∈ yr, s0.heap.get? b = none)
    (ok : Ok C n A sc names env g ρ s) (en : Entry env s0) (y : After C NoMu (fsOf A) g0 s0 g s) (mi : Mid gS sS.heap g s.heap) (hR : ∀ f s', Q f s' → R (.ok f) s')
    (h : SPost C n A sc names env g0 s0 gS sS Q E (forD set F ps ρ)) : codeAny C.M A (.forLoop tgt (.ref I) body [] env) R s := by
  refine codeAny_forLoop_any
    (fun k s' => ∃ i g1 ρ1, After C NoMu (fsOf A) g0 s0 g1 s' ∧ Mid gS sS.heap g1 s'.heap ∧ GLe g g1 ∧ Ok C n A sc names env g1 ρ1 s' ∧ St i s'.heap ∧ (∀ b ∈ yr, g1 b = none ∧ ¬ Tb b) ∧ forD set F (ps.drop i) ρ1 = forD set F ps ρ ∧ i ≤ ps.length ∧ k = ps.length + 1 - i) ?_ (ps.length + 1)
    ⟨0, g, ρ, y, mi, .refl _, ok, st, hw, rfl, Nat.zero_le _, rfl⟩
  rintro k s' ⟨i, g1, ρ1, y1, mi1, kg, ok1, st1, hw1, hf, hi, rfl⟩
  by_cases hlt : i < ps.length
  · have hdrop : ps.drop i = ps[i] :: ps.drop (i + 1) := List.drop_eq_getElem_cons hlt
    have hget : ps[i]? = some ps[i] := List.getElem?_eq_getElem hlt
    refine wpAny_mono (D.item i ps[i] gS sS g0 s0 g1 ρ1 s' _ _ hget kg st1 hw1 hwS hw0 ok1 en y1 mi1 fun s2 y2 mi2 ok2 st2 => ?_) (fun r s1 h1 => by
      cases r with
      | none => exact h1.elim
      | some v => exact h1) fun _ _ e => e
    refine hb A env g0 s0 g1 _ s2 _ _ ok2 en y2 ?_
    rw [hdrop, forD] at hf
    rw [← hf] at h
    cases hF : F (set ps[i] ρ1) with
    | next ρ' =>
      rw [hF] at h hf
      intro g3 s3 y3 mi3 ok3
      exact ⟨ps.length + 1 - (i + 1), by omega, i + 1, g3, ρ', y3, mi2.trans mi3, kg.trans mi3.le, ok3, D.frame _ _ _ _ _ kg st2 ok2.wd ok3.wd hw1 mi3, mi3.none hw1 (D.live _ _ st2), hf, hlt, rfl⟩
    | ret p =>
      rw [hF] at h
      intro v g3 s3 y3 hv
      exact hR _ _ (h v g3 s3 y3 hv)
    | exc => rw [hF] at h; exact h.elim
    | stuck => rw [hF] at h; exact h.elim
  · have hin : i = ps.length := by omega
    subst hin
    refine wpAny_mono (D.done gS sS g0 s0 g1 ρ1 s' _ (fun s2 => R (.ok .next) s2) kg st1 hw1 hwS hw0 ok1 y1 mi1 fun s2 y2 mi2 ok2 => ?_) (fun r s1 h1 => by
      cases r with
      | none => exact wpAny_execs_nil h1
      | some v => exact h1.elim) fun _ _ e => e
    rw [List.drop_length] at hf
    rw [← hf] at h
    exact hR _ _ (h g1 s2 y2 mi2 ok2)

theorem draw_name {A : Around} {env : Env} {x : Str} {px : Pos} {i0 : Nat} {I : Addr} {fp wr : List Addr} {ps : List PV} {P : Nat → Value → Prop} {St : Nat → Heap → Prop} {g : GP} (S : Src C A g I fp wr ps P St) (hnd : names.Nodup) (hi : at? x names = some i0) (hb : bindable sc x = true) :
    Draw C n A sc names env (.Name x px) I wr (fun p ρ => setV i0 p ρ) ps St g where
  live := S.live
  frame := fun i h h' g1 g2 kg st w w' hw mi => (S.mono kg).frame st w w' hw mi
  item := fun i p gS sS g0 s0 g1 ρ s E K hp kg st hw hwS hw0 ok en y mi hK => by
    have S' := S.mono kg
    have hlt : i < ps.length := by
      rcases Nat.lt_or_ge i ps.length with h | h
      · exact h
      · rw [List.getElem?_eq_none h] at hp; cases hp
    refine S'.W.item i _ _ _ hlt st fun v h1 tk1 hPv st1 k1 => ?_
    have hp' := S'.live i _ st
    have ok1 := ok.steps (tk := tk1) hw hp' k1
    have y1 := y.steps (tk := tk1) hw hw0 k1
    have hr := S'.val i _ v hp hPv
    show wpAny C.M A (pure ()) _ E _
    refine wpAny_pure (assign_Name (store_ok ok1 en y1 hnd hi hb (.inl hr) fun s2 y2 m2 ok2 => ?_))
    exact hK s2 y2 ((Mid.steps mi hwS k1).trans m2) ok2 (S'.frame st1 ok1.wd ok2.wd hw m2)
  done := fun gS sS g0 s0 g1 ρ s E K kg st hw hwS hw0 ok y mi hK => by
    have S' := S.mono kg
    refine S'.W.done _ _ _ st fun h1 tk1 k1 => ?_
    exact hK _ (y.steps (tk := tk1) hw hw0 k1) (Mid.steps mi hwS k1) (ok.steps (tk := tk1) hw (S'.live _ _ st) k1)
theorem ss_For {x : Str} {px pos : Pos} {iter : Expr} {body : List Stmt} {i0 : Nat} {fi : ED} {F : SD} (hi : ISound C n sc names iter fi) (hb : BSound C n sc names body F) (hnd : names.Nodup) (hx : at? x names = some i0) (hbd : bindable sc x = true)
    (hs : ∀ env : Env, ∀ x, foldedSetIterable iter env x = pure x := by intro _ _; rfl) :
    SSound C n sc names (.For (.Name x px) iter body [] pos) (fun ρ => match fi ρ with
      | .ok p => forD (fun p ρ => setV i0 p ρ) F p.items ρ
      | _ => .stuck) := fun A env g0 s0 g ρ s Q E ok en y h => by
  dsimp only at h
  cases q : fi ρ with
  | stuck => rw [q] at h; exact h.elim
  | exc => rw [q] at h; exact h.elim
  | ok p =>
    rw [q] at h
    refine wpAny_For (hi A env g ρ s _ E ok ?_) (hs env)
    rw [q]
    intro I g1 s1 fp wr P St y1 S st hwS hw hlen
    exact for_loop (draw_name S hnd hx hbd) hb st hw hwS (fun b hb => y.none (hwS b hb)) (ok.after y1) en (y.trans y1) (y1.mid ok.toOkC) (fun f s' q => q) h

/-! ### pairs -/
structure SrcT (C : Cx) (A : Around) (g : GP) (I : Addr) (fp wr yr : List Addr) (ps : List PV) (Pt : Nat → Array Value → Prop) (St : Nat → Heap → Prop) (Md : Nat → Addr → Heap → Prop) : Prop where
  W : WalksT PG C.w A I fp wr ps.length Pt St Md
  sub : ∀ b ∈ wr, b ∈ yr
  val : ∀ i p vals, ps[i]? = some p → Pt i vals → ∃ a b v0 v1, p = .tup (.cons a (.cons b .nil)) ∧ vals = #[v0, v1] ∧ Rep g a v0 ∧ Rep g b v1
  kept : ∀ b ∈ fp, b ∈ yr ∨ ∃ o, g b = some o
  live : ∀ i h, St i h → ∀ b ∈ yr, ∃ o, h.get? b = some o ∧ Prot o
  liveM : ∀ i T h, Md i T h → ∀ b ∈ yr, ∃ o, h.get? b = some o ∧ Prot o
noncomputable def pairSet (i0 i1 : Nat) (p : PV) (ρ : List PV) : List PV := match p with
  | .tup (.cons a (.cons b .nil)) => setV i1 b (setV i0 a ρ)
  | _ => ρ
theorem SrcT.frame {A : Around} {g g1 g2 : GP} {I : Addr} {fp wr yr : List Addr} {ps : List PV} {Pt : Nat → Array Value → Prop} {St : Nat → Heap → Prop} {Md : Nat → Addr → Heap → Prop} {i : Nat} {h h' : Heap} (S : SrcT C A g I fp wr yr ps Pt St Md) (kg : GLe g g1)
    (st : St i h) (w : Wd C g1 h) (w' : Wd C g2 h') (hw : ∀ b ∈ yr, g1 b = none ∧ ¬ Tb b) (m : Mid g1 h g2 h') : St i h' := by
  refine S.W.frame i h h' st fun b hb o e => ?_
  rcases S.kept b hb with q | ⟨o', q⟩
  · obtain ⟨o2, e2, p⟩ := S.live i h st b q
    rw [e] at e2; cases e2
    exact (m.kp b o e p (hw b q).2 (hw b q).1).1
  · have := w.sub _ _ (kg _ _ q)
    rw [e] at this; cases this
    exact w'.sub _ _ (m.le _ _ (kg _ _ q))
theorem draw_pair {A : Around} {env : Env} {x0 x1 : Str} {p0 p1 pt : Pos} {k i0 i1 : Nat} {I : Addr} {fp wr yr : List Addr} {ps : List PV} {Pt : Nat → Array Value → Prop} {St : Nat → Heap → Prop} {Md : Nat → Addr → Heap → Prop} {g : GP} (S : SrcT C A g I fp wr yr ps Pt St Md) (hnd : names.Nodup)
    (h0 : at? x0 names = some i0) (h1 : at? x1 names = some i1) (hb0 : bindable sc x0 = true) (hb1 : bindable sc x1 = true) :
    Draw C n A sc names env (.Tuple [.Name x0 p0, .Name x1 p1] k pt) I yr (pairSet i0 i1) ps St g where
  live := S.live
  frame := fun i h h' g1 g2 kg st w w' hw mi => S.frame kg st w w' hw mi
  item := fun i p gS sS g0 s0 g1 ρ s E K hp kg st hw hwS hw0 ok en y mi hK => by
    have hlt : i < ps.length := by
      rcases Nat.lt_or_ge i ps.length with h | h
      · exact h
      · rw [List.getElem?_eq_none h] at hp; cases hp
    refine S.W.item i _ _ _ hlt st fun T vals h1' tk1 hPt hTs hT hM k1 => ?_
    have hp' := S.live i _ st
    have k1' : ∀ b o, b ∉ yr → s.heap.get? b = some o → h1'.get? b = some o := fun b o hb e => k1 b o (fun q => hb (S.sub b q)) e
    have ok1 := ok.steps (tk := tk1) hw hp' k1'
    have y1 := y.steps (tk := tk1) hw hw0 k1'
    have m1 := Mid.steps mi hwS k1'
    refine S.W.go _ k pt i T _ _ _ hM fun h2 st2 k2 => ?_
    have k2' : ∀ b o, b ∉ yr → h1'.get? b = some o → h2.get? b = some o := fun b o hb e => k2 b o (fun q => hb (S.sub b q)) e
    have ok2 := ok1.steps (tk := tk1) hw (S.liveM _ _ _ hM) k2'
    have y2 := y1.steps (tk := tk1) hw hw0 k2'
    have m2 := Mid.steps m1 hwS k2'
    obtain ⟨a, b, v0, v1, rfl, rfl, ha, hb⟩ := S.val i p vals hp hPt
    have hT2 : h2.IsTuple T #[v0, v1] := hT.at fun o e => k2 T o (S.W.apart i T _ hM) e
    refine PyProof.Rows.assign_Tuple_tuple ok.room.calm hT2 rfl rfl fun h3 hx3 => ?_
    have kk := extBut_keeps hx3
    have ok3 := ok2.grow (h' := h3) kk
    have y3 := y2.trans (After.grow (s := { s with heap := h2, toks := tk1 }) (tk := tk1) ok2.wd kk)
    have m3 : Mid gS sS.heap g1 h3 := m2.trans ⟨.refl _, fun b o e _ _ e' => ⟨kk b o e, e'⟩⟩
    have st3 := S.frame (g2 := g1) kg st2 ok2.wd ok3.wd hw ⟨.refl _, fun b o e _ _ e' => ⟨kk b o e, e'⟩⟩
    refine stores_ok (sc := sc) (names := names) (n := n) (C := C) (g := g1) (g0 := g0) (s0 := s0) (xs := [x0, x1]) (is := [i0, i1]) (ps := [a, b]) (ρ := ρ) en hnd (Targets.ok (.cons (.cons .nil))) ⟨h0, h1, trivial⟩ (by simp [hb0, hb1]) rfl ⟨ha.mono kg, hb.mono kg, trivial⟩ ok3 y3 fun s4 y4 m4 ok4 => ?_
    exact hK s4 y4 (m3.trans m4) ok4 (S.frame kg st3 ok3.wd ok4.wd hw m4)
  done := fun gS sS g0 s0 g1 ρ s E K kg st hw hwS hw0 ok y mi hK => by
    refine S.W.done _ _ _ st fun h1' tk1 k1 => ?_
    have k1' : ∀ b o, b ∉ yr → s.heap.get? b = some o → h1'.get? b = some o := fun b o hb e => k1 b o (fun q => hb (S.sub b q)) e
    exact hK _ (y.steps (tk := tk1) hw hw0 k1') (Mid.steps mi hwS k1') (ok.steps (tk := tk1) hw (S.live _ _ st) k1')
end Mine
end

/-! ## F25 -/
section
open PySem PySem.W PyProof.Rows PySem.Calls PySem.SeqAt
set_option maxRecDepth 100000
set_option maxHeartbeats 4000000
set_option linter.unusedVariables false
namespace Mine
variable {C : Cx} {n : Nat} {sc : Scope} {names : List Str}

theorem SrcT.of {A : Around} {g : GP} {I : Addr} {fp wr yr : List Addr} {ps : List PV} {m : Nat} {Pt : Nat → Array Value → Prop} {St : Nat → Heap → Prop} {Md : Nat → Addr → Heap → Prop} (W : WalksT PG C.w A I fp wr m Pt St Md) (hm : m = ps.length) (sub : ∀ b ∈ wr, b ∈ yr)
    (val : ∀ i p vals, ps[i]? = some p → Pt i vals → ∃ a b v0 v1, p = .tup (.cons a (.cons b .nil)) ∧ vals = #[v0, v1] ∧ Rep g a v0 ∧ Rep g b v1) (kept : ∀ b ∈ fp, b ∈ yr ∨ ∃ o, g b = some o) (live : ∀ i h, St i h → ∀ b ∈ yr, ∃ o, h.get? b = some o ∧ Prot o)
    (liveM : ∀ i T h, Md i T h → ∀ b ∈ yr, ∃ o, h.get? b = some o ∧ Prot o) : SrcT C A g I fp wr yr ps Pt St Md := by subst hm; exact ⟨W, sub, val, kept, live, liveM⟩
noncomputable def pairP (a b : PV) : PV := .tup (.cons a (.cons b .nil))
noncomputable def enumL : Nat → List PV → List PV
  | _, [] => []
  | k, x :: r => pairP (.int k) x :: enumL (k + 1) r
theorem enumL_ok : ∀ (l : List PV) (k : Nat), (enumL k l).length = l.length ∧ ∀ (i : Nat) (p : PV), (enumL k l)[i]? = some p → ∃ x, l[i]? = some x ∧ p = pairP (.int ((k + i : Nat) : Int)) x
  | [], k => ⟨rfl, fun i p e => by simp [enumL] at e⟩
  | x :: r, k => by
    obtain ⟨h1, h2⟩ := enumL_ok r (k + 1)
    refine ⟨by show (enumL (k + 1) r).length + 1 = _; rw [h1]; rfl, fun i p e => ?_⟩
    cases i with
    | zero => cases e; exact ⟨x, rfl, rfl⟩
    | succ i =>
      obtain ⟨y, h3, h4⟩ := h2 i p (by simpa [enumL] using e)
      refine ⟨y, by simpa using h3, ?_⟩
      rw [h4, show k + 1 + i = k + (i + 1) by omega]
noncomputable def zipL : List PV → List PV → List PV
  | a :: r, b :: t => pairP a b :: zipL r t
  | _, _ => []
theorem zipL_ok : ∀ (l t : List PV), (zipL l t).length = min l.length t.length ∧ ∀ (i : Nat) (p : PV), (zipL l t)[i]? = some p → ∃ x y, l[i]? = some x ∧ t[i]? = some y ∧ p = pairP x y
  | [], _ => ⟨by simp [zipL], fun i p e => by simp [zipL] at e⟩
  | _ :: _, [] => ⟨by simp [zipL], fun i p e => by simp [zipL] at e⟩
  | a :: r, b :: t => by
    obtain ⟨h1, h2⟩ := zipL_ok r t
    refine ⟨by show (zipL r t).length + 1 = _; rw [h1, List.length_cons, List.length_cons]; omega, fun i p e => ?_⟩
    cases i with
    | zero => cases e; exact ⟨a, b, rfl, rfl, rfl⟩
    | succ i =>
      obtain ⟨x, y, h3, h4, h5⟩ := h2 i p (by simpa [zipL] using e)
      exact ⟨x, y, by simpa using h3, by simpa using h4, h5⟩
noncomputable def enumI : PV → Option (List PV)
  | .cons (.lst r) .nil => if r.items.length ≤ 1000 then some (enumL 0 r.items) else none
  | _ => none
noncomputable def forPairD (row : PV → Option (List PV)) (fs : List ED) (i0 i1 : Nat) (F : SD) : SD := fun ρ => match rowD fs ρ with
  | .ok p => match row p with
    | some ps => forD (pairSet i0 i1) F ps ρ
    | none => .stuck
  | _ => .stuck
theorem ss_ForEnum {fx x0 x1 : Str} {np cpos p0 p1 pt pos : Pos} {k i0 i1 : Nat} {e : Expr} {body : List Stmt} {fs : List ED} {F : SD} (hg : GlobIs C sc fx (.type "enumerate")) (hk : KOk C (.type "enumerate")) (ha : LSound C n sc names [e] fs) (hb : BSound C n sc names body F) (hnd : names.Nodup)
    (h0 : at? x0 names = some i0) (h1 : at? x1 names = some i1) (hb0 : bindable sc x0 = true) (hb1 : bindable sc x1 = true)
    (he : ∀ env, starEach [e] env = (false, eval e env) :: starEach [] env := by intro _; rfl) (hs : ∀ env : Env, ∀ x, foldedSetIterable (.Call (.Name fx np) [e] [] cpos) env x = pure x := by intro _ _; rfl) :
    SSound C n sc names (.For (.Tuple [.Name x0 p0, .Name x1 p1] k pt) (.Call (.Name fx np) [e] [] cpos) body [] pos) (forPairD enumI fs i0 i1 F) := fun A env g0 s0 g ρ s Q E ok en y h => by
  unfold forPairD at h
  refine wpAny_For (wpAny_Call_ofName (hg n names A env g ρ s np _ E ok ?_)) (hs env)
  refine callWith_sound hk (he env) rfl (ha A env g ρ s _ E cpos ok ?_)
  cases q : rowD fs ρ with
  | stuck => rw [q] at h; exact h.elim
  | exc => rw [q] at h; exact h.elim
  | ok p =>
    rw [q] at h
    intro vs g1 s1 y1 hvs
    have ok1 := ok.after y1
    refine ⟨ok1.wd.kin, ?_⟩
    dsimp only at h
    cases q2 : enumI p with
    | none => rw [q2] at h; exact h.elim
    | some ps =>
      rw [q2] at h
      unfold enumI at q2
      split at q2
      · rename_i r
        split at q2
        · rename_i hlen
          cases q2
          obtain ⟨v, ws, rfl, ⟨a, vals, m, rfl, eg, hr⟩, hn⟩ := hvs
          obtain rfl : ws = [] := hn
          have hl := RepL.list hr
          have hn : r.items.length = vals.size := by rw [← hl.length, Array.length_toList]
          have hL : s1.heap.IsList a vals := ⟨_, ok1.wd.sub _ _ eg, rfl, m, rfl⟩
          have hal : a < s1.heap.objs.size := Heap.lt_size (ok1.wd.sub _ _ eg)
          refine PySem.call_enumerate_list hL fun h' hE hI hsz kk => ?_
          refine wpAny_pyIter_enum hE ?_
          have ok2 := ok1.grow (h' := h') kk
          have y2 : After C NoMu (fsOf A) g s g1 { s1 with heap := h' } := y1.trans (After.grow (tk := s1.toks) ok1.wd kk)
          obtain ⟨l1, l2⟩ := enumL_ok r.items 0
          have fresh : ∀ b, s1.heap.objs.size ≤ b → s.heap.get? b = none ∧ g1 b = none ∧ ¬ Tb b := fun b hb => by
            have hn := Heap.get?_none_of_le hb
            exact ⟨y1.none hn, ok1.wd.none_new hn, fun t => by obtain ⟨o, e⟩ := ok1.wd.tb_live t; rw [hn] at e; cases e⟩
          have hyr : ∀ b ∈ [s1.heap.objs.size + 1, s1.heap.objs.size], s1.heap.objs.size ≤ b := fun b hb => by
            simp at hb; rcases hb with rfl | rfl <;> omega
          have W := WalksT.enumerate (prog := PG) (w := C.w) ok.room.calm (s1.heap.objs.size + 1) s1.heap.objs.size a (Nat.succ_ne_self _) (Nat.ne_of_lt (Nat.lt_succ_of_lt hal)) (Nat.ne_of_lt hal) vals
          refine for_loop (draw_pair (SrcT.of (ps := enumL 0 r.items) (yr := [s1.heap.objs.size + 1, s1.heap.objs.size]) W (l1.trans hn).symm (fun b hb => hb) (fun i p vs' e1 ⟨t, x, e2, e3⟩ => ?_) (fun b hb => ?_) (fun i h st b hb => ?_) (fun i T h st b hb => ?_)) hnd h0 h1 hb0 hb1) hb ⟨⟨_, hE⟩, hI, hL.at fun o e => kk _ _ e⟩ (fun b hb => (fresh b (hyr b hb)).2) (fun b hb => (fresh b (hyr b hb)).1) (fun b hb => y.none (fresh b (hyr b hb)).1) ok2 en (y.trans y2) (y2.mid ok.toOkC) (fun f s' q => q) h
          · obtain ⟨z, e4, rfl⟩ := l2 i p e1
            exact ⟨_, _, _, _, rfl, e3, ⟨t, by rw [Nat.zero_add]⟩, hl.get e4 (by rw [Array.getElem?_toList]; exact e2)⟩
          · simp at hb ⊢
            rcases hb with rfl | rfl | rfl
            · exact .inl (.inl rfl)
            · exact .inl (.inr rfl)
            · exact .inr ⟨_, eg⟩
          · obtain ⟨⟨old, hE'⟩, ⟨o, e, hc, hd⟩, _⟩ := st
            simp at hb
            rcases hb with rfl | rfl
            · exact ⟨_, hE', .fields (by decide)⟩
            · exact ⟨_, e, .mk hc hd (by decide)⟩
          · obtain ⟨⟨x, hE'⟩, ⟨o, e, hc, hd⟩, _⟩ := st
            simp at hb
            rcases hb with rfl | rfl
            · exact ⟨_, hE', .fields (by decide)⟩
            · exact ⟨_, e, .mk hc hd (by decide)⟩
        · cases q2
      · cases q2
theorem zip_apart {k a b : Nat} (ha : a < k) (hb : b < k) : ZipApart (k + 4) (k + 2) (k + 3) k (k + 1) a b := by
  constructor <;> (intro q; have q' : (_ : Nat) = _ := q; omega)
noncomputable def zipI : PV → Option (List PV)
  | .cons (.lst r) (.cons (.lst t) .nil) => if r.items.length ≤ 1000 then some (zipL r.items t.items) else none
  | _ => none
theorem ss_ForZip {fx x0 x1 : Str} {np cpos p0 p1 pt pos : Pos} {k i0 i1 : Nat} {e e2 : Expr} {body : List Stmt} {fs : List ED} {F : SD} (hg : GlobIs C sc fx (.type "zip")) (hk : KOk C (.type "zip")) (ha : LSound C n sc names [e, e2] fs) (hb : BSound C n sc names body F) (hnd : names.Nodup)
    (h0 : at? x0 names = some i0) (h1 : at? x1 names = some i1) (hb0 : bindable sc x0 = true) (hb1 : bindable sc x1 = true)
    (he : ∀ env, starEach [e, e2] env = (false, eval e env) :: starEach [e2] env := by intro _; rfl) (hplain : ∀ env, (backTo cpos (starEach [e2] env)).any (·.1) = false := by intro _; rfl) (hs : ∀ env : Env, ∀ x, foldedSetIterable (.Call (.Name fx np) [e, e2] [] cpos) env x = pure x := by intro _ _; rfl) :
    SSound C n sc names (.For (.Tuple [.Name x0 p0, .Name x1 p1] k pt) (.Call (.Name fx np) [e, e2] [] cpos) body [] pos) (forPairD zipI fs i0 i1 F) := fun A env g0 s0 g ρ s Q E ok en y h => by
  unfold forPairD at h
  refine wpAny_For (wpAny_Call_ofName (hg n names A env g ρ s np _ E ok ?_)) (hs env)
  refine callWith_sound hk (he env) (hplain env) (ha A env g ρ s _ E cpos ok ?_)
  cases q : rowD fs ρ with
  | stuck => rw [q] at h; exact h.elim
  | exc => rw [q] at h; exact h.elim
  | ok p =>
    rw [q] at h
    intro vs g1 s1 y1 hvs
    have ok1 := ok.after y1
    refine ⟨ok1.wd.kin, ?_⟩
    dsimp only at h
    cases q2 : zipI p with
    | none => rw [q2] at h; exact h.elim
    | some ps =>
      rw [q2] at h
      unfold zipI at q2
      split at q2
      · rename_i r t
        split at q2
        · rename_i hlen
          cases q2
          obtain ⟨v, ws, rfl, ⟨a, xs, m, rfl, eg, hr⟩, v2, ws2, rfl, ⟨b, ys, m2, rfl, eg2, hr2⟩, hn⟩ := hvs
          obtain rfl : ws2 = [] := hn
          have hl := RepL.list hr
          have hl2 := RepL.list hr2
          have hn : r.items.length = xs.size := by rw [← hl.length, Array.length_toList]
          have hn2 : t.items.length = ys.size := by rw [← hl2.length, Array.length_toList]
          have hL : s1.heap.IsList a xs := ⟨_, ok1.wd.sub _ _ eg, rfl, m, rfl⟩
          have hL2 : s1.heap.IsList b ys := ⟨_, ok1.wd.sub _ _ eg2, rfl, m2, rfl⟩
          have hal : a < s1.heap.objs.size := Heap.lt_size (ok1.wd.sub _ _ eg)
          have hbl : b < s1.heap.objs.size := Heap.lt_size (ok1.wd.sub _ _ eg2)
          refine PySem.call_zip_2 hL hL2 fun h' z1 z2 z3 z4 z5 hsz kk => ?_
          refine wpAny_pyIter_zip z1 ?_
          have ok2 := ok1.grow (h' := h') kk
          have y2 : After C NoMu (fsOf A) g s g1 { s1 with heap := h' } := y1.trans (After.grow (tk := s1.toks) ok1.wd kk)
          obtain ⟨l1, l2⟩ := zipL_ok r.items t.items
          have fresh : ∀ b, s1.heap.objs.size ≤ b → s.heap.get? b = none ∧ g1 b = none ∧ ¬ Tb b := fun b hb => by
            have hn := Heap.get?_none_of_le hb
            exact ⟨y1.none hn, ok1.wd.none_new hn, fun t => by obtain ⟨o, e⟩ := ok1.wd.tb_live t; rw [hn] at e; cases e⟩
          have hmin : min xs.size ys.size = (zipL r.items t.items).length := by rw [l1, hn, hn2]
          have hyr : ∀ b ∈ [s1.heap.objs.size + 4, s1.heap.objs.size + 2, s1.heap.objs.size + 3, s1.heap.objs.size, s1.heap.objs.size + 1], s1.heap.objs.size ≤ b := fun b hb => by
            simp at hb; rcases hb with rfl | rfl | rfl | rfl | rfl <;> omega
          have W := WalksT.zip2 (prog := PG) (w := C.w) ok.room.calm (s1.heap.objs.size + 4) (s1.heap.objs.size + 2) (s1.heap.objs.size + 3) s1.heap.objs.size (s1.heap.objs.size + 1) a b (zip_apart hal hbl) xs ys
          refine for_loop (draw_pair (SrcT.of (ps := zipL r.items t.items) (yr := [s1.heap.objs.size + 4, s1.heap.objs.size + 2, s1.heap.objs.size + 3, s1.heap.objs.size, s1.heap.objs.size + 1]) W hmin (fun b hb => ?_) (fun i p vs' e1 ⟨x, y, e2, e3, e4⟩ => ?_) (fun b hb => ?_) (fun i h st b hb => ?_) (fun i T h st b hb => ?_)) hnd h0 h1 hb0 hb1) hb ⟨z1, z2, ⟨_, _, z3⟩, z4, z5, hL.at fun o e => kk _ _ e, hL2.at fun o e => kk _ _ e⟩ (fun b hb => (fresh b (hyr b hb)).2) (fun b hb => (fresh b (hyr b hb)).1) (fun b hb => y.none (fresh b (hyr b hb)).1) ok2 en (y.trans y2) (y2.mid ok.toOkC) (fun f s' q => q) h
          · simp at hb ⊢; rcases hb with rfl | rfl | rfl | rfl <;> simp
          · obtain ⟨u, v, e5, e6, rfl⟩ := l2 i p e1
            exact ⟨_, _, _, _, rfl, e4, hl.get e5 (by rw [Array.getElem?_toList]; exact e2), hl2.get e6 (by rw [Array.getElem?_toList]; exact e3)⟩
          · simp at hb
            rcases hb with rfl | rfl | rfl | rfl | rfl | rfl | rfl
            · exact .inl (by simp)
            · exact .inl (by simp)
            · exact .inl (by simp)
            · exact .inl (by simp)
            · exact .inl (by simp)
            · exact .inr ⟨_, eg⟩
            · exact .inr ⟨_, eg2⟩
          · obtain ⟨q1, q2, ⟨u, v, q3⟩, ⟨o, e, hc, hd⟩, ⟨o2, e2, hc2, hd2⟩, _⟩ := st
            simp at hb
            rcases hb with rfl | rfl | rfl | rfl | rfl
            · exact ⟨_, q1, .fields (by decide)⟩
            · exact ⟨_, q2, fun _ _ q => (by cases q), fun _ q => (by cases q), fun q => absurd (Value.type.inj q) (by decide)⟩
            · exact ⟨_, q3, fun _ _ q => (by cases q), fun _ q => (by cases q), fun q => absurd (Value.type.inj q) (by decide)⟩
            · exact ⟨_, e, .mk hc hd (by decide)⟩
            · exact ⟨_, e2, .mk hc2 hd2 (by decide)⟩
          · obtain ⟨q1, q2, ⟨u, v, q3⟩, ⟨o, e, hc, hd⟩, ⟨o2, e2, hc2, hd2⟩, _⟩ := st
            simp at hb
            rcases hb with rfl | rfl | rfl | rfl | rfl
            · exact ⟨_, q1, .fields (by decide)⟩
            · exact ⟨_, q2, fun _ _ q => (by cases q), fun _ q => (by cases q), fun q => absurd (Value.type.inj q) (by decide)⟩
            · exact ⟨_, q3, fun _ _ q => (by cases q), fun _ q => (by cases q), fun q => absurd (Value.type.inj q) (by decide)⟩
            · exact ⟨_, e, .mk hc hd (by decide)⟩
            · exact ⟨_, e2, .mk hc2 hd2 (by decide)⟩
        · cases q2
      · cases q2
/-! ### list(range(..)) -/
theorem es_ListRange {x fx : Str} {np np2 pos cpos : Pos} {e : Expr} {fs : List ED} (hgl : GlobIs C sc x (.type "list")) (hkl : KOk C (.type "list")) (hg : GlobIs C sc fx (.type "range")) (hk : KOk C (.type "range")) (ha : LSound C n sc names [e] fs)
    (he : ∀ env, starEach [e] env = (false, eval e env) :: starEach [] env := by intro _; rfl) (he2 : ∀ env, starEach [.Call (.Name fx np2) [e] [] cpos] env = (false, eval (.Call (.Name fx np2) [e] [] cpos) env) :: starEach [] env := by intro _; rfl) :
    ESound C n sc names (.Call (.Name x np) [.Call (.Name fx np2) [e] [] cpos] [] pos) (fun ρ => ((rowD fs ρ).bind rangeI1).bind fun r => .ok (.lst r)) := fun A env g ρ s Q E ok h => by
  dsimp only at h
  refine wpAny_Call_ofName (hgl n names A env g ρ s np _ E ok ?_)
  refine callWith_sound hkl (he2 env) rfl ?_
  refine wpAny_items_cons (he := he2 env) ?_
  refine wpAny_Call_ofName (hg n names A env g ρ s np2 _ E ok ?_)
  refine callWith_sound hk (he env) rfl (ha A env g ρ s _ E cpos ok ?_)
  cases q : rowD fs ρ with
  | stuck => rw [q] at h; exact h.elim
  | exc =>
    rw [q] at h
    exact h
  | ok p =>
    rw [q] at h
    intro vs g1 s1 y1 hvs
    have ok1 := ok.after y1
    refine ⟨ok1.wd.kin, ?_⟩
    have h' : Post C A g s Q E ((rangeI1 p).bind fun r => .ok (.lst r)) := h
    clear h
    cases q2 : rangeI1 p with
    | stuck => rw [q2] at h'; exact h'.elim
    | exc => unfold rangeI1 at q2; split at q2 <;> first | cases q2 | (split at q2 <;> cases q2)
    | ok r =>
    rw [q2] at h'
    have h : Post C A g s Q E (.ok (.lst r)) := h'
    clear h'
    unfold rangeI1 at q2
    split at q2
    · rename_i b
      split at q2
      · rename_i hb
        cases q2
        obtain ⟨v, ws, rfl, ⟨t, rfl⟩, hn⟩ := hvs
        obtain rfl : ws = [] := hn
        refine call_range_1 (wpAny_items_nil ?_)
        have w2 : Wd C g1 (s1.heap.push { cls := .type "range", data := .fields #[.int 0 s1.toks, .int b t, .int 1 (s1.toks + 1)] }) := ok1.wd.grow fun a x e => Heap.get?_push_of_some _ e
        refine ⟨w2.kin, ?_⟩
        have hsz : Builtin.Range.rangeSize 0 b 1 = (b.toNat : Int) := by rw [rangeSize_one]; split <;> omega
        refine call_list_range (n := b.toNat) ok.room.calm (IsRange.new ..) (small_one (by omega) (by omega) (by omega) (by omega)) hsz (by omega) fun h' tk acc c kk hD hI => ?_
        have y2 : After C NoMu (fsOf A) g s g1 { s1 with heap := s1.heap.push { cls := .type "range", data := .fields #[.int 0 s1.toks, .int b t, .int 1 (s1.toks + 1)] }, toks := s1.toks + 1 + 1 } := y1.trans (After.grow ok1.wd fun a x e => Heap.get?_push_of_some _ e)
        have y3 := y2.trans (After.grow (s := { s1 with heap := s1.heap.push { cls := .type "range", data := .fields #[.int 0 s1.toks, .int b t, .int 1 (s1.toks + 1)] }, toks := s1.toks + 1 + 1 }) (h' := h') (tk := tk) w2 kk)
        have hn2 := heap_new (s1.heap.push { cls := .type "range", data := .fields #[.int 0 s1.toks, .int b t, .int 1 (s1.toks + 1)] })
        have gn : g1 _ = none := w2.none_new hn2
        refine h _ _ _ (y3.adopt (y2.none hn2) gn hD ok.wd) ⟨_, _, _, rfl, GP.add_self .., ?_⟩
        obtain ⟨i1, i2⟩ := hI
        have go : ∀ (k : Nat) (a : Int) (vs : List Value) (g : GP), vs.length = k → (∀ (j : Nat) v, vs[j]? = some v → ∃ t, v = .int (a + j) t) → RepL g (numsR a k) vs := by
          intro k
          induction k with
          | zero => intro a vs g hl _; exact List.length_eq_zero_iff.mp hl
          | succ k ih =>
            intro a vs g hl hv
            cases vs with
            | nil => cases hl
            | cons v vs =>
              obtain ⟨t, e⟩ := hv 0 v rfl
              refine ⟨v, vs, rfl, ⟨t, by simpa using e⟩, ih (a + 1) vs g (by simpa using hl) fun j w hw => ?_⟩
              obtain ⟨u, e⟩ := hv (j + 1) w (by simpa using hw)
              exact ⟨u, by rw [e]; congr 1; push_cast; omega⟩
        refine go _ _ _ _ (by rw [Array.length_toList, i1]) fun j v hv => ?_
        obtain ⟨u, e⟩ := i2 j v (by rw [← Array.getElem?_toList]; exact hv)
        exact ⟨u, by rw [e, Int.mul_one]⟩
      · cases q2
    · cases q2
end Mine
end

/-! ## F26 -/
section
open PySem PySem.W PyProof.Rows PySem.Calls PySem.SeqAt
set_option maxRecDepth 100000
set_option maxHeartbeats 4000000
set_option linter.unusedVariables false
namespace Mine
variable {C : Cx} {n : Nat} {sc : Scope} {names : List Str}

/-! ### a lambda is made -/
theorem triples_app : ∀ (l : List Value) {a b : Int} {t u : Tok} {c : Value}, TriplesOk l → TriplesOk (l ++ [.int a t, .int b u, c]) := fun l a b t u c h => by
  fun_induction TriplesOk l with
  | case1 => trivial
  | case2 _ _ _ _ _ r ih => exact ih h
  | case3 => exact h.elim
theorem among_app : ∀ (l : List Value) {a b : Int} {t u : Tok} {c cv : Value} {pos : Pos}, TriplesOk l → codeAmong pos (l ++ [.int a t, .int b u, c]) = some cv → codeAmong pos l = some cv ∨ cv = c := fun l a b t u c cv pos h e => by
  fun_induction TriplesOk l with
  | case1 =>
    show _ ∨ _
    rw [List.nil_append, codeAmong] at e
    split at e
    · cases e; exact .inr rfl
    · cases e
  | case2 _ _ _ _ _ r ih =>
    rw [List.cons_append, List.cons_append, List.cons_append, codeAmong] at e
    rw [codeAmong]
    split at e
    · rename_i hc; rw [if_pos hc]; exact .inl e
    · rename_i hc; rw [if_neg hc]; exact ih h e
  | case3 => exact h.elim
structure LamAt (C : Cx) (c P : Addr) (q : Str) : Prop where
  hd : CodeHd C.hb c P
  which : (P = 265 ∧ q = tq1) ∨ (P = 241 ∧ q = tq2)
theorem lamAt1 (C : Cx) : LamAt C 269 265 tq1 := ⟨C.c1, .inl ⟨rfl, rfl⟩⟩
theorem lamAt2 (C : Cx) : LamAt C 243 241 tq2 := ⟨C.c2, .inr ⟨rfl, rfl⟩⟩
theorem LamAt.tb {c P : Addr} {q : Str} (L : LamAt C c P q) : Tb P := L.which.elim (fun h => .inl h.1) fun h => .inr h.1
theorem LamAt.inv {c P : Addr} {q : Str} (L : LamAt C c P q) {g : GP} {h : Heap} (w : Wd C g h) : TabInv g h P q := by
  rcases L.which with ⟨rfl, rfl⟩ | ⟨rfl, rfl⟩
  · exact w.t1
  · exact w.t2
theorem LamAt.out {c P : Addr} {q : Str} (L : LamAt C c P q) : C.hb.get? P = none := by
  rcases L.which with ⟨rfl, rfl⟩ | ⟨rfl, rfl⟩
  · exact C.n1
  · exact C.n2
abbrev lamObj (q : Str) (params : Arguments) (body : Expr) (scope : Scope) (clos : List (Str × Addr)) (pm : Value) (c' : Addr) (ctv : Value) : Obj := kla_obj "<lambda>" q params body scope clos pm c' ctv
theorem make_lam {A : Around} {env : Env} {g : GP} {ρ : List PV} {s : Shared} {c P : Addr} {q : Str} {params : Arguments} {body : Expr} {scope : Scope} {pos : Pos} {clos : List (Str × Addr)} {Q E : Value → Shared → Prop} (ok : Ok C n A sc names env g ρ s) (hc : env.code = .ref c) (hq : env.qual ++ "<lambda>" = q)
    (hL : LamAt C c P q) (hclos : closureFor scope env = pure clos) (hdef : defaultsOf params env = ([], []))
    (h : ∀ g' s' f c' ctv pm, After C NoMu (fsOf A) g s g' s' → g' f = some (lamObj q params body scope clos pm c' ctv) → (∃ oc vs t, g' c' = some oc ∧ oc.data = .fields vs ∧ vs[1]? = some (.str q t)) → Q (.ref f) s') :
    wpAny C.M A (eval (.Lambda params body scope pos) env) Q E s := by
  obtain ⟨ps, hP, ht, hall⟩ := hL.inv ok.wd
  have kk : ∀ a o, C.hb.get? a = some o → s.heap.get? a = some o := fun a o e => ok.wd.sub _ _ (ok.wd.base a o e)
  have hgs : s.heap.Ns mainGlobals C.mg := C.top.g.keeps kk
  obtain ⟨bm, ob, b1, b2, b3, b4, b5, b6⟩ := C.top.bmain
  have hgP : mainGlobals ≠ P := fun e => by
    obtain ⟨o, _, _, e1, _⟩ := C.top.g
    rw [e, hL.out] at e1; cases e1
  have hbP : bm ≠ P := fun e => by rw [e, hL.out] at b3; cases b3
  have hbG : bm ≠ mainGlobals := fun e => by
    obtain ⟨o, es, ep, e1, hd, _⟩ := C.top.g
    rw [e, e1] at b3; cases b3; rw [hd] at b6; cases b6
  have hB : s.heap.BuiltinsAt C.mg P := ⟨bm, ob, b1, b2, hbG, hbP, kk _ _ b3, b4, b5, b6⟩
  have hhd := hL.hd.keeps kk
  refine kla_eval hdef ?_
  rw [hq]
  have none_of : ∀ b, s.heap.objs.size ≤ b → s.heap.get? b = none ∧ g b = none := fun b hb => ⟨Heap.get?_none_of_le hb, ok.wd.none_new (Heap.get?_none_of_le hb)⟩
  cases hf : codeAmong pos ps.toList with
  | some cv =>
    obtain ⟨c', o, vs, t, rfl, hg, hd, hv⟩ := hall pos cv hf
    refine kla_makeFunctionHit (mg := C.mg) hclos ok.env.glob hgs hc hhd hP ht hf hB fun ctv h' tk k hsz => ?_
    obtain ⟨hn, hgn⟩ := none_of h'.objs.size hsz
    refine h (g.add h'.objs.size _) _ h'.objs.size c' ctv _ (After.adopt (After.grow (tk := tk) ok.wd fun a x e => Heap.get?_push_of_some _ (k a x e)) hn hgn (Heap.get?_push_size _ rfl) ok.wd) (GP.add_self ..) ⟨o, vs, t, GP.le_add hgn _ _ hg, hd, hv⟩
  | none =>
    refine kla_makeFunction (mg := C.mg) hclos ok.env.glob hgs hc hhd hP ht hf hgP hB fun c' ctv h' tk hx hge hlt hrec htb => ?_
    obtain ⟨c₂, oc, vs, t, e2, hoc, hd, hv⟩ := hrec
    cases e2
    obtain ⟨cn, cgn⟩ := none_of c' hge
    obtain ⟨fn, fgn⟩ := none_of h'.objs.size (Nat.le_trans hge (Nat.le_of_lt hlt))
    have hfc : h'.objs.size ≠ c' := Nat.ne_of_gt hlt
    have fgn2 : (g.add c' oc) h'.objs.size = none := by unfold GP.add; rw [if_neg hfc]; exact fgn
    have le1 : GLe g (g.add c' oc) := GP.le_add cgn
    generalize hO : kla_obj "<lambda>" q params body scope clos ((C.mg "__name__").getD .none) c' ctv = ob'
    have le2 : GLe (g.add c' oc) ((g.add c' oc).add h'.objs.size ob') := GP.le_add fgn2
    have keep : ∀ a o, a ≠ P → s.heap.get? a = some o → (h'.push ob').get? a = some o := fun a o ha e => Heap.get?_push_of_some _ (hx a o ha e)
    have inv : ∀ a o, ((g.add c' oc).add h'.objs.size ob') a = some o → g a = some o ∨ (a = c' ∧ o = oc) ∨ (a = h'.objs.size ∧ o = ob') := fun a o e => by
      unfold GP.add at e
      by_cases q1 : a = h'.objs.size
      · rw [if_pos q1] at e; cases e; exact .inr (.inr ⟨q1, rfl⟩)
      · rw [if_neg q1] at e
        by_cases q2 : a = c'
        · rw [if_pos q2] at e; cases e; exact .inr (.inl ⟨q2, rfl⟩)
        · rw [if_neg q2] at e; exact .inl e
    have gP : ∀ a o, g a = some o → a ≠ P := fun a o e q => by rw [q, ok.wd.nt P hL.tb] at e; cases e
    have tbl : ∀ a, Tb a → a < s.heap.objs.size := fun a ta => by obtain ⟨o, e⟩ := ok.wd.tb_live ta; exact Heap.lt_size e
    have newTab : TabInv ((g.add c' oc).add h'.objs.size ob') (h'.push ob') P q := by
      refine ⟨_, Heap.get?_push_of_some _ htb, ?_, fun pos' cv e => ?_⟩
      · rw [Array.toList_append]; exact triples_app _ ht
      · rw [Array.toList_append] at e
        rcases among_app _ ht e with e | rfl
        · obtain ⟨c2, o2, vs2, t2, e1, e2, e3⟩ := hall pos' cv e
          exact ⟨c2, o2, vs2, t2, e1, le2 _ _ (le1 _ _ e2), e3⟩
        · exact ⟨c', oc, vs, t, rfl, le2 _ _ (GP.add_self ..), hd, hv⟩
    have wd' : Wd C ((g.add c' oc).add h'.objs.size ob') (h'.push ob') := by
      refine ⟨fun a o e => le2 _ _ (le1 _ _ (ok.wd.base a o e)), fun a o e => ?_, fun a ta => ?_, ?_, ?_⟩
      · rcases inv a o e with e | ⟨rfl, rfl⟩ | ⟨rfl, rfl⟩
        · exact keep a o (gP a o e) (ok.wd.sub _ _ e)
        · exact Heap.get?_push_of_some _ hoc
        · exact Heap.get?_push_size _ (by rw [← hO]; rfl)
      · unfold GP.add
        have := tbl a ta
        rw [if_neg (Nat.ne_of_lt (Nat.lt_of_lt_of_le this (Nat.le_trans hge (Nat.le_of_lt hlt)))), if_neg (Nat.ne_of_lt (Nat.lt_of_lt_of_le this hge))]
        exact ok.wd.nt a ta
      · rcases hL.which with ⟨rfl, rfl⟩ | ⟨rfl, rfl⟩
        · exact newTab
        · exact ok.wd.t1.to (le1.trans le2) fun o e => keep _ o (by decide) e
      · rcases hL.which with ⟨rfl, rfl⟩ | ⟨rfl, rfl⟩
        · exact ok.wd.t2.to (le1.trans le2) fun o e => keep _ o (by decide) e
        · exact newTab
    have nP : ∀ a, ¬ Tb a → a ≠ P := fun a na q => na (q ▸ hL.tb)
    refine h ((g.add c' oc).add h'.objs.size ob') _ h'.objs.size c' ctv ((C.mg "__name__").getD .none) ⟨⟨_, tk, rfl⟩, ⟨fun a o e => ?_, fun a o e _ na => ⟨o.slots, keep a o (nP a na) e⟩, fun a o e _ na _ => keep a o (nP a na) e⟩, le1.trans le2, wd', fun a o e => ?_⟩ (by rw [GP.add_self, ← hO]) ⟨oc, vs, t, le2 _ _ (GP.add_self ..), hd, hv⟩
    · by_cases q : a = P
      · exact ⟨_, q ▸ Heap.get?_push_of_some _ htb⟩
      · exact ⟨o, keep a o q e⟩
    · rcases inv a o e with e | ⟨rfl, _⟩ | ⟨rfl, _⟩
      · exact .inl e
      · exact .inr cn
      · exact .inr fn

theorem codeAny_is {M : Model} {A : Around} {x y : Code} {R : Result → Shared → Prop} {s : Shared} (e : x = y) (h : codeAny M A x R s) : codeAny M A y R s := e ▸ h
/-! ### a lambda is called -/
theorem lam_call {A0 A : Around} {m : Nat} {env : Env} {g : GP} {ρ : List PV} {s : Shared} {q : Str} {params : Arguments} {body : Expr} {scope : Scope} {clos : List (Str × Addr)} {pm ctv : Value} {c' f : Addr} {caps : List Str} {is : List Nat} {fe : ED} {Q E : Value → Shared → Prop}
    (okO : Ok C m A0 sc names env g ρ s) (okc : OkC C (n + 1) A g s) (hf : g f = some (lamObj q params body scope clos pm c' ctv)) (hcr : ∃ oc vs t, g c' = some oc ∧ oc.data = .fields vs ∧ vs[1]? = some (.str q t))
    (hcl : ∀ x c, (x, c) ∈ clos → env.cells.lookup x = some c) (hfr : ∀ x, (x, NameKind.free) ∈ scope.names → (clos.lookup x).isSome = true)
    (hk : scope.kind = .function) (hco : scope.isCoroutine = false) (hgen : scope.isGenerator = false) (hnoc : scope.names.all (fun p => p.2 != .cell) = true) (hcap : caps.all (capOk scope sc) = true) (hat : capsAt names caps is)
    (hbind : ∀ pm c' ctv, bindArgs (kla_fn "<lambda>" q params body scope clos pm c' ctv) ⟨[], []⟩ = pure []) (he : ESound C n scope caps body fe) (hQ : Post C A g s Q E (fe (capt is ρ))) : wpAny C.M A (call (.ref f) []) Q E s := by
  have ho := okc.wd.sub _ _ hf
  obtain ⟨oc, vs, t, hg2, hd2, hv2⟩ := hcr
  have hrec : s.heap.CodeRec (.ref c') q := ⟨c', oc, vs, t, rfl, okc.wd.sub _ _ hg2, hd2, hv2⟩
  have hlim : s.heap.NoLimit := C.top.nolimit.keeps fun a o q => okc.wd.sub _ _ (okc.wd.base a o q)
  have hnc : ∀ x ∈ scope.names, x.2 ≠ .cell := fun x hx q => by
    have := List.all_eq_true.mp hnoc x hx
    rw [q] at this; cases this
  have noc : ∀ y : Str, scope.names.lookup y ≠ some .cell := fun y q => hnc _ (mem_of_lookup q) rfl
  refine wpAny_call (kla_callFunE okc.room.depth_lt ho rfl hco hgen rfl hrec ?_)
  rw [hbind]
  refine wpAny_pure (wpAny_newFunctionEnv hnc (fun b hb => (nomatch hb)) (fun h1 hns hsb => ?_) hk)
  have kk : ∀ b o, s.heap.get? b = some o → h1.get? b = some o := fun b o e => hsb.extBut b o (Nat.ne_of_lt (Heap.lt_size e)) (Heap.get?_push_of_some _ e)
  refine ⟨hlim.keeps kk, ?_⟩
  generalize hE : newEnv scope s.heap.objs.size mainGlobals clos (q ++ ".<locals>.") (some f) (.ref c') none builtinsNs = lenv
  have hL : lenv.locals = s.heap.objs.size := by rw [← hE]; rfl
  have hfrm : lenv.frame = some lenv.locals := by rw [← hE]; rfl
  have hsc : lenv.scope = scope := by rw [← hE]; rfl
  have hgl : lenv.globals = mainGlobals := by rw [← hE]; rfl
  have hbl : lenv.builtins = builtinsNs := by rw [← hE]; rfl
  have hce : lenv.cells = clos := by rw [← hE]; rfl
  refine codeAny_is (x := .expr body lenv) (by rw [← hE]) (kla_codeExpr ?_)
  obtain ⟨l, hl0, hfro⟩ := okc.frames
  have hnew : s.heap.get? lenv.locals = none := by rw [hL]; exact heap_new _
  rw [← hL] at hns
  have wd1 : Wd C g h1 := okc.wd.grow kk
  have gnone : g lenv.locals = none := okc.wd.none_new hnew
  have tnone : ¬ Tb lenv.locals := fun t => by
    obtain ⟨o, e⟩ := okc.wd.tb_live t
    rw [hnew] at e; cases e
  have hroom : Room n (A.deeper lenv) := by
    refine ⟨okc.room.calm, ?_, ?_⟩
    · have := okc.room.depth; show A.depth + 1 + n < 900; omega
    · have := okc.room.units; show A.units + 3 + 20 * n < 9000; omega
  obtain ⟨oL, esL, epL, eL, dL, _⟩ := id hns
  have fro : FrOk g h1 (lenv :: l) := by
    refine ⟨?_, ⟨lenv.locals, oL, hfrm, gnone, eL, _, _, dL⟩, ?_⟩
    · rw [hsc, hk]; decide
    · exact FrOk.after (fun a ha _ => ha) (fun env' _ L o es ep _ ho _ hd => ⟨o, es, ep, kk _ _ ho, hd⟩) hfro
  have lk : ∀ x c, lenv.cells.lookup x = some c → env.cells.lookup x = some c := fun x c e => hcl x c (mem_of_lookup (hce ▸ e))
  have okb : Ok C n (A.deeper lenv) scope caps lenv g (capt is ρ) { s with heap := h1, toks := s.toks + ([] : List (Str × Value)).length } := by
    refine ⟨⟨wd1, hroom, lenv :: l, Around.frames_deeper hl0, fro⟩, .none ?_ ?_, hsc, hk, hgl, hbl, gnone, tnone, fun x c hc => ?_, fun x y c hx hy => okO.env.inj x y c (lk _ _ hx) (lk _ _ hy), fun x hx => ?_, _, hns, ?_⟩
    · exact Bool.eq_false_iff.mpr fun q => noc _ (beq_iff_eq.mp q)
    · exact Bool.eq_false_iff.mpr fun q => noc _ (beq_iff_eq.mp q)
    · obtain ⟨k1, k2, k3, v, k4⟩ := okO.env.cells x c (lk _ _ hc)
      refine ⟨k1, k2, fun q => ?_, v, isCell_slots k4 fun o e => ⟨o.slots, kk _ _ e⟩⟩
      obtain ⟨o, e, _⟩ := k4
      rw [q, hnew] at e; cases e
    · rcases hx with q | q
      · exact absurd q (noc x)
      · rw [hce]; exact hfr x (mem_of_lookup q)
    · obtain ⟨mm, hm, hv⟩ := okO.env.vars
      refine caps_vars hv (fun y => capOk scope sc y = true) (fun y v hy w => ?_) hat fun y hy => List.all_eq_true.mp hcap y hy
      have hy1 : (scope.names.lookup y = some .free ∧ (y, NameKind.cell) ∉ scope.names) ∧ (sc.names.lookup y = some .cell ∨ sc.names.lookup y = some .free) := by simpa [capOk] using hy
      obtain ⟨⟨hfy, _⟩, hkk⟩ := hy1
      have hko : env.kindOf y = some .cell ∨ env.kindOf y = some .free := by unfold Env.kindOf; rw [okO.env.scope]; exact hkk
      rcases w with ⟨w1, _⟩ | ⟨_, c, w2, w3⟩
      · rcases hko with q | q <;> (rw [w1] at q; cases q)
      · obtain ⟨c2, hc2⟩ := Option.isSome_iff_exists.mp (hfr y (mem_of_lookup hfy))
        have : c2 = c := by
          have := lk y c2 (hce ▸ hc2)
          rw [w2] at this; cases this; rfl
        subst this
        refine .inr ⟨.inr ?_, c2, hce ▸ hc2, isCell_slots w3 fun o e => ⟨o.slots, kk _ _ e⟩⟩
        unfold Env.kindOf; rw [hsc]; exact hfy
  have hfs : fsOf (A.deeper lenv) = lenv.locals :: fsOf A := fsOf_deeper hl0 hfrm
  have start : After C NoMu (fsOf (A.deeper lenv)) g s g { s with heap := h1, toks := s.toks + ([] : List (Str × Value)).length } := After.grow okc.wd kk
  refine he (A.deeper lenv) lenv g (capt is ρ) _ _ _ okb ?_
  cases hF : fe (capt is ρ) with
  | ok p =>
    rw [hF] at hQ
    exact fun v g' s' y hv => hQ v g' s' ((hfs ▸ (start.trans y)).less hnew) hv
  | exc =>
    rw [hF] at hQ
    exact fun e g' s' y fl => leave_ok (E' := E) okc hl0 hfrm hnew (hfs ▸ (start.trans y)) (fl.raised.of_live start.ext.live) fun s2 y2 fl2 => hQ e g' s2 y2 fl2
  | stuck => rw [hF] at hQ; exact hQ.elim
end Mine
end

/-! ## F27 -/
section
open PySem PySem.W PyProof.Rows PySem.Calls PySem.SeqAt
set_option maxRecDepth 100000
set_option maxHeartbeats 4000000
set_option linter.unusedVariables false
namespace Mine
variable {C : Cx} {n : Nat} {sc : Scope} {names : List Str}

theorem enter_def {f : Addr} {ps : List Str} {body : List Stmt} {A : Around} {g : GP} {s : Shared} {vs : List Value} {Q E : Value → Shared → Prop} (hf : FnIs (KF C.w) f ps body sc) (hk : sc.kind = .function) (hco : sc.isCoroutine = false) (hgen : sc.isGenerator = false)
    (hkind : ps.all (bindable sc) = true) (ok : OkC C (n + 1) A g s) (hvl : vs.length = ps.length)
    (h : ∀ env h1 tk l, env.locals = s.heap.objs.size → env.frame = some env.locals → env.scope = sc → env.globals = mainGlobals → env.builtins = builtinsNs → (∀ b o, s.heap.get? b = some o → h1.get? b = some o) → A.frames = some l →
      OkC C n (A.deeper env) g { s with heap := h1, toks := tk } → h1.Ns env.locals (bindL env.kindOf (ps.zip vs) fun _ => none) →
      wpAny C.M (A.deeper env) (execs body env) (fun fl s' => Q (match fl with | .ret v => v | _ => .none) s') (fun e s' => wpAny C.M (A.deeper env) (leaving env e) (fun _ s2 => E e s2) (fun e' s2 => E e' s2) s') { s with heap := h1, toks := tk }) : wpAny C.M A (call (.ref f) vs) Q E s := by
  obtain ⟨oc, od, osl, fd, e1, e2, e3, e4, e5, e6, e7, e9, e8⟩ := hf
  subst e3
  have X := ok.wd.kin
  have hlim : s.heap.NoLimit := C.top.nolimit.keeps fun a o q => ok.wd.sub _ _ (ok.wd.base a o q)
  refine wpAny_call (codeAny_call_function ok.room.depth_lt (X _ _ e1) rfl hco hgen e2 (codeRec_of X e7) ?_)
  rw [e8 vs hvl, e5]
  refine wpAny_pure (wpAny_newFunctionEnv_cells hk (fun b hb => ?_) fun env he s' x => ?_)
  · have hb1 := List.all_eq_true.mp hkind b.1 (zip_fst hb)
    rcases Bool.or_eq_true_iff.mp hb1 with q | q
    · exact .inl (beq_iff_eq.mp q)
    · exact .inr ⟨beq_iff_eq.mp q, cellsFrom_some _ _ _ (.inl (beq_iff_eq.mp q))⟩
  have hL : env.locals = s.heap.objs.size := by rw [he]; rfl
  have hfr : env.frame = some env.locals := by rw [he]; rfl
  have hsc : env.scope = fd.scope := by rw [he]; rfl
  have hgl : env.globals = mainGlobals := by rw [he]; exact e4
  have hbl : env.builtins = builtinsNs := by rw [he]; exact e6
  have hcl : env.cells = cellsFrom (s.heap.objs.size + 1) fd.scope.names [] := by rw [he]; rfl
  obtain ⟨h1, tk, rfl, kk⟩ := x.done
  refine ⟨hlim.keeps kk, codeAny_func ?_⟩
  obtain ⟨l, hl0, hfro⟩ := ok.frames
  have hnew : s.heap.get? env.locals = none := by rw [hL]; exact heap_new _
  obtain ⟨oL, esL, epL, eL, dL, _⟩ := id x.toInCall.ns
  have wd1 : Wd C g h1 := ok.wd.grow kk
  have fresh : ∀ a, s.heap.objs.size ≤ a → s.heap.get? a = none := fun a ha => Heap.get?_none_of_le ha
  have gnone : ∀ a, s.heap.objs.size ≤ a → g a = none := fun a ha => ok.wd.none_new (fresh a ha)
  have tnone : ∀ a, s.heap.objs.size ≤ a → ¬ Tb a := fun a ha t => by
    obtain ⟨o, e⟩ := ok.wd.tb_live t
    rw [fresh a ha] at e; cases e
  have hroom : Room n (A.deeper env) := by
    refine ⟨ok.room.calm, ?_, ?_⟩
    · have := ok.room.depth; show A.depth + 1 + n < 900; omega
    · have := ok.room.units; show A.units + 3 + 20 * n < 9000; omega
  have fro : FrOk g h1 (env :: l) := by
    refine ⟨?_, ⟨env.locals, oL, hfr, gnone _ (Nat.le_of_eq hL.symm), eL, _, _, dL⟩, ?_⟩
    · rw [hsc, hk]; decide
    · exact FrOk.after (fun a ha _ => ha) (fun env' _ L o es ep _ ho _ hd => ⟨o, es, ep, kk _ _ ho, hd⟩) hfro
  have okc : OkC C n (A.deeper env) g { s with heap := h1, toks := tk } := ⟨wd1, hroom, env :: l, Around.frames_deeper hl0, fro⟩
  exact h env h1 tk l hL hfr hsc hgl hbl kk hl0 okc x.toInCall.ns

/-- the state in which an exception of a deeper call has landed -/
theorem landed_after {A : Around} {L : Addr} {g g' : GP} {s s' : Shared} {base h' : Heap} (ok : OkC C n A g s) (hL : s.heap.get? L = none) (y : After C NoMu (L :: fsOf A) g s g' s') (h2 : base.StaysIn s'.heap) (ht1 : TabInv g' base 265 tq1) (ht2 : TabInv g' base 241 tq2)
    (hgb : ∀ a o, g' a = some o → base.get? a = some o) (h6 : ∀ a o, s.heap.get? a = some o → a ∉ L :: fsOf A → ∃ o', base.get? a = some o') (f1 : base.StaysIn h') (up : s'.heap.UpToSlots h') : After C NoMu (fsOf A) g s g' { s' with heap := h' } := by
  have inB : ∀ a o, s.heap.get? a = some o → a ∉ fsOf A → ¬ Tb a → base.get? a = some o := fun a o ho hn ht => by
    have hm : a ∉ L :: fsOf A := fun q => by
      rcases List.mem_cons.mp q with rfl | q
      · rw [hL] at ho; cases ho
      · exact hn q
    obtain ⟨o', e'⟩ := h6 a o ho hm
    have := h2 a o' e'
    rw [y.ext.keep a o ho (fun q => q) ht hm] at this
    cases this
    exact e'
  have tbB : ∀ a, Tb a → ∃ o, base.get? a = some o := fun a t => by
    rcases t with rfl | rfl
    · obtain ⟨ps, e1, _⟩ := ht1; exact ⟨_, e1⟩
    · obtain ⟨ps, e1, _⟩ := ht2; exact ⟨_, e1⟩
  obtain ⟨⟨hy, tky, rfl⟩, ext, mono, wd, fresh⟩ := y
  refine ⟨⟨h', tky, rfl⟩, ⟨fun a o ho => ?_, fun a o ho m t => ?_, fun a o ho m t f => f1 a o (inB a o ho f t)⟩, mono, ⟨wd.base, fun a o ha => f1 a o (hgb a o ha), wd.nt, ht1.to (fun _ _ q => q) (f1 _), ht2.to (fun _ _ q => q) (f1 _)⟩, fresh⟩
  · by_cases t : Tb a
    · obtain ⟨o', e'⟩ := tbB a t
      exact ⟨o', f1 a o' e'⟩
    · by_cases q : a ∈ fsOf A
      · obtain ⟨sl, e1⟩ := ext.slots a o ho (fun q => q) t
        obtain ⟨_, ob, es, ep, e2, e3⟩ := ok.frame q
        rw [ho] at e2; cases e2
        obtain ⟨sl', e4⟩ := up a _ e1 (fun vs q => by rw [e3] at q; cases q)
        exact ⟨_, e4⟩
      · exact ⟨o, f1 a o (inB a o ho q t)⟩
  · by_cases q : a ∈ fsOf A
    · obtain ⟨sl, e1⟩ := ext.slots a o ho m t
      obtain ⟨_, ob, es, ep, e2, e3⟩ := ok.frame q
      rw [ho] at e2; cases e2
      obtain ⟨sl', e4⟩ := up a _ e1 (fun vs q => by rw [e3] at q; cases q)
      exact ⟨sl', e4⟩
    · exact ⟨o.slots, f1 a o (inB a o ho q t)⟩

/-! ### _law_refused -/
theorem fn239 (w : World) : FnIs (KF w) 239 ["ask"] (bodyIn (KF w) 239) (scopeIn (KF w) 239) := by
  refine ⟨_, _, _, _, rfl, rfl, rfl, rfl, rfl, rfl, ?_, .none ?_ ?_, ?_⟩
  · kernel_rfl
  · kernel_rfl
  · kernel_rfl
  · intro vs h
    match vs, h with
    | [a], _ => rfl
theorem sc239_kind (w : World) : (scopeIn (KF w) 239).kind = .function ∧ (scopeIn (KF w) 239).isCoroutine = false ∧ (scopeIn (KF w) 239).isGenerator = false := ⟨rfl, rfl, rfl⟩
theorem sc239_ask (w : World) : (scopeIn (KF w) 239).names.lookup ("ask" : Str) = some .local := by kernel_rfl
theorem sc239_err (w : World) : (scopeIn (KF w) 239).names.lookup ("OperandError" : Str) = some .globalImplicit := by kernel_rfl
theorem sc239_bind (w : World) : (["ask"] : List Str).all (bindable (scopeIn (KF w) 239)) = true := by kernel_rfl
theorem ns_err (w : World) : nsIn (KF w) mainGlobals "OperandError" = some (some (.ref 52)) := by kernel_rfl
theorem refused {A : Around} {g : GP} {s : Shared} {f : Addr} {Q E : Value → Shared → Prop} (ok : OkC C (n + 1) A g s) (hf : ∃ oc od fd sl, g f = some ⟨oc, od, .func fd, sl⟩)
    (hask : ∀ A' g' s' Q' E', OkC C n A' g' s' → After C NoMu (fsOf A) g s g' s' → Post C A' g' s' Q' E' .exc → wpAny C.M A' (call (.ref f) []) Q' E' s')
    (h : ∀ g' s', After C NoMu (fsOf A) g s g' s' → Q (.bool true) s') : wpAny C.M A (call (.ref 239) [.ref f]) Q E s := by
  refine enter_def (fn239 C.w) (sc239_kind _).1 (sc239_kind _).2.1 (sc239_kind _).2.2 (sc239_bind _) ok rfl fun env h1 tk l hL hfr hsc hgl hbl kk hl0 okc hns => ?_
  have hkf : env.scope.kind = .function := by rw [hsc]; exact (sc239_kind _).1
  have hka : env.kindOf "ask" = some .local := by unfold Env.kindOf; rw [hsc]; exact sc239_ask _
  have hva : bindL env.kindOf ((["ask"] : List Str).zip [Value.ref f]) (fun _ => none) "ask" = some (.ref f) := (bind_at (kindOf := env.kindOf) (m := fun _ => none) (cm := fun _ => none) (by decide) (by exact List.mem_cons_self)).1 hka
  have hnew : s.heap.get? env.locals = none := by rw [hL]; exact heap_new _
  have hfs : fsOf (A.deeper env) = env.locals :: fsOf A := fsOf_deeper hl0 hfr
  have start : After C NoMu (fsOf (A.deeper env)) g s g { s with heap := h1, toks := tk } := After.grow ok.wd kk
  conv => arg 3; arg 1; whnf
  refine wpAny_execs_cons (wpAny_Try_except (wpAny_execs_cons (wpAny_Expr (wpAny_Call_ofName (wpAny_Name (wpAny_loadName_local hkf hka hns hva ?_) (by decide))) (by unfold interactive; rw [hkf]; rfl) rfl)))
  obtain ⟨oc, od, fd, sl, hf⟩ := hf
  refine callWith_F0 ⟨oc, od, fd, sl, okc.wd.sub _ _ hf⟩ ?_
  refine hask (A.deeper env) g _ _ _ okc (After.grow ok.wd kk) ?_
  rintro e g' s' y ⟨base, a0, l', hl', ⟨fl, t1, t2, hgb⟩, hlive⟩
  rw [Around.frames_deeper hl0] at hl'
  cases hl'
  refine wpAny_looks_onW (Around.frames_deeper hl0) hfr fl fun h2 held up2 => wpAny_landsW held fun h3 fl3 up3 => ?_
  have wB : ∀ a o, C.hb.get? a = some o → base.get? a = some o := fun a o q => hgb a o (y.wd.base a o q)
  have w3 : ∀ a o, C.hb.get? a = some o → h3.get? a = some o := fun a o q => fl3.1 a o (wB a o q)
  obtain ⟨oe, heo, hec⟩ := fl3.there
  refine wpAny_handleBy_cons (codeAny_handlers_test ?_) (by intro q; cases q)
  refine Name_function_global hkf (by unfold Env.kindOf; rw [hsc]; exact sc239_err _) (loadGlobal_global (mg := C.mg) ?_ (C.mgv (ns_err _)) ?_) (by decide)
  · rw [hgl]; exact C.top.g.keeps w3
  refine wpAny_excMatches_sub_self (w3 _ _ (C.kin _ _ (kf_52 C.w))) heo hec (by decide +kernel) ?_
  refine codeAny_handlers_suite (lands_againW fl3 fun h4 fl4 up4 => wpAny_execs_cons (wpAny_Return_some (wpAny_Constant_bool ?_)))
  refine h g' _ (landed_after (s' := s') (h' := h4) ok hnew (hfs ▸ (start.trans y)) fl.1 t1 t2 hgb (fun a o ho hn => ?_) fl4.1 ((up2.trans up3).trans up4))
  exact hlive a o (kk a o ho) (by rw [hfs]; exact hn)

noncomputable def refD (is : List Nat) (fe : ED) : ED := fun ρ => match fe (capt is ρ) with
  | .exc => .ok (.bool true)
  | _ => .stuck
theorem code_lam {A : Around} {env : Env} {g : GP} {ρ : List PV} {s : Shared} (ok : Ok C n A sc names env g ρ s) (h : ((sc.names.lookup ("left" : Str) == some .cell) || (sc.names.lookup ("told" : Str) == some .cell)) = true) :
    ∃ c P q, env.code = .ref c ∧ env.qual ++ "<lambda>" = q ∧ LamAt C c P q := by
  rcases Bool.or_eq_true_iff.mp h with h | h
  · obtain ⟨h1, h2⟩ := ok.code.c1 h
    exact ⟨_, _, _, h1, h2, lamAt1 C⟩
  · obtain ⟨h1, h2⟩ := ok.code.c2 h
    exact ⟨_, _, _, h1, h2, lamAt2 C⟩
theorem es_Refused {x : Str} {np pos lpos : Pos} {params : Arguments} {body : Expr} {scope : Scope} {caps : List Str} {is : List Nat} {fe : ED} (hg : GlobIs C sc x (.ref 239)) (hkk : KOk C (.ref 239)) (he : ESound C n scope caps body fe)
    (hcell : ((sc.names.lookup ("left" : Str) == some .cell) || (sc.names.lookup ("told" : Str) == some .cell)) = true) (hk : scope.kind = .function) (hco : scope.isCoroutine = false) (hgen : scope.isGenerator = false) (hnoc : scope.names.all (fun p => p.2 != .cell) = true)
    (hcap : caps.all (capOk scope sc) = true) (hat : capsAt names caps is) (hfrees : frees scope sc = true) (hdef : ∀ env, defaultsOf params env = ([], []) := by intro _; rfl)
    (hbind : ∀ q clos pm c' ctv, bindArgs (kla_fn "<lambda>" q params body scope clos pm c' ctv) ⟨[], []⟩ = pure [] := by intro _ _ _ _ _; rfl)
    (hst : ∀ env, starEach [.Lambda params body scope lpos] env = (false, eval (.Lambda params body scope lpos) env) :: starEach [] env := by intro _; rfl) :
    ESound C (n + 2) sc names (.Call (.Name x np) [.Lambda params body scope lpos] [] pos) (refD is fe) := fun A env g ρ s Q E ok h => by
  unfold refD at h
  have hfr0 : ∀ y, (y, NameKind.free) ∈ scope.names → (env.cells.lookup y).isSome = true := fun y hy => by
    have := List.all_eq_true.mp hfrees _ hy
    have h2 : sc.names.lookup y = some .cell ∨ sc.names.lookup y = some .free := by simpa using this
    exact ok.env.has y h2
  obtain ⟨cl, hclos, hcl, hin, hfr⟩ := closure_is hfr0
  obtain ⟨c, P, q, hcode, hqual, hL⟩ := code_lam ok hcell
  refine wpAny_Call_ofName (hg (n + 2) names A env g ρ s np _ E ok ?_)
  refine callWith_sound hkk (hst env) rfl (wpAny_items_cons (he := hst env) (make_lam ok hcode hqual hL hclos (hdef env) fun g1 s1 f c' ctv pm y1 hf hrec => wpAny_items_nil ?_))
  have ok1 := ok.after y1
  refine ⟨ok1.wd.kin, ?_⟩
  cases hfe : fe (capt is ρ) with
  | ok p => rw [hfe] at h; exact h.elim
  | stuck => rw [hfe] at h; exact h.elim
  | exc =>
    rw [hfe] at h
    refine refused ok1.toOkC ⟨_, _, _, _, hf⟩ (fun A' g2 s2 Q' E' okc2 y2 hp => ?_) fun g2 s2 y2 => h _ g2 s2 (y1.trans y2) rfl
    obtain ⟨oc, vs, t, e1, e2, e3⟩ := hrec
    exact lam_call (ok1.after y2) okc2 (y2.mono _ _ hf) ⟨oc, vs, t, y2.mono _ _ e1, e2, e3⟩ hcl hfr hk hco hgen hnoc hcap hat (hbind q cl) he (hfe ▸ hp)
end Mine
end

/-! ## F28 -/
section
open PySem PySem.W PyProof.Rows PySem.Calls PySem.SeqAt
set_option maxRecDepth 100000
set_option maxHeartbeats 4000000
set_option linter.unusedVariables false
namespace Mine
variable {C : Cx} {n : Nat} {sc : Scope} {names : List Str}

/-! ### finding the way by rule -/
inductive Idx : List Str → Str → Nat → Prop
  | here {x : Str} {r : List Str} : Idx (x :: r) x 0
  | there {x y : Str} {r : List Str} {i : Nat} : Idx r x i → Idx (y :: r) x (i + 1)
theorem Idx.get {l : List Str} {x : Str} {i : Nat} (h : Idx l x i) : l[i]? = some x := by
  induction h with
  | here => rfl
  | there _ ih => simpa using ih
theorem Idx.at {l : List Str} {x : Str} {i : Nat} (h : Idx l x i) (nd : l.Nodup) : at? x l = some i := by
  induction h with
  | here => rw [at?, if_pos rfl]
  | @there x y r i h ih =>
    obtain ⟨h1, h2⟩ := List.nodup_cons.mp nd
    have hne : y ≠ x := fun q => h1 (q ▸ List.mem_of_getElem? h.get)
    rw [at?, if_neg hne, ih h2]; rfl
inductive IdxL : List Str → List Str → List Nat → Prop
  | nil {l : List Str} : IdxL l [] []
  | cons {l : List Str} {x : Str} {xs : List Str} {i : Nat} {is : List Nat} : Idx l x i → IdxL l xs is → IdxL l (x :: xs) (i :: is)
theorem IdxL.at {l xs : List Str} {is : List Nat} (h : IdxL l xs is) (nd : l.Nodup) : atAll l xs is := by
  induction h with
  | nil => trivial
  | cons h _ ih => exact ⟨h.at nd, ih⟩
theorem IdxL.caps {l xs : List Str} {is : List Nat} (h : IdxL l xs is) : capsAt l xs is := by
  induction h with
  | nil => trivial
  | cons h _ ih => exact ⟨h.get, ih⟩
theorem e_name {x : Str} {pos : Pos} {i : Nat} (h : Idx names x i) (hd : (x == ("__debug__" : Str)) = false) (hc : (x == ("__classdict__" : Str)) = false) : ESound C n sc names (.Name x pos) (varD i) := es_var i h.get hd hc
theorem e_str {y : Str} {k pos} : ESound C n sc names (.Constant (.str y) k pos) (fun _ => .ok (.str y.cps.toList)) := es_str _ (by cases y; simp)
theorem CSound.mono {f : Value} {D : PV → R} {m : Nat} (h : CSound C m f D) (hm : m ≤ n) : CSound C n f D := fun A g s Q E p vs ok r hp => h A g s Q E p vs ⟨ok.wd, ⟨ok.room.calm, by have := ok.room.depth; omega, by have := ok.room.units; omega⟩, ok.frames⟩ r hp
theorem MSound.mono {x : Str} {D : PV → R} {m : Nat} (h : MSound C m x D) (hm : m ≤ n) : MSound C n x D := let ⟨f, a, r⟩ := h; ⟨f, a.mono hm, r⟩
/-- a call of a name of the top -/
theorem e_call {m : Nat} {x : Str} {np pos : Pos} {e : Expr} {es : List Expr} {f : Addr} {D : PV → R} {fs : List ED} (hc : CSound C m (.ref f) D) (hv : nsIn (KF C.w) mainGlobals x = some (some (.ref f))) (hkp : keepIn (KF C.w) (.ref f) = true) (hd : (x == ("__debug__" : Str)) = false)
    (hk : sc.names.lookup x = some .globalImplicit) (ha : LSound C n sc names (e :: es) fs) (hm : m ≤ n)
    (he : ∀ env, starEach (e :: es) env = (false, eval e env) :: starEach es env) (hplain : ∀ env, (backTo pos (starEach es env)).any (·.1) = false) :
    ESound C n sc names (.Call (.Name x np) (e :: es) [] pos) (callD fs D) := es_Call (glob_K hv hk hd) (kok_K hkp) (hc.mono hm) ha he hplain
theorem e_call0 {m : Nat} {x : Str} {np pos : Pos} {f : Addr} {D : PV → R} (hc : CSound C m (.ref f) D) (hv : nsIn (KF C.w) mainGlobals x = some (some (.ref f))) (hkp : keepIn (KF C.w) (.ref f) = true) (hd : (x == ("__debug__" : Str)) = false)
    (hk : sc.names.lookup x = some .globalImplicit) (hm : m ≤ n) : ESound C n sc names (.Call (.Name x np) [] [] pos) (callD [] D) := es_Call0 (glob_K hv hk hd) (kok_K hkp) (hc.mono hm)
theorem e_len {np pos : Pos} {e : Expr} {fs : List ED} (hk : sc.names.lookup ("len" : Str) = some .globalImplicit) (ha : LSound C n sc names [e] fs) (he : ∀ env, starEach [e] env = (false, eval e env) :: starEach [] env) :
    ESound C n sc names (.Call (.Name "len" np) [e] [] pos) (callD fs (one lenK)) := es_Call (glob_B (by kernel_rfl) (by kernel_rfl) (by decide) hk (by decide)) (kok_pure rfl) (cs_one op_len) ha he (by intro _; rfl)
theorem e_strc {np pos : Pos} {e : Expr} {fs : List ED} (hk : sc.names.lookup ("str" : Str) = some .globalImplicit) (ha : LSound C n sc names [e] fs) (he : ∀ env, starEach [e] env = (false, eval e env) :: starEach [] env) :
    ESound C n sc names (.Call (.Name "str" np) [e] [] pos) (callD fs (one strK)) := es_Call (glob_B (by kernel_rfl) (by kernel_rfl) (by decide) hk (by decide)) (kok_pure rfl) (cs_one op_str) ha he (by intro _; rfl)
theorem e_intc {np pos : Pos} {e : Expr} {fs : List ED} (hk : sc.names.lookup ("int" : Str) = some .globalImplicit) (ha : LSound C n sc names [e] fs) (he : ∀ env, starEach [e] env = (false, eval e env) :: starEach [] env) :
    ESound C n sc names (.Call (.Name "int" np) [e] [] pos) (callD fs (one intK)) := es_Call (glob_B (by kernel_rfl) (by kernel_rfl) (by decide) hk (by decide)) (kok_pure rfl) (cs_one op_int) ha he (by intro _; rfl)
theorem i_range1 {np pos : Pos} {e : Expr} {fs : List ED} (hk : sc.names.lookup ("range" : Str) = some .globalImplicit) (ha : LSound C n sc names [e] fs) (he : ∀ env, starEach [e] env = (false, eval e env) :: starEach [] env) : ISound C n sc names (.Call (.Name "range" np) [e] [] pos) (fun ρ => (rowD fs ρ).bind rangeI1) :=
  is_range1 (glob_B (by kernel_rfl) (by kernel_rfl) (by decide) hk (by decide)) (kok_pure rfl) ha he
theorem i_range2 {np pos : Pos} {e e2 : Expr} {fs : List ED} (hk : sc.names.lookup ("range" : Str) = some .globalImplicit) (ha : LSound C n sc names [e, e2] fs) (he : ∀ env, starEach [e, e2] env = (false, eval e env) :: starEach [e2] env) (hplain : ∀ env, (backTo pos (starEach [e2] env)).any (·.1) = false) : ISound C n sc names (.Call (.Name "range" np) [e, e2] [] pos) (fun ρ => (rowD fs ρ).bind rangeI2) :=
  is_range2 (glob_B (by kernel_rfl) (by kernel_rfl) (by decide) hk (by decide)) (kok_pure rfl) ha he hplain
theorem e_listRange {np np2 pos cpos : Pos} {e : Expr} {fs : List ED} (hkl : sc.names.lookup ("list" : Str) = some .globalImplicit) (hk : sc.names.lookup ("range" : Str) = some .globalImplicit) (ha : LSound C n sc names [e] fs) (he : ∀ env, starEach [e] env = (false, eval e env) :: starEach [] env) :
    ESound C n sc names (.Call (.Name "list" np) [.Call (.Name "range" np2) [e] [] cpos] [] pos) (fun ρ => ((rowD fs ρ).bind rangeI1).bind fun r => .ok (.lst r)) :=
  es_ListRange (glob_B (by kernel_rfl) (by kernel_rfl) (by decide) hkl (by decide)) (kok_pure rfl) (glob_B (by kernel_rfl) (by kernel_rfl) (by decide) hk (by decide)) (kok_pure rfl) ha he
theorem e_attr {value : Expr} {attr : Str} {pos : Pos} {f : ED} (x : Fld) (hv : ESound C n sc names value f) (hx : attr = x.str) (he : ∀ env, eval (.Attribute value attr pos) env = (do let o ← eval value env; standAt pos.atName; let r ← holding [o] (getAttr o attr true); letTemporaryGo value o r; pure r)) : ESound C n sc names (.Attribute value attr pos) (un f (fldK x)) := es_Attr x hv hx he
end Mine
end

/-! ## M -/
section
open PySem PySem.W PyProof.Rows PySem.Calls PySem.SeqAt
set_option maxRecDepth 100000
set_option maxHeartbeats 4000000
set_option linter.unusedVariables false
namespace Mine
variable {C : Cx} {n : Nat} {sc : Scope} {names : List Str}


theorem e_at_name {value : Expr} {pos : Pos} {f : ED} (hv : ESound C n sc names value f) (he : ∀ env, eval (.Attribute value "name" pos) env = (do let o ← eval value env; standAt pos.atName; let r ← holding [o] (getAttr o "name" true); letTemporaryGo value o r; pure r)) : ESound C n sc names (.Attribute value "name" pos) (un f (fldK .name)) := es_Attr .name hv rfl he
theorem e_at_kind {value : Expr} {pos : Pos} {f : ED} (hv : ESound C n sc names value f) (he : ∀ env, eval (.Attribute value "kind" pos) env = (do let o ← eval value env; standAt pos.atName; let r ← holding [o] (getAttr o "kind" true); letTemporaryGo value o r; pure r)) : ESound C n sc names (.Attribute value "kind" pos) (un f (fldK .kind)) := es_Attr .kind hv rfl he
theorem e_at_number {value : Expr} {pos : Pos} {f : ED} (hv : ESound C n sc names value f) (he : ∀ env, eval (.Attribute value "number" pos) env = (do let o ← eval value env; standAt pos.atName; let r ← holding [o] (getAttr o "number" true); letTemporaryGo value o r; pure r)) : ESound C n sc names (.Attribute value "number" pos) (un f (fldK .number)) := es_Attr .number hv rfl he
theorem e_at_size {value : Expr} {pos : Pos} {f : ED} (hv : ESound C n sc names value f) (he : ∀ env, eval (.Attribute value "size" pos) env = (do let o ← eval value env; standAt pos.atName; let r ← holding [o] (getAttr o "size" true); letTemporaryGo value o r; pure r)) : ESound C n sc names (.Attribute value "size" pos) (un f (fldK .size)) := es_Attr .size hv rfl he
theorem e_index {o arg : Expr} {ap pos : Pos} {f k : ED} (ho : ESound C n sc names o f) (hx : ESound C n sc names arg k) (hb : ∀ env, backTo pos (starEach [arg] env) = [(false, eval arg env)])
    (he : ∀ env, eval (.Call (.Attribute o "index" ap) [arg] [] pos) env = (do let ov ← eval o env; standAt ap.atName; let (f, first) ← holding [ov] (getMethod ov "index" (do return (← importBound o env).getD true)); callWith pos f first (backTo pos (starEach [arg] env)) (backToKw pos (keywordEach [] env)))) :
    ESound C n sc names (.Call (.Attribute o "index" ap) [arg] [] pos) (fun ρ => (f ρ).bind fun a => match a with | .lst r => (k ρ).bind fun b => indexK (.lst r) b | _ => .stuck) := es_Index ho hx hb he
theorem e_meth {m : Nat} {o : Expr} {name : Str} {ap pos : Pos} {f : ED} {D : PV → R} (hm : MSound C m name D) (ho : ESound C n sc names o f) (hle : m ≤ n)
    (he : ∀ env, eval (.Call (.Attribute o name ap) [] [] pos) env = (do let ov ← eval o env; standAt ap.atName; let (f, first) ← holding [ov] (getMethod ov name (do return (← importBound o env).getD true)); callWith pos f first (backTo pos (starEach [] env)) (backToKw pos (keywordEach [] env)))) :
    ESound C n sc names (.Call (.Attribute o name ap) [] [] pos) (fun ρ => (f ρ).bind fun a => match a with | .reg nm k num size => D (.reg nm k num size) | _ => .stuck) := es_Meth (hm.mono hle) ho he
theorem sp_NAMES_8 {np ap pos : Pos} (hk : sc.names.lookup ("NAMES_8" : Str) = some .globalImplicit)
    (he : ∀ env, eval (.Call (.Attribute (.Name "NAMES_8" np) "split" ap) [] [] pos) env = (do let ov ← eval (.Name "NAMES_8" np) env; standAt ap.atName; let (f, first) ← holding [ov] (getMethod ov "split" (do return (← importBound (.Name "NAMES_8" np) env).getD true)); callWith pos f first (backTo pos (starEach [] env)) (backToKw pos (keywordEach [] env)))) :
    ESound C n sc names (.Call (.Attribute (.Name "NAMES_8" np) "split" ap) [] [] pos) (fun _ => .ok (.lst (strsR [[97, 108], [99, 108], [100, 108], [98, 108], [115, 112, 108], [98, 112, 108], [115, 105, 108], [100, 105, 108]]))) := es_Split (S := "al cl dl bl spl bpl sil dil") (t := 245) (glob_K (by kernel_rfl) hk (by decide)) (by kernel_rfl) (by decide +kernel) he
theorem sp_NAMES_16 {np ap pos : Pos} (hk : sc.names.lookup ("NAMES_16" : Str) = some .globalImplicit)
    (he : ∀ env, eval (.Call (.Attribute (.Name "NAMES_16" np) "split" ap) [] [] pos) env = (do let ov ← eval (.Name "NAMES_16" np) env; standAt ap.atName; let (f, first) ← holding [ov] (getMethod ov "split" (do return (← importBound (.Name "NAMES_16" np) env).getD true)); callWith pos f first (backTo pos (starEach [] env)) (backToKw pos (keywordEach [] env)))) :
    ESound C n sc names (.Call (.Attribute (.Name "NAMES_16" np) "split" ap) [] [] pos) (fun _ => .ok (.lst (strsR [[97, 120], [99, 120], [100, 120], [98, 120], [115, 112], [98, 112], [115, 105], [100, 105]]))) := es_Split (S := "ax cx dx bx sp bp si di") (t := 247) (glob_K (by kernel_rfl) hk (by decide)) (by kernel_rfl) (by decide +kernel) he
theorem sp_NAMES_32 {np ap pos : Pos} (hk : sc.names.lookup ("NAMES_32" : Str) = some .globalImplicit)
    (he : ∀ env, eval (.Call (.Attribute (.Name "NAMES_32" np) "split" ap) [] [] pos) env = (do let ov ← eval (.Name "NAMES_32" np) env; standAt ap.atName; let (f, first) ← holding [ov] (getMethod ov "split" (do return (← importBound (.Name "NAMES_32" np) env).getD true)); callWith pos f first (backTo pos (starEach [] env)) (backToKw pos (keywordEach [] env)))) :
    ESound C n sc names (.Call (.Attribute (.Name "NAMES_32" np) "split" ap) [] [] pos) (fun _ => .ok (.lst (strsR [[101, 97, 120], [101, 99, 120], [101, 100, 120], [101, 98, 120], [101, 115, 112], [101, 98, 112], [101, 115, 105], [101, 100, 105]]))) := es_Split (S := "eax ecx edx ebx esp ebp esi edi") (t := 249) (glob_K (by kernel_rfl) hk (by decide)) (by kernel_rfl) (by decide +kernel) he
theorem sp_NAMES_64 {np ap pos : Pos} (hk : sc.names.lookup ("NAMES_64" : Str) = some .globalImplicit)
    (he : ∀ env, eval (.Call (.Attribute (.Name "NAMES_64" np) "split" ap) [] [] pos) env = (do let ov ← eval (.Name "NAMES_64" np) env; standAt ap.atName; let (f, first) ← holding [ov] (getMethod ov "split" (do return (← importBound (.Name "NAMES_64" np) env).getD true)); callWith pos f first (backTo pos (starEach [] env)) (backToKw pos (keywordEach [] env)))) :
    ESound C n sc names (.Call (.Attribute (.Name "NAMES_64" np) "split" ap) [] [] pos) (fun _ => .ok (.lst (strsR [[114, 97, 120], [114, 99, 120], [114, 100, 120], [114, 98, 120], [114, 115, 112], [114, 98, 112], [114, 115, 105], [114, 100, 105]]))) := es_Split (S := "rax rcx rdx rbx rsp rbp rsi rdi") (t := 251) (glob_K (by kernel_rfl) hk (by decide)) (by kernel_rfl) (by decide +kernel) he
theorem sp_HIGH_NAMES {np ap pos : Pos} (hk : sc.names.lookup ("HIGH_NAMES" : Str) = some .globalImplicit)
    (he : ∀ env, eval (.Call (.Attribute (.Name "HIGH_NAMES" np) "split" ap) [] [] pos) env = (do let ov ← eval (.Name "HIGH_NAMES" np) env; standAt ap.atName; let (f, first) ← holding [ov] (getMethod ov "split" (do return (← importBound (.Name "HIGH_NAMES" np) env).getD true)); callWith pos f first (backTo pos (starEach [] env)) (backToKw pos (keywordEach [] env)))) :
    ESound C n sc names (.Call (.Attribute (.Name "HIGH_NAMES" np) "split" ap) [] [] pos) (fun _ => .ok (.lst (strsR [[97, 104], [99, 104], [100, 104], [98, 104]]))) := es_Split (S := "ah ch dh bh") (t := 253) (glob_K (by kernel_rfl) hk (by decide)) (by kernel_rfl) (by decide +kernel) he
theorem sp_LATE_NUMBERS {np ap pos : Pos} (hk : sc.names.lookup ("LATE_NUMBERS" : Str) = some .globalImplicit)
    (he : ∀ env, eval (.Call (.Attribute (.Name "LATE_NUMBERS" np) "split" ap) [] [] pos) env = (do let ov ← eval (.Name "LATE_NUMBERS" np) env; standAt ap.atName; let (f, first) ← holding [ov] (getMethod ov "split" (do return (← importBound (.Name "LATE_NUMBERS" np) env).getD true)); callWith pos f first (backTo pos (starEach [] env)) (backToKw pos (keywordEach [] env)))) :
    ESound C n sc names (.Call (.Attribute (.Name "LATE_NUMBERS" np) "split" ap) [] [] pos) (fun _ => .ok (.lst (strsR [[56], [57], [49, 48], [49, 49], [49, 50], [49, 51], [49, 52], [49, 53]]))) := es_Split (S := "8 9 10 11 12 13 14 15") (t := 255) (glob_K (by kernel_rfl) hk (by decide)) (by kernel_rfl) (by decide +kernel) he
theorem sp_XMM_NUMBERS {np ap pos : Pos} (hk : sc.names.lookup ("XMM_NUMBERS" : Str) = some .globalImplicit)
    (he : ∀ env, eval (.Call (.Attribute (.Name "XMM_NUMBERS" np) "split" ap) [] [] pos) env = (do let ov ← eval (.Name "XMM_NUMBERS" np) env; standAt ap.atName; let (f, first) ← holding [ov] (getMethod ov "split" (do return (← importBound (.Name "XMM_NUMBERS" np) env).getD true)); callWith pos f first (backTo pos (starEach [] env)) (backToKw pos (keywordEach [] env)))) :
    ESound C n sc names (.Call (.Attribute (.Name "XMM_NUMBERS" np) "split" ap) [] [] pos) (fun _ => .ok (.lst (strsR [[48], [49], [50], [51], [52], [53], [54], [55], [56], [57], [49, 48], [49, 49], [49, 50], [49, 51], [49, 52], [49, 53]]))) := es_Split (S := "0 1 2 3 4 5 6 7 8 9 10 11 12 13 14 15") (t := 257) (glob_K (by kernel_rfl) hk (by decide)) (by kernel_rfl) (by decide +kernel) he
theorem sp_SEGMENT_NAMES {np ap pos : Pos} (hk : sc.names.lookup ("SEGMENT_NAMES" : Str) = some .globalImplicit)
    (he : ∀ env, eval (.Call (.Attribute (.Name "SEGMENT_NAMES" np) "split" ap) [] [] pos) env = (do let ov ← eval (.Name "SEGMENT_NAMES" np) env; standAt ap.atName; let (f, first) ← holding [ov] (getMethod ov "split" (do return (← importBound (.Name "SEGMENT_NAMES" np) env).getD true)); callWith pos f first (backTo pos (starEach [] env)) (backToKw pos (keywordEach [] env)))) :
    ESound C n sc names (.Call (.Attribute (.Name "SEGMENT_NAMES" np) "split" ap) [] [] pos) (fun _ => .ok (.lst (strsR [[101, 115], [99, 115], [115, 115], [100, 115], [102, 115], [103, 115]]))) := es_Split (S := "es cs ss ds fs gs") (t := 259) (glob_K (by kernel_rfl) hk (by decide)) (by kernel_rfl) (by decide +kernel) he
theorem s_assign {x : Str} {i : Nat} {value : Expr} {p1 pos : Pos} {f : ED} (he : ESound C n sc names value f) (hi : Idx names x i) (hnd : names.Nodup) (hb : bindable sc x = true) (hs : ∀ env : Env, env.scope = sc → swapsWith value (some (.Name x p1)) pos.line env = pure false) :
    SSound C n sc names (.Assign [.Name x p1] value pos) (fun ρ => (f ρ).toF fun p => .next (setV i p ρ)) := ss_Assign he hnd (hi.at hnd) hb hs
theorem s_raise {m : Nat} {np cpos pos : Pos} {arg : Expr} {f : ED} (hk : sc.names.lookup ("OperandError" : Str) = some .globalImplicit) (ha : ESound C n sc names arg f) (hn : n = m + 1)
    (he : ∀ env, starEach [arg] env = [(false, eval arg env)]) : SSound C n sc names (.Raise (some (.Call (.Name "OperandError" np) [arg] [] cpos)) none pos) (fun ρ => (f ρ).toF fun _ => .exc) := by
  subst hn
  exact ss_Raise (glob_K (ns_err _) hk (by decide)) (kok_K (by kernel_rfl)) ha he

local macro_rules | `(tactic| walk_at "mi") => `(tactic| first
  | with_reducible exact Idx.here
  | ((with_reducible refine' Idx.there ?a0); (case a0 => walk_at "mi")))
local macro_rules | `(tactic| walk_at "mJ") => `(tactic| first
  | with_reducible exact IdxL.nil
  | ((with_reducible refine' IdxL.cons ?a0 ?a1); (case a0 => walk_at "mi"); (case a1 => walk_at "mJ")))
local macro_rules | `(tactic| walk_at "mo") => `(tactic| first
  | with_reducible exact op_add
  | with_reducible exact op_sub
  | with_reducible exact op_eq
  | with_reducible exact op_ne
  | with_reducible exact op_in
  | with_reducible exact op_notin
  | with_reducible exact op_lt
  | with_reducible exact op_le
  | with_reducible exact op_gt
  | with_reducible exact op_is
  | with_reducible exact op_isnot
  | with_reducible exact op_mod
  | with_reducible exact op_div
  | with_reducible exact op_pow
  | with_reducible exact op_bitand)
local macro_rules | `(tactic| walk_at "mC") => `(tactic| first
  | ((with_reducible refine' e_len ?a0 ?a1 ?a2); (case a0 => kernel_rfl); (case a1 => walk_at "mL"); (case a2 => (intro _; rfl)))
  | ((with_reducible refine' e_strc ?a0 ?a1 ?a2); (case a0 => kernel_rfl); (case a1 => walk_at "mL"); (case a2 => (intro _; rfl)))
  | ((with_reducible refine' e_intc ?a0 ?a1 ?a2); (case a0 => kernel_rfl); (case a1 => walk_at "mL"); (case a2 => (intro _; rfl)))
  | ((with_reducible refine' e_listRange ?a0 ?a1 ?a2 ?a3); (case a0 => kernel_rfl); (case a1 => kernel_rfl); (case a2 => walk_at "mL"); (case a3 => (intro _; rfl))))
local macro_rules | `(tactic| walk_at "mE") => `(tactic| first
  | ((with_reducible refine' e_name ?a0 ?a1 ?a2); (case a0 => walk_at "mi"); (case a1 => decide); (case a2 => decide))
  | with_reducible exact es_int
  | with_reducible exact e_str
  | with_reducible exact es_bool
  | with_reducible exact es_none
  | ((with_reducible refine' es_BinOp ?a0 ?a1 ?a2); (case a0 => walk_at "mo"); (case a1 => walk_at "mE"); (case a2 => walk_at "mE"))
  | ((with_reducible refine' es_Compare ?a0 ?a1 ?a2 ?a3); (case a0 => walk_at "mo"); (case a1 => walk_at "mE"); (case a2 => walk_at "mE"); (case a3 => with_unfolding_all rfl))
  | ((with_reducible refine' es_IfExp ?a0 ?a1 ?a2); (case a0 => walk_at "mT"); (case a1 => walk_at "mE"); (case a2 => walk_at "mE"))
  | ((with_reducible refine' es_one ?a0); (case a0 => walk_at "mE"))
  | ((with_reducible refine' es_and ?a0 ?a1); (case a0 => walk_at "mE"); (case a1 => walk_at "mE"))
  | ((with_reducible refine' es_or ?a0 ?a1); (case a0 => walk_at "mE"); (case a1 => walk_at "mE"))
  | ((with_reducible refine' es_SliceSS ?a0 ?a1 ?a2); (case a0 => walk_at "mE"); (case a1 => walk_at "mE"); (case a2 => walk_at "mE"))
  | ((with_reducible refine' es_SliceS_ ?a0 ?a1); (case a0 => walk_at "mE"); (case a1 => walk_at "mE"))
  | ((with_reducible refine' es_Slice_S ?a0 ?a1); (case a0 => walk_at "mE"); (case a1 => walk_at "mE"))
  | ((with_reducible refine' es_Item ?a0 ?a1 ?a2); (case a0 => walk_at "mE"); (case a1 => walk_at "mE"); (case a2 => (intro _ _; with_unfolding_all rfl)))
  | ((with_reducible refine' es_Tuple ?a0 ?a1); (case a0 => walk_at "mL"); (case a1 => decide))
  | ((with_reducible refine' es_List ?a0 ?a1); (case a0 => walk_at "mL"); (case a1 => decide))
  | ((with_reducible refine' e_at_name ?a0 ?a1); (case a0 => walk_at "mE"); (case a1 => (intro _; with_unfolding_all rfl)))
  | ((with_reducible refine' e_at_kind ?a0 ?a1); (case a0 => walk_at "mE"); (case a1 => (intro _; with_unfolding_all rfl)))
  | ((with_reducible refine' e_at_number ?a0 ?a1); (case a0 => walk_at "mE"); (case a1 => (intro _; with_unfolding_all rfl)))
  | ((with_reducible refine' e_at_size ?a0 ?a1); (case a0 => walk_at "mE"); (case a1 => (intro _; with_unfolding_all rfl)))
  | ((with_reducible refine' e_index ?a0 ?a1 ?a2 ?a3); (case a0 => walk_at "mE"); (case a1 => walk_at "mE"); (case a2 => (intro _; rfl)); (case a3 => (intro _; rfl)))
  | ((with_reducible refine' sp_NAMES_8 ?a0 ?a1); (case a0 => kernel_rfl); (case a1 => (intro _; rfl)))
  | ((with_reducible refine' sp_NAMES_16 ?a0 ?a1); (case a0 => kernel_rfl); (case a1 => (intro _; rfl)))
  | ((with_reducible refine' sp_NAMES_32 ?a0 ?a1); (case a0 => kernel_rfl); (case a1 => (intro _; rfl)))
  | ((with_reducible refine' sp_NAMES_64 ?a0 ?a1); (case a0 => kernel_rfl); (case a1 => (intro _; rfl)))
  | ((with_reducible refine' sp_HIGH_NAMES ?a0 ?a1); (case a0 => kernel_rfl); (case a1 => (intro _; rfl)))
  | ((with_reducible refine' sp_LATE_NUMBERS ?a0 ?a1); (case a0 => kernel_rfl); (case a1 => (intro _; rfl)))
  | ((with_reducible refine' sp_XMM_NUMBERS ?a0 ?a1); (case a0 => kernel_rfl); (case a1 => (intro _; rfl)))
  | ((with_reducible refine' sp_SEGMENT_NAMES ?a0 ?a1); (case a0 => kernel_rfl); (case a1 => (intro _; rfl)))
  | walk_at "mC")
local macro_rules | `(tactic| walk_at "mT") => `(tactic| first
  | ((with_reducible refine' ts_Not ?a0); (case a0 => walk_at "mT"))
  | with_reducible exact ts_andnil
  | with_reducible exact ts_ornil
  | ((with_reducible refine' ts_and ?a0 ?a1); (case a0 => walk_at "mT"); (case a1 => walk_at "mT"))
  | ((with_reducible refine' ts_or ?a0 ?a1); (case a0 => walk_at "mT"); (case a1 => walk_at "mT"))
  | ((with_reducible refine' ts_Compare ?a0 ?a1 ?a2 ?a3); (case a0 => walk_at "mo"); (case a1 => walk_at "mE"); (case a2 => walk_at "mE"); (case a3 => with_unfolding_all rfl))
  | ((with_reducible refine' ts_Chain ?a0 ?a1 ?a2 ?a3 ?a4 ?a5); (case a0 => walk_at "mo"); (case a1 => walk_at "mo"); (case a2 => walk_at "mE"); (case a3 => walk_at "mE"); (case a4 => walk_at "mE"); (case a5 => with_unfolding_all rfl))
  | ((with_reducible refine' ts_plain ?a0 ?a1); (case a0 => (intro _; rfl)); (case a1 => walk_at "mE")))
local macro_rules | `(tactic| walk_at "mL") => `(tactic| first
  | with_reducible exact ls_nil
  | ((with_reducible refine' ls_cons ?a0 ?a1 ?a2); (case a0 => walk_at "mE"); (case a1 => walk_at "mL"); (case a2 => (intro _; rfl))))
local macro_rules | `(tactic| walk_at "mI") => `(tactic| first
  | ((with_reducible refine' i_range1 ?a0 ?a1 ?a2); (case a0 => kernel_rfl); (case a1 => walk_at "mL"); (case a2 => (intro _; rfl)))
  | ((with_reducible refine' i_range2 ?a0 ?a1 ?a2 ?a3); (case a0 => kernel_rfl); (case a1 => walk_at "mL"); (case a2 => (intro _; rfl)); (case a3 => (intro _; rfl)))
  | ((with_reducible refine' is_seq ?a0); (case a0 => walk_at "mE")))
local macro_rules | `(tactic| walk_at "mB") => `(tactic| first
  | with_reducible exact bs_nil
  | ((with_reducible refine' bs_cons ?a0 ?a1); (case a0 => walk_at "mS"); (case a1 => walk_at "mB")))
local macro_rules | `(tactic| walk_at "mS") => `(tactic| first
  | ((with_reducible refine' ss_Return ?a0); (case a0 => walk_at "mE"))
  | ((with_reducible refine' ss_If ?a0 ?a1 ?a2); (case a0 => walk_at "mT"); (case a1 => walk_at "mB"); (case a2 => walk_at "mB"))
  | ((with_reducible refine' s_raise ?a0 ?a1 ?a2 ?a3); (case a0 => kernel_rfl); (case a1 => walk_at "mE"); (case a2 => rfl); (case a3 => (intro _; rfl)))
  | ((with_reducible refine' s_assign ?a0 ?a1 ?a2 ?a3 ?a4); (case a0 => walk_at "mE"); (case a1 => walk_at "mi"); (case a2 => decide +kernel); (case a3 => kernel_rfl); (case a4 => (intro _ _; rfl))))

theorem E106 {np pos : Pos} {x0 x1 x2 x3 : Expr} {fs : List ED} (hk : sc.names.lookup ("Register" : Str) = some .globalImplicit) (ha : LSound C n sc names [x0, x1, x2, x3] fs) (hm : 1 ≤ n) (he : ∀ env, starEach [x0, x1, x2, x3] env = (false, eval x0 env) :: starEach [x1, x2, x3] env) (hp : ∀ env, (backTo pos (starEach [x1, x2, x3] env)).any (·.1) = false) :
    ESound C n sc names (.Call (.Name "Register" np) [x0, x1, x2, x3] [] pos) (callD fs regK) := e_call (cs_Register (n := 0)) (by kernel_rfl) (by kernel_rfl) (by decide) hk ha hm he hp
local macro_rules | `(tactic| walk_at "mC") => `(tactic| ((with_reducible refine' E106 ?a0 ?a1 ?a2 ?a3 ?a4); (case a0 => kernel_rfl); (case a1 => walk_at "mL"); (case a2 => decide); (case a3 => (intro _; rfl)); (case a4 => (intro _; rfl))))
theorem fn117 (w : World) : FnIs (KF w) 117 ["size"] (bodyIn (KF w) 117) (scopeIn (KF w) 117) := by
  refine ⟨_, _, _, _, rfl, rfl, rfl, rfl, rfl, rfl, ?_, .none ?_ ?_, ?_⟩
  · kernel_rfl
  · kernel_rfl
  · kernel_rfl
  · intro vs h
    match vs, h with
    | [a], _ => rfl
noncomputable def b117 : {F : SD // ∀ C : Cx, BSound C 1 (scopeIn (KF C.w) 117) ["size"] (bodyIn (KF C.w) 117) F} := by
  refine ⟨?F, ?h⟩
  case h =>
    intro C
    conv => arg 5; whnf
    walk_at "mB"
noncomputable def D117 : PV → R := retD 1 0 b117.1
theorem c117 (C : Cx) : CSound C 2 (.ref 117) D117 := cs_def (ps := ["size"]) (rest := []) (fn117 C.w) (b117.2 C) rfl rfl rfl (by decide) (by kernel_rfl) (by kernel_rfl)
theorem E117 {np pos : Pos} {x0 : Expr} {fs : List ED} (hk : sc.names.lookup ("early_names" : Str) = some .globalImplicit) (ha : LSound C n sc names [x0] fs) (hm : 2 ≤ n) (he : ∀ env, starEach [x0] env = (false, eval x0 env) :: starEach [] env) (hp : ∀ env, (backTo pos (starEach [] env)).any (·.1) = false) :
    ESound C n sc names (.Call (.Name "early_names" np) [x0] [] pos) (callD fs D117) := e_call (c117 C) (by kernel_rfl) (by kernel_rfl) (by decide) hk ha hm he hp
local macro_rules | `(tactic| walk_at "mC") => `(tactic| ((with_reducible refine' E117 ?a0 ?a1 ?a2 ?a3 ?a4); (case a0 => kernel_rfl); (case a1 => walk_at "mL"); (case a2 => decide); (case a3 => (intro _; rfl)); (case a4 => (intro _; rfl))))
theorem fn124 (w : World) : FnIs (KF w) 124 ["size"] (bodyIn (KF w) 124) (scopeIn (KF w) 124) := by
  refine ⟨_, _, _, _, rfl, rfl, rfl, rfl, rfl, rfl, ?_, .none ?_ ?_, ?_⟩
  · kernel_rfl
  · kernel_rfl
  · kernel_rfl
  · intro vs h
    match vs, h with
    | [a], _ => rfl
noncomputable def b124 : {F : SD // ∀ C : Cx, BSound C 1 (scopeIn (KF C.w) 124) ["size"] (bodyIn (KF C.w) 124) F} := by
  refine ⟨?F, ?h⟩
  case h =>
    intro C
    conv => arg 5; whnf
    walk_at "mB"
noncomputable def D124 : PV → R := retD 1 0 b124.1
theorem c124 (C : Cx) : CSound C 2 (.ref 124) D124 := cs_def (ps := ["size"]) (rest := []) (fn124 C.w) (b124.2 C) rfl rfl rfl (by decide) (by kernel_rfl) (by kernel_rfl)
theorem E124 {np pos : Pos} {x0 : Expr} {fs : List ED} (hk : sc.names.lookup ("late_ending" : Str) = some .globalImplicit) (ha : LSound C n sc names [x0] fs) (hm : 2 ≤ n) (he : ∀ env, starEach [x0] env = (false, eval x0 env) :: starEach [] env) (hp : ∀ env, (backTo pos (starEach [] env)).any (·.1) = false) :
    ESound C n sc names (.Call (.Name "late_ending" np) [x0] [] pos) (callD fs D124) := e_call (c124 C) (by kernel_rfl) (by kernel_rfl) (by decide) hk ha hm he hp
local macro_rules | `(tactic| walk_at "mC") => `(tactic| ((with_reducible refine' E124 ?a0 ?a1 ?a2 ?a3 ?a4); (case a0 => kernel_rfl); (case a1 => walk_at "mL"); (case a2 => decide); (case a3 => (intro _; rfl)); (case a4 => (intro _; rfl))))
theorem fn131 (w : World) : FnIs (KF w) 131 ["number", "size"] (bodyIn (KF w) 131) (scopeIn (KF w) 131) := by
  refine ⟨_, _, _, _, rfl, rfl, rfl, rfl, rfl, rfl, ?_, .none ?_ ?_, ?_⟩
  · kernel_rfl
  · kernel_rfl
  · kernel_rfl
  · intro vs h
    match vs, h with
    | [a, b], _ => rfl
noncomputable def b131 : {F : SD // ∀ C : Cx, BSound C 3 (scopeIn (KF C.w) 131) ["number", "size", "names"] (bodyIn (KF C.w) 131) F} := by
  refine ⟨?F, ?h⟩
  case h =>
    intro C
    conv => arg 5; whnf
    walk_at "mB"
noncomputable def D131 : PV → R := retD 2 1 b131.1
theorem c131 (C : Cx) : CSound C 4 (.ref 131) D131 := cs_def (ps := ["number", "size"]) (rest := ["names"]) (fn131 C.w) (b131.2 C) rfl rfl rfl (by decide) (by kernel_rfl) (by kernel_rfl)
theorem E131 {np pos : Pos} {x0 x1 : Expr} {fs : List ED} (hk : sc.names.lookup ("gpr" : Str) = some .globalImplicit) (ha : LSound C n sc names [x0, x1] fs) (hm : 4 ≤ n) (he : ∀ env, starEach [x0, x1] env = (false, eval x0 env) :: starEach [x1] env) (hp : ∀ env, (backTo pos (starEach [x1] env)).any (·.1) = false) :
    ESound C n sc names (.Call (.Name "gpr" np) [x0, x1] [] pos) (callD fs D131) := e_call (c131 C) (by kernel_rfl) (by kernel_rfl) (by decide) hk ha hm he hp
local macro_rules | `(tactic| walk_at "mC") => `(tactic| ((with_reducible refine' E131 ?a0 ?a1 ?a2 ?a3 ?a4); (case a0 => kernel_rfl); (case a1 => walk_at "mL"); (case a2 => decide); (case a3 => (intro _; rfl)); (case a4 => (intro _; rfl))))
theorem fn138 (w : World) : FnIs (KF w) 138 ["number"] (bodyIn (KF w) 138) (scopeIn (KF w) 138) := by
  refine ⟨_, _, _, _, rfl, rfl, rfl, rfl, rfl, rfl, ?_, .none ?_ ?_, ?_⟩
  · kernel_rfl
  · kernel_rfl
  · kernel_rfl
  · intro vs h
    match vs, h with
    | [a], _ => rfl
noncomputable def b138 : {F : SD // ∀ C : Cx, BSound C 3 (scopeIn (KF C.w) 138) ["number"] (bodyIn (KF C.w) 138) F} := by
  refine ⟨?F, ?h⟩
  case h =>
    intro C
    conv => arg 5; whnf
    walk_at "mB"
noncomputable def D138 : PV → R := retD 1 0 b138.1
theorem c138 (C : Cx) : CSound C 4 (.ref 138) D138 := cs_def (ps := ["number"]) (rest := []) (fn138 C.w) (b138.2 C) rfl rfl rfl (by decide) (by kernel_rfl) (by kernel_rfl)
theorem E138 {np pos : Pos} {x0 : Expr} {fs : List ED} (hk : sc.names.lookup ("high" : Str) = some .globalImplicit) (ha : LSound C n sc names [x0] fs) (hm : 4 ≤ n) (he : ∀ env, starEach [x0] env = (false, eval x0 env) :: starEach [] env) (hp : ∀ env, (backTo pos (starEach [] env)).any (·.1) = false) :
    ESound C n sc names (.Call (.Name "high" np) [x0] [] pos) (callD fs D138) := e_call (c138 C) (by kernel_rfl) (by kernel_rfl) (by decide) hk ha hm he hp
local macro_rules | `(tactic| walk_at "mC") => `(tactic| ((with_reducible refine' E138 ?a0 ?a1 ?a2 ?a3 ?a4); (case a0 => kernel_rfl); (case a1 => walk_at "mL"); (case a2 => decide); (case a3 => (intro _; rfl)); (case a4 => (intro _; rfl))))
theorem fn145 (w : World) : FnIs (KF w) 145 ["number", "has_rex"] (bodyIn (KF w) 145) (scopeIn (KF w) 145) := by
  refine ⟨_, _, _, _, rfl, rfl, rfl, rfl, rfl, rfl, ?_, .none ?_ ?_, ?_⟩
  · kernel_rfl
  · kernel_rfl
  · kernel_rfl
  · intro vs h
    match vs, h with
    | [a, b], _ => rfl
noncomputable def b145 : {F : SD // ∀ C : Cx, BSound C 4 (scopeIn (KF C.w) 145) ["number", "has_rex"] (bodyIn (KF C.w) 145) F} := by
  refine ⟨?F, ?h⟩
  case h =>
    intro C
    conv => arg 5; whnf
    walk_at "mB"
noncomputable def D145 : PV → R := retD 2 0 b145.1
theorem c145 (C : Cx) : CSound C 5 (.ref 145) D145 := cs_def (ps := ["number", "has_rex"]) (rest := []) (fn145 C.w) (b145.2 C) rfl rfl rfl (by decide) (by kernel_rfl) (by kernel_rfl)
theorem E145 {np pos : Pos} {x0 x1 : Expr} {fs : List ED} (hk : sc.names.lookup ("octet_register" : Str) = some .globalImplicit) (ha : LSound C n sc names [x0, x1] fs) (hm : 5 ≤ n) (he : ∀ env, starEach [x0, x1] env = (false, eval x0 env) :: starEach [x1] env) (hp : ∀ env, (backTo pos (starEach [x1] env)).any (·.1) = false) :
    ESound C n sc names (.Call (.Name "octet_register" np) [x0, x1] [] pos) (callD fs D145) := e_call (c145 C) (by kernel_rfl) (by kernel_rfl) (by decide) hk ha hm he hp
local macro_rules | `(tactic| walk_at "mC") => `(tactic| ((with_reducible refine' E145 ?a0 ?a1 ?a2 ?a3 ?a4); (case a0 => kernel_rfl); (case a1 => walk_at "mL"); (case a2 => decide); (case a3 => (intro _; rfl)); (case a4 => (intro _; rfl))))
theorem fn152 (w : World) : FnIs (KF w) 152 ["number"] (bodyIn (KF w) 152) (scopeIn (KF w) 152) := by
  refine ⟨_, _, _, _, rfl, rfl, rfl, rfl, rfl, rfl, ?_, .none ?_ ?_, ?_⟩
  · kernel_rfl
  · kernel_rfl
  · kernel_rfl
  · intro vs h
    match vs, h with
    | [a], _ => rfl
noncomputable def b152 : {F : SD // ∀ C : Cx, BSound C 3 (scopeIn (KF C.w) 152) ["number"] (bodyIn (KF C.w) 152) F} := by
  refine ⟨?F, ?h⟩
  case h =>
    intro C
    conv => arg 5; whnf
    walk_at "mB"
noncomputable def D152 : PV → R := retD 1 0 b152.1
theorem c152 (C : Cx) : CSound C 4 (.ref 152) D152 := cs_def (ps := ["number"]) (rest := []) (fn152 C.w) (b152.2 C) rfl rfl rfl (by decide) (by kernel_rfl) (by kernel_rfl)
theorem E152 {np pos : Pos} {x0 : Expr} {fs : List ED} (hk : sc.names.lookup ("xmm" : Str) = some .globalImplicit) (ha : LSound C n sc names [x0] fs) (hm : 4 ≤ n) (he : ∀ env, starEach [x0] env = (false, eval x0 env) :: starEach [] env) (hp : ∀ env, (backTo pos (starEach [] env)).any (·.1) = false) :
    ESound C n sc names (.Call (.Name "xmm" np) [x0] [] pos) (callD fs D152) := e_call (c152 C) (by kernel_rfl) (by kernel_rfl) (by decide) hk ha hm he hp
local macro_rules | `(tactic| walk_at "mC") => `(tactic| ((with_reducible refine' E152 ?a0 ?a1 ?a2 ?a3 ?a4); (case a0 => kernel_rfl); (case a1 => walk_at "mL"); (case a2 => decide); (case a3 => (intro _; rfl)); (case a4 => (intro _; rfl))))
theorem fn159 (w : World) : FnIs (KF w) 159 [] (bodyIn (KF w) 159) (scopeIn (KF w) 159) := by
  refine ⟨_, _, _, _, rfl, rfl, rfl, rfl, rfl, rfl, ?_, .none ?_ ?_, ?_⟩
  · kernel_rfl
  · kernel_rfl
  · kernel_rfl
  · intro vs h
    match vs, h with
    | [], _ => rfl
noncomputable def b159 : {F : SD // ∀ C : Cx, BSound C 3 (scopeIn (KF C.w) 159) [] (bodyIn (KF C.w) 159) F} := by
  refine ⟨?F, ?h⟩
  case h =>
    intro C
    conv => arg 5; whnf
    walk_at "mB"
noncomputable def D159 : PV → R := retD 0 0 b159.1
theorem c159 (C : Cx) : CSound C 4 (.ref 159) D159 := cs_def (ps := []) (rest := []) (fn159 C.w) (b159.2 C) rfl rfl rfl (by decide) (by kernel_rfl) (by kernel_rfl)
theorem E159 {np pos : Pos} (hk : sc.names.lookup ("rip" : Str) = some .globalImplicit) (hm : 4 ≤ n) : ESound C n sc names (.Call (.Name "rip" np) [] [] pos) (callD [] D159) := e_call0 (c159 C) (by kernel_rfl) (by kernel_rfl) (by decide) hk hm
local macro_rules | `(tactic| walk_at "mC") => `(tactic| ((with_reducible refine' E159 ?a0 ?a1); (case a0 => kernel_rfl); (case a1 => decide)))
theorem fn166 (w : World) : FnIs (KF w) 166 ["name"] (bodyIn (KF w) 166) (scopeIn (KF w) 166) := by
  refine ⟨_, _, _, _, rfl, rfl, rfl, rfl, rfl, rfl, ?_, .none ?_ ?_, ?_⟩
  · kernel_rfl
  · kernel_rfl
  · kernel_rfl
  · intro vs h
    match vs, h with
    | [a], _ => rfl
noncomputable def b166 : {F : SD // ∀ C : Cx, BSound C 3 (scopeIn (KF C.w) 166) ["name", "names"] (bodyIn (KF C.w) 166) F} := by
  refine ⟨?F, ?h⟩
  case h =>
    intro C
    conv => arg 5; whnf
    walk_at "mB"
noncomputable def D166 : PV → R := retD 1 1 b166.1
theorem c166 (C : Cx) : CSound C 4 (.ref 166) D166 := cs_def (ps := ["name"]) (rest := ["names"]) (fn166 C.w) (b166.2 C) rfl rfl rfl (by decide) (by kernel_rfl) (by kernel_rfl)
theorem E166 {np pos : Pos} {x0 : Expr} {fs : List ED} (hk : sc.names.lookup ("segment" : Str) = some .globalImplicit) (ha : LSound C n sc names [x0] fs) (hm : 4 ≤ n) (he : ∀ env, starEach [x0] env = (false, eval x0 env) :: starEach [] env) (hp : ∀ env, (backTo pos (starEach [] env)).any (·.1) = false) :
    ESound C n sc names (.Call (.Name "segment" np) [x0] [] pos) (callD fs D166) := e_call (c166 C) (by kernel_rfl) (by kernel_rfl) (by decide) hk ha hm he hp
local macro_rules | `(tactic| walk_at "mC") => `(tactic| ((with_reducible refine' E166 ?a0 ?a1 ?a2 ?a3 ?a4); (case a0 => kernel_rfl); (case a1 => walk_at "mL"); (case a2 => decide); (case a3 => (intro _; rfl)); (case a4 => (intro _; rfl))))


inductive Frees : List (Str × NameKind) → List Str → Prop
  | nil : Frees [] []
  | free {x : Str} {r : List (Str × NameKind)} {l : List Str} : Frees r l → Frees ((x, .free) :: r) (x :: l)
  | loc {x : Str} {r : List (Str × NameKind)} {l : List Str} : Frees r l → Frees ((x, .local) :: r) l
  | cell {x : Str} {r : List (Str × NameKind)} {l : List Str} : Frees r l → Frees ((x, .cell) :: r) l
  | glob {x : Str} {r : List (Str × NameKind)} {l : List Str} : Frees r l → Frees ((x, .globalImplicit) :: r) l
theorem hxf_of {scope : Scope} {x : Str} (h : scope.names.contains (x, .free) = false) : (x, NameKind.free) ∉ scope.names := fun q => by
  have := List.contains_iff_mem.mpr q
  rw [h] at this; cases this
theorem hnames_of {scope : Scope} (h : scope.names.all (fun y => y.2 != .local || scope.names.lookup y.1 == some .local) = true) : ∀ y ∈ scope.names, y.2 = .local → scope.names.lookup y.1 = some .local := fun y hy e => by
  have := List.all_eq_true.mp h y hy
  rw [e] at this
  simpa using this
theorem e_comp {elt iter : Expr} {x : Str} {px : Pos} {ifs : List Expr} {scope : Scope} {pos : Pos} {fi ft fe : ED} {caps : List Str} {is : List Nat} (hF : Frees scope.names caps) (hi : ISound C n sc names iter fi)
    (ht : TestsOk C n (relS scope sc) (x :: caps) ifs ft) (he : ESound C n (relS scope sc) (x :: caps) elt fe) (hat : IdxL names caps is)
    (hnd : (x :: caps).Nodup) (hb : bindable (relS scope sc) x = true) (hxf : scope.names.contains (x, .free) = false) (hk : scope.kind = .function) (hcap : caps.all (capOk scope sc) = true)
    (hnc1 : (scope.names.lookup ("left" : Str) == some .cell) = false) (hnc2 : (scope.names.lookup ("told" : Str) == some .cell) = false)
    (hfrees : frees scope sc = true) (hnames : scope.names.all (fun y => y.2 != .local || scope.names.lookup y.1 == some .local) = true)
    (hs : ∀ env : Env, ∀ x, foldedSetIterable iter env x = pure x) :
    ESound C n sc names (.ListComp elt [⟨.Name x px, iter, ifs, 0⟩] scope pos) (compD fi ft fe is) := es_ListComp hi ht he hnd hb (hxf_of hxf) hk hcap hat.caps hnc1 hnc2 hfrees (hnames_of hnames) hs
theorem s_comp {elt iter : Expr} {x y : Str} {px py : Pos} {ifs : List Expr} {scope : Scope} {pos spos : Pos} {fi ft fe : ED} {caps : List Str} {is : List Nat} {i : Nat} (own : Bool) (hF : Frees scope.names caps) (hi : ISound C n sc names iter fi)
    (ht : TestsOk C n (relS scope sc) (x :: caps) ifs ft) (he : ESound C n (relS scope sc) (x :: caps) elt fe) (hat : IdxL names caps is)
    (hnd : (x :: caps).Nodup) (hb : bindable (relS scope sc) x = true) (hxf : scope.names.contains (x, .free) = false) (hk : scope.kind = .function) (hcap : caps.all (capOk scope sc) = true)
    (hnc1 : (scope.names.lookup ("left" : Str) == some .cell) = false) (hnc2 : (scope.names.lookup ("told" : Str) == some .cell) = false)
    (hfrees : frees scope sc = true) (hnames : scope.names.all (fun y => y.2 != .local || scope.names.lookup y.1 == some .local) = true)
    (hs : ∀ env : Env, ∀ x, foldedSetIterable iter env x = pure x) (hyi : Idx names y i) (hnd2 : names.Nodup) (hyb : bindable sc y = true)
    (hsw : ∀ env : Env, env.scope = sc → swapsWith (.ListComp elt [⟨.Name x px, iter, ifs, 0⟩] scope pos) (some (.Name y py)) spos.line env = pure true) :
    SSound C n sc names (.Assign [.Name y py] (.ListComp elt [⟨.Name x px, iter, ifs, 0⟩] scope pos) spos) (asgD own i (compD fi ft fe is)) := ss_AssignComp own hi ht he hnd hb (hxf_of hxf) hk hcap hat.caps hnc1 hnc2 hfrees (hnames_of hnames) hnd2 (hyi.at hnd2) hyb hsw hs
theorem swaps_of {value : Expr} {t : Option Expr} {l : Nat} {b : Bool} (h : ∀ (L G : Addr) (ce : List (Str × Addr)) (q : Str) (fu : Option Addr) (co : Value) (fr : Option Addr) (bl : Addr), swapsWith value t l { scope := sc, locals := L, globals := G, cells := ce, qual := q, func := fu, code := co, frame := fr, builtins := bl } = pure b) : ∀ env : Env, env.scope = sc → swapsWith value t l env = pure b := fun env e => by
  subst e; exact h ..
theorem s_for {x : Str} {px pos : Pos} {iter : Expr} {body : List Stmt} {i0 : Nat} {fi : ED} {F : SD} (hi : ISound C n sc names iter fi) (hb : BSound C n sc names body F) (hx : Idx names x i0) (hnd : names.Nodup) (hbd : bindable sc x = true) (hs : ∀ env : Env, ∀ x, foldedSetIterable iter env x = pure x) :
    SSound C n sc names (.For (.Name x px) iter body [] pos) (fun ρ => match fi ρ with
      | .ok p => forD (fun p ρ => setV i0 p ρ) F p.items ρ
      | _ => .stuck) := ss_For hi hb hnd (hx.at hnd) hbd hs
theorem s_append {x : Str} {i : Nat} {np ap cpos pos : Pos} {arg : Expr} {f : ED} (hx : Idx names x i) (hnd : names.Nodup) (ha : ESound C n sc names arg f) (hd : (x == ("__debug__" : Str)) = false) (hc : (x == ("__classdict__" : Str)) = false)
    (hb : ∀ env, backTo cpos (starEach [arg] env) = [(false, eval arg env)])
    (he : ∀ env, eval (.Call (.Attribute (.Name x np) "append" ap) [arg] [] cpos) env = (do let ov ← eval (.Name x np) env; standAt ap.atName; let (f, first) ← holding [ov] (getMethod ov "append" (do return (← importBound (.Name x np) env).getD true)); callWith cpos f first (backTo cpos (starEach [arg] env)) (backToKw cpos (keywordEach [] env)))) :
    SSound C n sc names (.Expr (.Call (.Attribute (.Name x np) "append" ap) [arg] [] cpos) pos) (appendD i f) := ss_Append i hx.get hnd ha hd hc hb he
theorem s_extend {x : Str} {i : Nat} {np ap cpos pos : Pos} {arg : Expr} {f : ED} (hx : Idx names x i) (hnd : names.Nodup) (ha : ESound C n sc names arg f) (hd : (x == ("__debug__" : Str)) = false) (hc : (x == ("__classdict__" : Str)) = false)
    (hb : ∀ env, backTo cpos (starEach [arg] env) = [(false, eval arg env)])
    (he : ∀ env, eval (.Call (.Attribute (.Name x np) "extend" ap) [arg] [] cpos) env = (do let ov ← eval (.Name x np) env; standAt ap.atName; let (f, first) ← holding [ov] (getMethod ov "extend" (do return (← importBound (.Name x np) env).getD true)); callWith cpos f first (backTo cpos (starEach [arg] env)) (backToKw cpos (keywordEach [] env)))) :
    SSound C n sc names (.Expr (.Call (.Attribute (.Name x np) "extend" ap) [arg] [] cpos) pos) (extendD i f) := ss_Extend i hx.get hnd ha hd hc hb he
theorem s_retOwn {x : Str} {i : Nat} {np pos : Pos} (hx : Idx names x i) (hd : (x == ("__debug__" : Str)) = false) (hc : (x == ("__classdict__" : Str)) = false) : SSound C n sc names (.Return (some (.Name x np)) pos) (retOwnD i) := ss_ReturnOwn i hx.get hd hc


local macro_rules | `(tactic| walk_at "mF") => `(tactic| first
  | with_reducible exact Frees.nil
  | ((with_reducible refine' Frees.free ?a0); (case a0 => walk_at "mF"))
  | ((with_reducible refine' Frees.loc ?a0); (case a0 => walk_at "mF"))
  | ((with_reducible refine' Frees.cell ?a0); (case a0 => walk_at "mF"))
  | ((with_reducible refine' Frees.glob ?a0); (case a0 => walk_at "mF")))
local macro_rules | `(tactic| walk_at "mE") => `(tactic| ((with_reducible refine' e_comp ?a0 ?a1 ?a2 ?a3 ?a4 ?a5 ?a6 ?a7 ?a8 ?a9 ?a10 ?a11 ?a12 ?a13 ?a14); (case a0 => walk_at "mF"); (case a1 => walk_at "mI"); (case a2 => first | exact tests_nil | (refine' tests_one ?_; walk_at "mT")); (case a3 => walk_at "mE"); (case a4 => walk_at "mJ"); (case a5 => decide +kernel); (case a6 => kernel_rfl); (case a7 => kernel_rfl); (case a8 => kernel_rfl); (case a9 => kernel_rfl); (case a10 => kernel_rfl); (case a11 => kernel_rfl); (case a12 => kernel_rfl); (case a13 => kernel_rfl); (case a14 => (intro _ _; rfl))))
local macro_rules | `(tactic| walk_at "mS") => `(tactic| ((with_reducible refine' s_for ?a0 ?a1 ?a2 ?a3 ?a4 ?a5); (case a0 => walk_at "mI"); (case a1 => walk_at "mB"); (case a2 => walk_at "mi"); (case a3 => decide +kernel); (case a4 => kernel_rfl); (case a5 => (intro _ _; rfl))))
local macro_rules | `(tactic| walk_at "mS") => `(tactic| ((with_reducible refine' s_comp false ?a0 ?a1 ?a2 ?a3 ?a4 ?a5 ?a6 ?a7 ?a8 ?a9 ?a10 ?a11 ?a12 ?a13 ?a14 ?a15 ?a16 ?a17 ?a18); (case a0 => walk_at "mF"); (case a1 => walk_at "mI"); (case a2 => first | exact tests_nil | (refine' tests_one ?_; walk_at "mT")); (case a3 => walk_at "mE"); (case a4 => walk_at "mJ"); (case a5 => decide +kernel); (case a6 => kernel_rfl); (case a7 => kernel_rfl); (case a8 => kernel_rfl); (case a9 => kernel_rfl); (case a10 => kernel_rfl); (case a11 => kernel_rfl); (case a12 => kernel_rfl); (case a13 => kernel_rfl); (case a14 => (intro _ _; rfl)); (case a15 => walk_at "mi"); (case a16 => decide +kernel); (case a17 => kernel_rfl); (case a18 => (exact swaps_of (by intro _ _ _ _ _ _ _ _; kernel_rfl)))))
theorem fn173 (w : World) : FnIs (KF w) 173 ["name"] (bodyIn (KF w) 173) (scopeIn (KF w) 173) := by
  refine ⟨_, _, _, _, rfl, rfl, rfl, rfl, rfl, rfl, ?_, .none ?_ ?_, ?_⟩
  · kernel_rfl
  · kernel_rfl
  · kernel_rfl
  · intro vs h
    match vs, h with
    | [a], _ => rfl
noncomputable def b173 : {F : SD // ∀ C : Cx, BSound C 5 (scopeIn (KF C.w) 173) ["name", "size", "ending", "figures"] (bodyIn (KF C.w) 173) F} := by
  refine ⟨?F, ?h⟩
  case h =>
    intro C
    conv => arg 5; whnf
    walk_at "mB"
noncomputable def D173 : PV → R := retD 1 3 b173.1
theorem c173 (C : Cx) : CSound C 6 (.ref 173) D173 := cs_def (ps := ["name"]) (rest := ["size", "ending", "figures"]) (fn173 C.w) (b173.2 C) rfl rfl rfl (by decide) (by kernel_rfl) (by kernel_rfl)
theorem E173 {np pos : Pos} {x0 : Expr} {fs : List ED} (hk : sc.names.lookup ("late_register" : Str) = some .globalImplicit) (ha : LSound C n sc names [x0] fs) (hm : 6 ≤ n) (he : ∀ env, starEach [x0] env = (false, eval x0 env) :: starEach [] env) (hp : ∀ env, (backTo pos (starEach [] env)).any (·.1) = false) :
    ESound C n sc names (.Call (.Name "late_register" np) [x0] [] pos) (callD fs D173) := e_call (c173 C) (by kernel_rfl) (by kernel_rfl) (by decide) hk ha hm he hp
local macro_rules | `(tactic| walk_at "mC") => `(tactic| ((with_reducible refine' E173 ?a0 ?a1 ?a2 ?a3 ?a4); (case a0 => kernel_rfl); (case a1 => walk_at "mL"); (case a2 => decide); (case a3 => (intro _; rfl)); (case a4 => (intro _; rfl))))
theorem fn180 (w : World) : FnIs (KF w) 180 ["name"] (bodyIn (KF w) 180) (scopeIn (KF w) 180) := by
  refine ⟨_, _, _, _, rfl, rfl, rfl, rfl, rfl, rfl, ?_, .none ?_ ?_, ?_⟩
  · kernel_rfl
  · kernel_rfl
  · kernel_rfl
  · intro vs h
    match vs, h with
    | [a], _ => rfl
noncomputable def b180 : {F : SD // ∀ C : Cx, BSound C 6 (scopeIn (KF C.w) 180) ["name", "size", "names"] (bodyIn (KF C.w) 180) F} := by
  refine ⟨?F, ?h⟩
  case h =>
    intro C
    conv => arg 5; whnf
    walk_at "mB"
noncomputable def D180 : PV → R := retD 1 2 b180.1
theorem c180 (C : Cx) : CSound C 7 (.ref 180) D180 := cs_def (ps := ["name"]) (rest := ["size", "names"]) (fn180 C.w) (b180.2 C) rfl rfl rfl (by decide) (by kernel_rfl) (by kernel_rfl)
theorem E180 {np pos : Pos} {x0 : Expr} {fs : List ED} (hk : sc.names.lookup ("find_register" : Str) = some .globalImplicit) (ha : LSound C n sc names [x0] fs) (hm : 7 ≤ n) (he : ∀ env, starEach [x0] env = (false, eval x0 env) :: starEach [] env) (hp : ∀ env, (backTo pos (starEach [] env)).any (·.1) = false) :
    ESound C n sc names (.Call (.Name "find_register" np) [x0] [] pos) (callD fs D180) := e_call (c180 C) (by kernel_rfl) (by kernel_rfl) (by decide) hk ha hm he hp
local macro_rules | `(tactic| walk_at "mC") => `(tactic| ((with_reducible refine' E180 ?a0 ?a1 ?a2 ?a3 ?a4); (case a0 => kernel_rfl); (case a1 => walk_at "mL"); (case a2 => decide); (case a3 => (intro _; rfl)); (case a4 => (intro _; rfl))))
theorem fn187 (w : World) : FnIs (KF w) 187 ["one", "other"] (bodyIn (KF w) 187) (scopeIn (KF w) 187) := by
  refine ⟨_, _, _, _, rfl, rfl, rfl, rfl, rfl, rfl, ?_, .none ?_ ?_, ?_⟩
  · kernel_rfl
  · kernel_rfl
  · kernel_rfl
  · intro vs h
    match vs, h with
    | [a, b], _ => rfl
noncomputable def b187 : {F : SD // ∀ C : Cx, BSound C 1 (scopeIn (KF C.w) 187) ["one", "other"] (bodyIn (KF C.w) 187) F} := by
  refine ⟨?F, ?h⟩
  case h =>
    intro C
    conv => arg 5; whnf
    walk_at "mB"
noncomputable def D187 : PV → R := retD 2 0 b187.1
theorem c187 (C : Cx) : CSound C 2 (.ref 187) D187 := cs_def (ps := ["one", "other"]) (rest := []) (fn187 C.w) (b187.2 C) rfl rfl rfl (by decide) (by kernel_rfl) (by kernel_rfl)
theorem E187 {np pos : Pos} {x0 x1 : Expr} {fs : List ED} (hk : sc.names.lookup ("same_register" : Str) = some .globalImplicit) (ha : LSound C n sc names [x0, x1] fs) (hm : 2 ≤ n) (he : ∀ env, starEach [x0, x1] env = (false, eval x0 env) :: starEach [x1] env) (hp : ∀ env, (backTo pos (starEach [x1] env)).any (·.1) = false) :
    ESound C n sc names (.Call (.Name "same_register" np) [x0, x1] [] pos) (callD fs D187) := e_call (c187 C) (by kernel_rfl) (by kernel_rfl) (by decide) hk ha hm he hp
local macro_rules | `(tactic| walk_at "mC") => `(tactic| ((with_reducible refine' E187 ?a0 ?a1 ?a2 ?a3 ?a4); (case a0 => kernel_rfl); (case a1 => walk_at "mL"); (case a2 => decide); (case a3 => (intro _; rfl)); (case a4 => (intro _; rfl))))
theorem fn194 (w : World) : FnIs (KF w) 194 ["register"] (bodyIn (KF w) 194) (scopeIn (KF w) 194) := by
  refine ⟨_, _, _, _, rfl, rfl, rfl, rfl, rfl, rfl, ?_, .none ?_ ?_, ?_⟩
  · kernel_rfl
  · kernel_rfl
  · kernel_rfl
  · intro vs h
    match vs, h with
    | [a], _ => rfl
noncomputable def b194 : {F : SD // ∀ C : Cx, BSound C 5 (scopeIn (KF C.w) 194) ["register"] (bodyIn (KF C.w) 194) F} := by
  refine ⟨?F, ?h⟩
  case h =>
    intro C
    conv => arg 5; whnf
    walk_at "mB"
noncomputable def D194 : PV → R := retD 1 0 b194.1
theorem c194 (C : Cx) : CSound C 6 (.ref 194) D194 := cs_def (ps := ["register"]) (rest := []) (fn194 C.w) (b194.2 C) rfl rfl rfl (by decide) (by kernel_rfl) (by kernel_rfl)
theorem E194 {np pos : Pos} {x0 : Expr} {fs : List ED} (hk : sc.names.lookup ("whole" : Str) = some .globalImplicit) (ha : LSound C n sc names [x0] fs) (hm : 6 ≤ n) (he : ∀ env, starEach [x0] env = (false, eval x0 env) :: starEach [] env) (hp : ∀ env, (backTo pos (starEach [] env)).any (·.1) = false) :
    ESound C n sc names (.Call (.Name "whole" np) [x0] [] pos) (callD fs D194) := e_call (c194 C) (by kernel_rfl) (by kernel_rfl) (by decide) hk ha hm he hp
local macro_rules | `(tactic| walk_at "mC") => `(tactic| ((with_reducible refine' E194 ?a0 ?a1 ?a2 ?a3 ?a4); (case a0 => kernel_rfl); (case a1 => walk_at "mL"); (case a2 => decide); (case a3 => (intro _; rfl)); (case a4 => (intro _; rfl))))
theorem fn201 (w : World) : FnIs (KF w) 201 ["register", "size"] (bodyIn (KF w) 201) (scopeIn (KF w) 201) := by
  refine ⟨_, _, _, _, rfl, rfl, rfl, rfl, rfl, rfl, ?_, .none ?_ ?_, ?_⟩
  · kernel_rfl
  · kernel_rfl
  · kernel_rfl
  · intro vs h
    match vs, h with
    | [a, b], _ => rfl
noncomputable def b201 : {F : SD // ∀ C : Cx, BSound C 6 (scopeIn (KF C.w) 201) ["register", "size"] (bodyIn (KF C.w) 201) F} := by
  refine ⟨?F, ?h⟩
  case h =>
    intro C
    conv => arg 5; whnf
    walk_at "mB"
noncomputable def D201 : PV → R := retD 2 0 b201.1
theorem c201 (C : Cx) : CSound C 7 (.ref 201) D201 := cs_def (ps := ["register", "size"]) (rest := []) (fn201 C.w) (b201.2 C) rfl rfl rfl (by decide) (by kernel_rfl) (by kernel_rfl)
theorem E201 {np pos : Pos} {x0 x1 : Expr} {fs : List ED} (hk : sc.names.lookup ("part" : Str) = some .globalImplicit) (ha : LSound C n sc names [x0, x1] fs) (hm : 7 ≤ n) (he : ∀ env, starEach [x0, x1] env = (false, eval x0 env) :: starEach [x1] env) (hp : ∀ env, (backTo pos (starEach [x1] env)).any (·.1) = false) :
    ESound C n sc names (.Call (.Name "part" np) [x0, x1] [] pos) (callD fs D201) := e_call (c201 C) (by kernel_rfl) (by kernel_rfl) (by decide) hk ha hm he hp
local macro_rules | `(tactic| walk_at "mC") => `(tactic| ((with_reducible refine' E201 ?a0 ?a1 ?a2 ?a3 ?a4); (case a0 => kernel_rfl); (case a1 => walk_at "mL"); (case a2 => decide); (case a3 => (intro _; rfl)); (case a4 => (intro _; rfl))))
theorem fn208 (w : World) : FnIs (KF w) 208 ["one", "other"] (bodyIn (KF w) 208) (scopeIn (KF w) 208) := by
  refine ⟨_, _, _, _, rfl, rfl, rfl, rfl, rfl, rfl, ?_, .none ?_ ?_, ?_⟩
  · kernel_rfl
  · kernel_rfl
  · kernel_rfl
  · intro vs h
    match vs, h with
    | [a, b], _ => rfl
noncomputable def b208 : {F : SD // ∀ C : Cx, BSound C 6 (scopeIn (KF C.w) 208) ["one", "other"] (bodyIn (KF C.w) 208) F} := by
  refine ⟨?F, ?h⟩
  case h =>
    intro C
    conv => arg 5; whnf
    walk_at "mB"
noncomputable def D208 : PV → R := retD 2 0 b208.1
theorem c208 (C : Cx) : CSound C 7 (.ref 208) D208 := cs_def (ps := ["one", "other"]) (rest := []) (fn208 C.w) (b208.2 C) rfl rfl rfl (by decide) (by kernel_rfl) (by kernel_rfl)
theorem E208 {np pos : Pos} {x0 x1 : Expr} {fs : List ED} (hk : sc.names.lookup ("overlaps" : Str) = some .globalImplicit) (ha : LSound C n sc names [x0, x1] fs) (hm : 7 ≤ n) (he : ∀ env, starEach [x0, x1] env = (false, eval x0 env) :: starEach [x1] env) (hp : ∀ env, (backTo pos (starEach [x1] env)).any (·.1) = false) :
    ESound C n sc names (.Call (.Name "overlaps" np) [x0, x1] [] pos) (callD fs D208) := e_call (c208 C) (by kernel_rfl) (by kernel_rfl) (by decide) hk ha hm he hp
local macro_rules | `(tactic| walk_at "mC") => `(tactic| ((with_reducible refine' E208 ?a0 ?a1 ?a2 ?a3 ?a4); (case a0 => kernel_rfl); (case a1 => walk_at "mL"); (case a2 => decide); (case a3 => (intro _; rfl)); (case a4 => (intro _; rfl))))
theorem fn213 (w : World) : FnIs (KF w) 213 ["size"] (bodyIn (KF w) 213) (scopeIn (KF w) 213) := by
  refine ⟨_, _, _, _, rfl, rfl, rfl, rfl, rfl, rfl, ?_, .none ?_ ?_, ?_⟩
  · kernel_rfl
  · kernel_rfl
  · kernel_rfl
  · intro vs h
    match vs, h with
    | [a], _ => rfl
noncomputable def b213 : {F : SD // ∀ C : Cx, BSound C 5 (scopeIn (KF C.w) 213) ["size", "found"] (bodyIn (KF C.w) 213) F} := by
  refine ⟨?F, ?h⟩
  case h =>
    intro C
    conv => arg 5; whnf
    with_reducible refine' bs_cons ?s1 (bs_cons ?s2 (bs_cons ?s3 (bs_cons ?s4 bs_nil)))
    case s1 => walk_at "mS"
    case s2 => ((with_reducible refine' s_comp true ?a0 ?a1 ?a2 ?a3 ?a4 ?a5 ?a6 ?a7 ?a8 ?a9 ?a10 ?a11 ?a12 ?a13 ?a14 ?a15 ?a16 ?a17 ?a18); (case a0 => walk_at "mF"); (case a1 => walk_at "mI"); (case a2 => first | exact tests_nil | (refine' tests_one ?_; walk_at "mT")); (case a3 => walk_at "mE"); (case a4 => walk_at "mJ"); (case a5 => decide +kernel); (case a6 => kernel_rfl); (case a7 => kernel_rfl); (case a8 => kernel_rfl); (case a9 => kernel_rfl); (case a10 => kernel_rfl); (case a11 => kernel_rfl); (case a12 => kernel_rfl); (case a13 => kernel_rfl); (case a14 => (intro _ _; rfl)); (case a15 => walk_at "mi"); (case a16 => decide +kernel); (case a17 => kernel_rfl); (case a18 => (exact swaps_of (by intro _ _ _ _ _ _ _ _; kernel_rfl))))
    case s3 =>
      with_reducible refine' ss_If ?t (bs_cons ?b bs_nil) bs_nil
      case t => walk_at "mT"
      case b => ((with_reducible refine' s_extend ?a0 ?a1 ?a2 ?a3 ?a4 ?a5 ?a6); (case a0 => walk_at "mi"); (case a1 => decide +kernel); (case a2 => walk_at "mE"); (case a3 => decide); (case a4 => decide); (case a5 => (intro _; rfl)); (case a6 => (intro _; rfl)))
    case s4 => ((with_reducible refine' s_retOwn ?a0 ?a1 ?a2); (case a0 => walk_at "mi"); (case a1 => decide); (case a2 => decide))
noncomputable def D213 : PV → R := retD 1 1 b213.1
theorem c213 (C : Cx) : CSound C 6 (.ref 213) D213 := cs_def (ps := ["size"]) (rest := ["found"]) (fn213 C.w) (b213.2 C) rfl rfl rfl (by decide) (by kernel_rfl) (by kernel_rfl)
theorem E213 {np pos : Pos} {x0 : Expr} {fs : List ED} (hk : sc.names.lookup ("all_registers" : Str) = some .globalImplicit) (ha : LSound C n sc names [x0] fs) (hm : 6 ≤ n) (he : ∀ env, starEach [x0] env = (false, eval x0 env) :: starEach [] env) (hp : ∀ env, (backTo pos (starEach [] env)).any (·.1) = false) :
    ESound C n sc names (.Call (.Name "all_registers" np) [x0] [] pos) (callD fs D213) := e_call (c213 C) (by kernel_rfl) (by kernel_rfl) (by decide) hk ha hm he hp
local macro_rules | `(tactic| walk_at "mC") => `(tactic| ((with_reducible refine' E213 ?a0 ?a1 ?a2 ?a3 ?a4); (case a0 => kernel_rfl); (case a1 => walk_at "mL"); (case a2 => decide); (case a3 => (intro _; rfl)); (case a4 => (intro _; rfl))))


theorem scope_of {α : Type} {f : Env → α} {b : α} (h : ∀ (L G : Addr) (ce : List (Str × Addr)) (q : Str) (fu : Option Addr) (co : Value) (fr : Option Addr) (bl : Addr), f { scope := sc, locals := L, globals := G, cells := ce, qual := q, func := fu, code := co, frame := fr, builtins := bl } = b) : ∀ env : Env, env.scope = sc → f env = b := fun env e => by
  subst e; exact h ..
theorem s_unpack {es : List Expr} {xs : List Str} {is : List Nat} {k : Nat} {value : Expr} {tp pos : Pos} {f : ED} (ht : Targets es xs) (he : ESound C n sc names value f) (hi : IdxL names xs is) (hnd : names.Nodup) (hb : xs.all (bindable sc) = true) (hs : ∀ env : Env, env.scope = sc → swapsWithSole [.Tuple es k tp] value pos.line env = pure false) (hw : ∀ env : Env, env.scope = sc → swappedStores [.Tuple es k tp] value env = pure none) :
    SSound C n sc names (.Assign [.Tuple es k tp] value pos) (unpackD xs.length is f setVs) := ss_Unpack he ht hnd (hi.at hnd) hb hs hw
theorem s_swapped {es vs : List Expr} {xs : List Str} {is : List Nat} {k k2 : Nat} {tp vp pos : Pos} {f : ED} (ht : Targets es xs) (he : ESound C n sc names (.Tuple vs k2 vp) f) (hi : IdxL names xs is) (hnd : names.Nodup) (hb : xs.all (bindable sc) = true) (hs : ∀ env : Env, env.scope = sc → swapsWithSole [.Tuple es k tp] (.Tuple vs k2 vp) pos.line env = pure false) (hw : ∀ env : Env, env.scope = sc → swappedStores [.Tuple es k tp] (.Tuple vs k2 vp) env = pure (some xs)) :
    SSound C n sc names (.Assign [.Tuple es k tp] (.Tuple vs k2 vp) pos) (unpackD xs.length is f setVsR) := ss_Swapped he hnd (hi.at hnd) hb hs hw
theorem RegAt.own {g : GP} {nm k : List Nat} {num size : Int} {a : Addr} (r : RegAt g nm k num size a) {d : Addr} {es : List DictEntry} {m : Nat} (e1 : g a = some (instObj 106 d)) (e2 : g d = some (dictOf es m)) :
    getL "code" es = some none ∧ getL "is_extended" es = some none ∧ getL "is_high" es = some none ∧ getL "needs_rex" es = some none ∧ getL "told" es = some none := by
  obtain ⟨d', es', m', v1, v2, v3, v4, h1, h2, _, _, _, _, h7, h8, h9, h10, h11, _⟩ := r
  rw [e1] at h1
  have hd : d = d' := by
    have := congrArg (fun o => o.map Obj.dict) h1
    simpa using this
  subst hd
  rw [e2] at h2
  have he : es = es' := by
    have h3 : (dictOf es m).data = (dictOf es' m').data := by rw [Option.some.inj h2]
    injection h3 with h4 h5
    exact congrArg Array.toList h4
  subst he
  exact ⟨h7, h8, h9, h10, h11⟩
noncomputable def negK : PV → R
  | .int a => .ok (.int (-a))
  | _ => .stuck
theorem es_Neg {x : Expr} {pos : Pos} {f : ED} (h : ESound C n sc names x f) : ESound C n sc names (.UnaryOp .USub x pos) (un f negK) := fun A env g ρ s Q E ok hp => by
  refine wpAny_UnaryOp (h A env g ρ s _ E ok (Post.bind hp fun p v g1 s1 _ y1 hv hk => ?_))
  cases p <;> first | exact hk.elim | skip
  obtain ⟨t, rfl⟩ := hv
  exact PyProof.Rows.neg_int (hk _ g1 _ (After.toks (ok.after y1).wd) ⟨_, rfl⟩)
theorem cs_one' {f : Value} {D : PV → R} {m : Nat} (h : CSound C m f D) : CSound C m f (one fun a => D (.cons a .nil)) := fun A g s Q E p vs ok r hp => by
  cases p <;> first | exact hp.elim | skip
  rename_i a b
  cases b <;> first | exact hp.elim | skip
  exact h A g s Q E _ vs ok r hp
theorem CodeOk.odd {sc : Scope} {q : Str} (h2 : (sc.names.lookup ("told" : Str) == some .cell) = false) (h : q ++ "<lambda>" = tq1) : CodeOk sc (.ref 269) q := ⟨fun _ => ⟨rfl, h⟩, fun e => (by rw [h2] at e; cases e)⟩
theorem CodeOk.parts {sc : Scope} {q : Str} (h2 : (sc.names.lookup ("left" : Str) == some .cell) = false) (h : q ++ "<lambda>" = tq2) : CodeOk sc (.ref 243) q := ⟨fun e => (by rw [h2] at e; cases e), fun _ => ⟨rfl, h⟩⟩
theorem e_refused {m : Nat} {np pos lpos : Pos} {params : Arguments} {body : Expr} {scope : Scope} {caps : List Str} {is : List Nat} {fe : ED} (hF : Frees scope.names caps) (hg : sc.names.lookup ("_law_refused" : Str) = some .globalImplicit) (hn : n = m + 2) (he : ESound C m scope caps body fe) (hat : IdxL names caps is)
    (hcell : ((sc.names.lookup ("left" : Str) == some .cell) || (sc.names.lookup ("told" : Str) == some .cell)) = true) (hk : scope.kind = .function) (hco : scope.isCoroutine = false) (hgen : scope.isGenerator = false) (hnoc : scope.names.all (fun p => p.2 != .cell) = true)
    (hcap : caps.all (capOk scope sc) = true) (hfrees : frees scope sc = true) (hdef : ∀ env, defaultsOf params env = ([], []))
    (hbind : ∀ q clos pm c' ctv, bindArgs (kla_fn "<lambda>" q params body scope clos pm c' ctv) ⟨[], []⟩ = pure [])
    (hst : ∀ env, starEach [.Lambda params body scope lpos] env = (false, eval (.Lambda params body scope lpos) env) :: starEach [] env) :
    ESound C n sc names (.Call (.Name "_law_refused" np) [.Lambda params body scope lpos] [] pos) (refD is fe) := by
  subst hn
  exact es_Refused (glob_K (by kernel_rfl) hg (by decide)) (kok_K (by kernel_rfl)) he hcell hk hco hgen hnoc hcap hat.caps hfrees hdef hbind hst


local macro_rules | `(tactic| walk_at "mX") => `(tactic| first
  | with_reducible exact Targets.nil
  | ((with_reducible refine' Targets.cons ?a0); (case a0 => walk_at "mX")))
local macro_rules | `(tactic| walk_at "mE") => `(tactic| ((with_reducible refine' es_Neg ?a0); (case a0 => walk_at "mE")))
local macro_rules | `(tactic| walk_at "mS") => `(tactic| ((with_reducible refine' s_unpack ?a0 ?a1 ?a2 ?a3 ?a4 ?a5 ?a6); (case a0 => walk_at "mX"); (case a1 => walk_at "mE"); (case a2 => walk_at "mJ"); (case a3 => decide +kernel); (case a4 => kernel_rfl); (case a5 => (exact scope_of (by intro _ _ _ _ _ _ _ _; kernel_rfl))); (case a6 => (exact scope_of (by intro _ _ _ _ _ _ _ _; kernel_rfl)))))
local macro_rules | `(tactic| walk_at "mS") => `(tactic| ((with_reducible refine' s_swapped ?a0 ?a1 ?a2 ?a3 ?a4 ?a5 ?a6); (case a0 => walk_at "mX"); (case a1 => walk_at "mE"); (case a2 => walk_at "mJ"); (case a3 => decide +kernel); (case a4 => kernel_rfl); (case a5 => (exact scope_of (by intro _ _ _ _ _ _ _ _; kernel_rfl))); (case a6 => (exact scope_of (by intro _ _ _ _ _ _ _ _; kernel_rfl)))))
local macro_rules | `(tactic| walk_at "mC") => `(tactic| ((with_reducible refine' e_refused ?a0 ?a1 ?a2 ?a3 ?a4 ?a5 ?a6 ?a7 ?a8 ?a9 ?a10 ?a11 ?a12 ?a13 ?a14); (case a0 => walk_at "mF"); (case a1 => kernel_rfl); (case a2 => rfl); (case a3 => walk_at "mE"); (case a4 => walk_at "mJ"); (case a5 => kernel_rfl); (case a6 => kernel_rfl); (case a7 => kernel_rfl); (case a8 => kernel_rfl); (case a9 => kernel_rfl); (case a10 => kernel_rfl); (case a11 => kernel_rfl); (case a12 => (intro _; rfl)); (case a13 => (intro _ _ _ _ _; rfl)); (case a14 => (intro _; rfl))))
theorem fn103 (w : World) : FnIs (KF w) 103 ["self"] (bodyIn (KF w) 103) (scopeIn (KF w) 103) := by
  refine ⟨_, _, _, _, rfl, rfl, rfl, rfl, rfl, rfl, ?_, .none ?_ ?_, ?_⟩
  · kernel_rfl
  · kernel_rfl
  · kernel_rfl
  · intro vs h
    match vs, h with
    | [a], _ => rfl
noncomputable def b103 : {F : SD // ∀ C : Cx, BSound C 1 (scopeIn (KF C.w) 103) ["self"] (bodyIn (KF C.w) 103) F} := by
  refine ⟨?F, ?h⟩
  case h =>
    intro C
    conv => arg 5; whnf
    walk_at "mB"
noncomputable def D103 : PV → R := retD 1 0 b103.1
theorem c103 (C : Cx) : CSound C 2 (.ref 103) D103 := cs_def (ps := ["self"]) (rest := []) (fn103 C.w) (b103.2 C) rfl rfl rfl (by decide) (by kernel_rfl) (by kernel_rfl)
noncomputable def M103 (a : PV) : R := D103 (.cons a .nil)
theorem m103 (C : Cx) : MSound C 2 "told" M103 := ⟨103, cs_one' (c103 C), by kernel_rfl, by kernel_rfl, by kernel_rfl, fun r _ _ _ e1 e2 => (r.own e1 e2).2.2.2.2⟩
theorem e_told {o : Expr} {ap pos : Pos} {f : ED} (ho : ESound C n sc names o f) (hle : 2 ≤ n)
    (he : ∀ env, eval (.Call (.Attribute o "told" ap) [] [] pos) env = (do let ov ← eval o env; standAt ap.atName; let (f, first) ← holding [ov] (getMethod ov "told" (do return (← importBound o env).getD true)); callWith pos f first (backTo pos (starEach [] env)) (backToKw pos (keywordEach [] env)))) :
    ESound C n sc names (.Call (.Attribute o "told" ap) [] [] pos) (fun ρ => (f ρ).bind fun a => match a with | .reg nm k num size => M103 (.reg nm k num size) | _ => .stuck) := e_meth (m103 C) ho hle he
local macro_rules | `(tactic| walk_at "mC") => `(tactic| ((with_reducible refine' e_told ?a0 ?a1 ?a2); (case a0 => walk_at "mE"); (case a1 => decide); (case a2 => (intro _; rfl))))
theorem fn75 (w : World) : FnIs (KF w) 75 ["self"] (bodyIn (KF w) 75) (scopeIn (KF w) 75) := by
  refine ⟨_, _, _, _, rfl, rfl, rfl, rfl, rfl, rfl, ?_, .none ?_ ?_, ?_⟩
  · kernel_rfl
  · kernel_rfl
  · kernel_rfl
  · intro vs h
    match vs, h with
    | [a], _ => rfl
noncomputable def b75 : {F : SD // ∀ C : Cx, BSound C 1 (scopeIn (KF C.w) 75) ["self"] (bodyIn (KF C.w) 75) F} := by
  refine ⟨?F, ?h⟩
  case h =>
    intro C
    conv => arg 5; whnf
    walk_at "mB"
noncomputable def D75 : PV → R := retD 1 0 b75.1
theorem c75 (C : Cx) : CSound C 2 (.ref 75) D75 := cs_def (ps := ["self"]) (rest := []) (fn75 C.w) (b75.2 C) rfl rfl rfl (by decide) (by kernel_rfl) (by kernel_rfl)
noncomputable def M75 (a : PV) : R := D75 (.cons a .nil)
theorem m75 (C : Cx) : MSound C 2 "code" M75 := ⟨75, cs_one' (c75 C), by kernel_rfl, by kernel_rfl, by kernel_rfl, fun r _ _ _ e1 e2 => (r.own e1 e2).1⟩
theorem e_code {o : Expr} {ap pos : Pos} {f : ED} (ho : ESound C n sc names o f) (hle : 2 ≤ n)
    (he : ∀ env, eval (.Call (.Attribute o "code" ap) [] [] pos) env = (do let ov ← eval o env; standAt ap.atName; let (f, first) ← holding [ov] (getMethod ov "code" (do return (← importBound o env).getD true)); callWith pos f first (backTo pos (starEach [] env)) (backToKw pos (keywordEach [] env)))) :
    ESound C n sc names (.Call (.Attribute o "code" ap) [] [] pos) (fun ρ => (f ρ).bind fun a => match a with | .reg nm k num size => M75 (.reg nm k num size) | _ => .stuck) := e_meth (m75 C) ho hle he
local macro_rules | `(tactic| walk_at "mC") => `(tactic| ((with_reducible refine' e_code ?a0 ?a1 ?a2); (case a0 => walk_at "mE"); (case a1 => decide); (case a2 => (intro _; rfl))))
theorem fn82 (w : World) : FnIs (KF w) 82 ["self"] (bodyIn (KF w) 82) (scopeIn (KF w) 82) := by
  refine ⟨_, _, _, _, rfl, rfl, rfl, rfl, rfl, rfl, ?_, .none ?_ ?_, ?_⟩
  · kernel_rfl
  · kernel_rfl
  · kernel_rfl
  · intro vs h
    match vs, h with
    | [a], _ => rfl
noncomputable def b82 : {F : SD // ∀ C : Cx, BSound C 1 (scopeIn (KF C.w) 82) ["self"] (bodyIn (KF C.w) 82) F} := by
  refine ⟨?F, ?h⟩
  case h =>
    intro C
    conv => arg 5; whnf
    walk_at "mB"
noncomputable def D82 : PV → R := retD 1 0 b82.1
theorem c82 (C : Cx) : CSound C 2 (.ref 82) D82 := cs_def (ps := ["self"]) (rest := []) (fn82 C.w) (b82.2 C) rfl rfl rfl (by decide) (by kernel_rfl) (by kernel_rfl)
noncomputable def M82 (a : PV) : R := D82 (.cons a .nil)
theorem m82 (C : Cx) : MSound C 2 "is_extended" M82 := ⟨82, cs_one' (c82 C), by kernel_rfl, by kernel_rfl, by kernel_rfl, fun r _ _ _ e1 e2 => (r.own e1 e2).2.1⟩
theorem e_is_extended {o : Expr} {ap pos : Pos} {f : ED} (ho : ESound C n sc names o f) (hle : 2 ≤ n)
    (he : ∀ env, eval (.Call (.Attribute o "is_extended" ap) [] [] pos) env = (do let ov ← eval o env; standAt ap.atName; let (f, first) ← holding [ov] (getMethod ov "is_extended" (do return (← importBound o env).getD true)); callWith pos f first (backTo pos (starEach [] env)) (backToKw pos (keywordEach [] env)))) :
    ESound C n sc names (.Call (.Attribute o "is_extended" ap) [] [] pos) (fun ρ => (f ρ).bind fun a => match a with | .reg nm k num size => M82 (.reg nm k num size) | _ => .stuck) := e_meth (m82 C) ho hle he
local macro_rules | `(tactic| walk_at "mC") => `(tactic| ((with_reducible refine' e_is_extended ?a0 ?a1 ?a2); (case a0 => walk_at "mE"); (case a1 => decide); (case a2 => (intro _; rfl))))
theorem fn89 (w : World) : FnIs (KF w) 89 ["self"] (bodyIn (KF w) 89) (scopeIn (KF w) 89) := by
  refine ⟨_, _, _, _, rfl, rfl, rfl, rfl, rfl, rfl, ?_, .none ?_ ?_, ?_⟩
  · kernel_rfl
  · kernel_rfl
  · kernel_rfl
  · intro vs h
    match vs, h with
    | [a], _ => rfl
noncomputable def b89 : {F : SD // ∀ C : Cx, BSound C 1 (scopeIn (KF C.w) 89) ["self"] (bodyIn (KF C.w) 89) F} := by
  refine ⟨?F, ?h⟩
  case h =>
    intro C
    conv => arg 5; whnf
    walk_at "mB"
noncomputable def D89 : PV → R := retD 1 0 b89.1
theorem c89 (C : Cx) : CSound C 2 (.ref 89) D89 := cs_def (ps := ["self"]) (rest := []) (fn89 C.w) (b89.2 C) rfl rfl rfl (by decide) (by kernel_rfl) (by kernel_rfl)
noncomputable def M89 (a : PV) : R := D89 (.cons a .nil)
theorem m89 (C : Cx) : MSound C 2 "is_high" M89 := ⟨89, cs_one' (c89 C), by kernel_rfl, by kernel_rfl, by kernel_rfl, fun r _ _ _ e1 e2 => (r.own e1 e2).2.2.1⟩
theorem e_is_high {o : Expr} {ap pos : Pos} {f : ED} (ho : ESound C n sc names o f) (hle : 2 ≤ n)
    (he : ∀ env, eval (.Call (.Attribute o "is_high" ap) [] [] pos) env = (do let ov ← eval o env; standAt ap.atName; let (f, first) ← holding [ov] (getMethod ov "is_high" (do return (← importBound o env).getD true)); callWith pos f first (backTo pos (starEach [] env)) (backToKw pos (keywordEach [] env)))) :
    ESound C n sc names (.Call (.Attribute o "is_high" ap) [] [] pos) (fun ρ => (f ρ).bind fun a => match a with | .reg nm k num size => M89 (.reg nm k num size) | _ => .stuck) := e_meth (m89 C) ho hle he
local macro_rules | `(tactic| walk_at "mC") => `(tactic| ((with_reducible refine' e_is_high ?a0 ?a1 ?a2); (case a0 => walk_at "mE"); (case a1 => decide); (case a2 => (intro _; rfl))))
theorem fn96 (w : World) : FnIs (KF w) 96 ["self"] (bodyIn (KF w) 96) (scopeIn (KF w) 96) := by
  refine ⟨_, _, _, _, rfl, rfl, rfl, rfl, rfl, rfl, ?_, .none ?_ ?_, ?_⟩
  · kernel_rfl
  · kernel_rfl
  · kernel_rfl
  · intro vs h
    match vs, h with
    | [a], _ => rfl
noncomputable def b96 : {F : SD // ∀ C : Cx, BSound C 2 (scopeIn (KF C.w) 96) ["self"] (bodyIn (KF C.w) 96) F} := by
  refine ⟨?F, ?h⟩
  case h =>
    intro C
    conv => arg 5; whnf
    walk_at "mB"
noncomputable def D96 : PV → R := retD 1 0 b96.1
theorem c96 (C : Cx) : CSound C 3 (.ref 96) D96 := cs_def (ps := ["self"]) (rest := []) (fn96 C.w) (b96.2 C) rfl rfl rfl (by decide) (by kernel_rfl) (by kernel_rfl)
noncomputable def M96 (a : PV) : R := D96 (.cons a .nil)
theorem m96 (C : Cx) : MSound C 3 "needs_rex" M96 := ⟨96, cs_one' (c96 C), by kernel_rfl, by kernel_rfl, by kernel_rfl, fun r _ _ _ e1 e2 => (r.own e1 e2).2.2.2.1⟩
theorem e_needs_rex {o : Expr} {ap pos : Pos} {f : ED} (ho : ESound C n sc names o f) (hle : 3 ≤ n)
    (he : ∀ env, eval (.Call (.Attribute o "needs_rex" ap) [] [] pos) env = (do let ov ← eval o env; standAt ap.atName; let (f, first) ← holding [ov] (getMethod ov "needs_rex" (do return (← importBound o env).getD true)); callWith pos f first (backTo pos (starEach [] env)) (backToKw pos (keywordEach [] env)))) :
    ESound C n sc names (.Call (.Attribute o "needs_rex" ap) [] [] pos) (fun ρ => (f ρ).bind fun a => match a with | .reg nm k num size => M96 (.reg nm k num size) | _ => .stuck) := e_meth (m96 C) ho hle he
local macro_rules | `(tactic| walk_at "mC") => `(tactic| ((with_reducible refine' e_needs_rex ?a0 ?a1 ?a2); (case a0 => walk_at "mE"); (case a1 => decide); (case a2 => (intro _; rfl))))
theorem fn225 (w : World) : FnIs (KF w) 225 ["row"] (bodyIn (KF w) 225) (scopeIn (KF w) 225) := by
  refine ⟨_, _, _, _, rfl, rfl, rfl, rfl, rfl, rfl, ?_, .none ?_ ?_, ?_⟩
  · kernel_rfl
  · kernel_rfl
  · kernel_rfl
  · intro vs h
    match vs, h with
    | [a], _ => rfl
noncomputable def b225 : {F : SD // ∀ C : Cx, BSound C 1 (scopeIn (KF C.w) 225) ["row", "name", "kind", "number", "size", "octs"] (bodyIn (KF C.w) 225) F} := by
  refine ⟨?F, ?h⟩
  case h =>
    intro C
    conv => arg 5; whnf
    walk_at "mB"
noncomputable def D225 : PV → R := retD 1 5 b225.1
theorem c225 (C : Cx) : CSound C 2 (.ref 225) D225 := cs_def (ps := ["row"]) (rest := ["name", "kind", "number", "size", "octs"]) (fn225 C.w) (b225.2 C) rfl rfl rfl (by decide) (by kernel_rfl) (by kernel_rfl)
theorem E225 {np pos : Pos} {x0 : Expr} {fs : List ED} (hk : sc.names.lookup ("_law_home" : Str) = some .globalImplicit) (ha : LSound C n sc names [x0] fs) (hm : 2 ≤ n) (he : ∀ env, starEach [x0] env = (false, eval x0 env) :: starEach [] env) (hp : ∀ env, (backTo pos (starEach [] env)).any (·.1) = false) :
    ESound C n sc names (.Call (.Name "_law_home" np) [x0] [] pos) (callD fs D225) := e_call (c225 C) (by kernel_rfl) (by kernel_rfl) (by decide) hk ha hm he hp
local macro_rules | `(tactic| walk_at "mC") => `(tactic| ((with_reducible refine' E225 ?a0 ?a1 ?a2 ?a3 ?a4); (case a0 => kernel_rfl); (case a1 => walk_at "mL"); (case a2 => decide); (case a3 => (intro _; rfl)); (case a4 => (intro _; rfl))))
theorem fn232 (w : World) : FnIs (KF w) 232 ["rows", "row"] (bodyIn (KF w) 232) (scopeIn (KF w) 232) := by
  refine ⟨_, _, _, _, rfl, rfl, rfl, rfl, rfl, rfl, ?_, .none ?_ ?_, ?_⟩
  · kernel_rfl
  · kernel_rfl
  · kernel_rfl
  · intro vs h
    match vs, h with
    | [a, b], _ => rfl
noncomputable def b232 : {F : SD // ∀ C : Cx, BSound C 8 (scopeIn (KF C.w) 232) ["rows", "row", "name", "kind", "number", "size", "octs", "told", "is_late"] (bodyIn (KF C.w) 232) F} := by
  refine ⟨?F, ?h⟩
  case h =>
    intro C
    conv => arg 5; whnf
    walk_at "mB"
noncomputable def D232 : PV → R := retD 2 7 b232.1
theorem c232 (C : Cx) : CSound C 9 (.ref 232) D232 := cs_def (ps := ["rows", "row"]) (rest := ["name", "kind", "number", "size", "octs", "told", "is_late"]) (fn232 C.w) (b232.2 C) rfl rfl rfl (by decide) (by kernel_rfl) (by kernel_rfl)
theorem E232 {np pos : Pos} {x0 x1 : Expr} {fs : List ED} (hk : sc.names.lookup ("_law_found_right" : Str) = some .globalImplicit) (ha : LSound C n sc names [x0, x1] fs) (hm : 9 ≤ n) (he : ∀ env, starEach [x0, x1] env = (false, eval x0 env) :: starEach [x1] env) (hp : ∀ env, (backTo pos (starEach [x1] env)).any (·.1) = false) :
    ESound C n sc names (.Call (.Name "_law_found_right" np) [x0, x1] [] pos) (callD fs D232) := e_call (c232 C) (by kernel_rfl) (by kernel_rfl) (by decide) hk ha hm he hp
local macro_rules | `(tactic| walk_at "mC") => `(tactic| ((with_reducible refine' E232 ?a0 ?a1 ?a2 ?a3 ?a4); (case a0 => kernel_rfl); (case a1 => walk_at "mL"); (case a2 => decide); (case a3 => (intro _; rfl)); (case a4 => (intro _; rfl))))
theorem fn244 (w : World) : FnIs (KF w) 244 ["rows", "row"] (bodyIn (KF w) 244) (scopeIn (KF w) 244) := by
  refine ⟨_, _, _, _, rfl, rfl, rfl, rfl, rfl, rfl, ?_, .parts ?_ ?_, ?_⟩
  · kernel_rfl
  · kernel_rfl
  · kernel_rfl
  · intro vs h
    match vs, h with
    | [a, b], _ => rfl
noncomputable def b244 : {F : SD // ∀ C : Cx, BSound C 9 (scopeIn (KF C.w) 244) ["rows", "row", "name", "kind", "number", "size", "octs", "told", "home", "names"] (bodyIn (KF C.w) 244) F} := by
  refine ⟨?F, ?h⟩
  case h =>
    intro C
    conv => arg 5; whnf
    walk_at "mB"
noncomputable def D244 : PV → R := retD 2 8 b244.1
theorem c244 (C : Cx) : CSound C 10 (.ref 244) D244 := cs_def (ps := ["rows", "row"]) (rest := ["name", "kind", "number", "size", "octs", "told", "home", "names"]) (fn244 C.w) (b244.2 C) rfl rfl rfl (by decide) (by kernel_rfl) (by kernel_rfl)
theorem E244 {np pos : Pos} {x0 x1 : Expr} {fs : List ED} (hk : sc.names.lookup ("_law_parts_right" : Str) = some .globalImplicit) (ha : LSound C n sc names [x0, x1] fs) (hm : 10 ≤ n) (he : ∀ env, starEach [x0, x1] env = (false, eval x0 env) :: starEach [x1] env) (hp : ∀ env, (backTo pos (starEach [x1] env)).any (·.1) = false) :
    ESound C n sc names (.Call (.Name "_law_parts_right" np) [x0, x1] [] pos) (callD fs D244) := e_call (c244 C) (by kernel_rfl) (by kernel_rfl) (by decide) hk ha hm he hp
local macro_rules | `(tactic| walk_at "mC") => `(tactic| ((with_reducible refine' E244 ?a0 ?a1 ?a2 ?a3 ?a4); (case a0 => kernel_rfl); (case a1 => walk_at "mL"); (case a2 => decide); (case a3 => (intro _; rfl)); (case a4 => (intro _; rfl))))
theorem fn249 (w : World) : FnIs (KF w) 249 ["one", "other"] (bodyIn (KF w) 249) (scopeIn (KF w) 249) := by
  refine ⟨_, _, _, _, rfl, rfl, rfl, rfl, rfl, rfl, ?_, .none ?_ ?_, ?_⟩
  · kernel_rfl
  · kernel_rfl
  · kernel_rfl
  · intro vs h
    match vs, h with
    | [a, b], _ => rfl
noncomputable def b249 : {F : SD // ∀ C : Cx, BSound C 8 (scopeIn (KF C.w) 249) ["one", "other", "first", "second", "both", "due"] (bodyIn (KF C.w) 249) F} := by
  refine ⟨?F, ?h⟩
  case h =>
    intro C
    conv => arg 5; whnf
    walk_at "mB"
noncomputable def D249 : PV → R := retD 2 4 b249.1
theorem c249 (C : Cx) : CSound C 9 (.ref 249) D249 := cs_def (ps := ["one", "other"]) (rest := ["first", "second", "both", "due"]) (fn249 C.w) (b249.2 C) rfl rfl rfl (by decide) (by kernel_rfl) (by kernel_rfl)
theorem E249 {np pos : Pos} {x0 x1 : Expr} {fs : List ED} (hk : sc.names.lookup ("_law_pair_right" : Str) = some .globalImplicit) (ha : LSound C n sc names [x0, x1] fs) (hm : 9 ≤ n) (he : ∀ env, starEach [x0, x1] env = (false, eval x0 env) :: starEach [x1] env) (hp : ∀ env, (backTo pos (starEach [x1] env)).any (·.1) = false) :
    ESound C n sc names (.Call (.Name "_law_pair_right" np) [x0, x1] [] pos) (callD fs D249) := e_call (c249 C) (by kernel_rfl) (by kernel_rfl) (by decide) hk ha hm he hp
local macro_rules | `(tactic| walk_at "mC") => `(tactic| ((with_reducible refine' E249 ?a0 ?a1 ?a2 ?a3 ?a4); (case a0 => kernel_rfl); (case a1 => walk_at "mL"); (case a2 => decide); (case a3 => (intro _; rfl)); (case a4 => (intro _; rfl))))
theorem fn256 (w : World) : FnIs (KF w) 256 ["rows", "row"] (bodyIn (KF w) 256) (scopeIn (KF w) 256) := by
  refine ⟨_, _, _, _, rfl, rfl, rfl, rfl, rfl, rfl, ?_, .none ?_ ?_, ?_⟩
  · kernel_rfl
  · kernel_rfl
  · kernel_rfl
  · intro vs h
    match vs, h with
    | [a, b], _ => rfl
noncomputable def b256 : {F : SD // ∀ C : Cx, BSound C 8 (scopeIn (KF C.w) 256) ["rows", "row", "name", "kind", "number", "size", "octs", "made_so"] (bodyIn (KF C.w) 256) F} := by
  refine ⟨?F, ?h⟩
  case h =>
    intro C
    conv => arg 5; whnf
    walk_at "mB"
noncomputable def D256 : PV → R := retD 2 6 b256.1
theorem c256 (C : Cx) : CSound C 9 (.ref 256) D256 := cs_def (ps := ["rows", "row"]) (rest := ["name", "kind", "number", "size", "octs", "made_so"]) (fn256 C.w) (b256.2 C) rfl rfl rfl (by decide) (by kernel_rfl) (by kernel_rfl)
theorem E256 {np pos : Pos} {x0 x1 : Expr} {fs : List ED} (hk : sc.names.lookup ("_law_made_right" : Str) = some .globalImplicit) (ha : LSound C n sc names [x0, x1] fs) (hm : 9 ≤ n) (he : ∀ env, starEach [x0, x1] env = (false, eval x0 env) :: starEach [x1] env) (hp : ∀ env, (backTo pos (starEach [x1] env)).any (·.1) = false) :
    ESound C n sc names (.Call (.Name "_law_made_right" np) [x0, x1] [] pos) (callD fs D256) := e_call (c256 C) (by kernel_rfl) (by kernel_rfl) (by decide) hk ha hm he hp
local macro_rules | `(tactic| walk_at "mC") => `(tactic| ((with_reducible refine' E256 ?a0 ?a1 ?a2 ?a3 ?a4); (case a0 => kernel_rfl); (case a1 => walk_at "mL"); (case a2 => decide); (case a3 => (intro _; rfl)); (case a4 => (intro _; rfl))))
theorem fn263 (w : World) : FnIs (KF w) 263 ["name", "left"] (bodyIn (KF w) 263) (scopeIn (KF w) 263) := by
  refine ⟨_, _, _, _, rfl, rfl, rfl, rfl, rfl, rfl, ?_, .none ?_ ?_, ?_⟩
  · kernel_rfl
  · kernel_rfl
  · kernel_rfl
  · intro vs h
    match vs, h with
    | [a, b], _ => rfl
noncomputable def b263 : {F : SD // ∀ C : Cx, BSound C 1 (scopeIn (KF C.w) 263) ["name", "left", "spot", "sign", "way"] (bodyIn (KF C.w) 263) F} := by
  refine ⟨?F, ?h⟩
  case h =>
    intro C
    conv => arg 5; whnf
    walk_at "mB"
noncomputable def D263 : PV → R := retD 2 3 b263.1
theorem c263 (C : Cx) : CSound C 2 (.ref 263) D263 := cs_def (ps := ["name", "left"]) (rest := ["spot", "sign", "way"]) (fn263 C.w) (b263.2 C) rfl rfl rfl (by decide) (by kernel_rfl) (by kernel_rfl)
theorem E263 {np pos : Pos} {x0 x1 : Expr} {fs : List ED} (hk : sc.names.lookup ("_law_bent" : Str) = some .globalImplicit) (ha : LSound C n sc names [x0, x1] fs) (hm : 2 ≤ n) (he : ∀ env, starEach [x0, x1] env = (false, eval x0 env) :: starEach [x1] env) (hp : ∀ env, (backTo pos (starEach [x1] env)).any (·.1) = false) :
    ESound C n sc names (.Call (.Name "_law_bent" np) [x0, x1] [] pos) (callD fs D263) := e_call (c263 C) (by kernel_rfl) (by kernel_rfl) (by decide) hk ha hm he hp
local macro_rules | `(tactic| walk_at "mC") => `(tactic| ((with_reducible refine' E263 ?a0 ?a1 ?a2 ?a3 ?a4); (case a0 => kernel_rfl); (case a1 => walk_at "mL"); (case a2 => decide); (case a3 => (intro _; rfl)); (case a4 => (intro _; rfl))))
theorem fn270 (w : World) : FnIs (KF w) 270 ["left"] (bodyIn (KF w) 270) (scopeIn (KF w) 270) := by
  refine ⟨_, _, _, _, rfl, rfl, rfl, rfl, rfl, rfl, ?_, .odd ?_ ?_, ?_⟩
  · kernel_rfl
  · kernel_rfl
  · kernel_rfl
  · intro vs h
    match vs, h with
    | [a], _ => rfl
noncomputable def b270 : {F : SD // ∀ C : Cx, BSound C 8 (scopeIn (KF C.w) 270) ["left", "number", "size"] (bodyIn (KF C.w) 270) F} := by
  refine ⟨?F, ?h⟩
  case h =>
    intro C
    conv => arg 5; whnf
    walk_at "mB"
noncomputable def D270 : PV → R := retD 1 2 b270.1
theorem c270 (C : Cx) : CSound C 9 (.ref 270) D270 := cs_def (ps := ["left"]) (rest := ["number", "size"]) (fn270 C.w) (b270.2 C) rfl rfl rfl (by decide) (by kernel_rfl) (by kernel_rfl)
theorem E270 {np pos : Pos} {x0 : Expr} {fs : List ED} (hk : sc.names.lookup ("_law_odd_right" : Str) = some .globalImplicit) (ha : LSound C n sc names [x0] fs) (hm : 9 ≤ n) (he : ∀ env, starEach [x0] env = (false, eval x0 env) :: starEach [] env) (hp : ∀ env, (backTo pos (starEach [] env)).any (·.1) = false) :
    ESound C n sc names (.Call (.Name "_law_odd_right" np) [x0] [] pos) (callD fs D270) := e_call (c270 C) (by kernel_rfl) (by kernel_rfl) (by decide) hk ha hm he hp
local macro_rules | `(tactic| walk_at "mC") => `(tactic| ((with_reducible refine' E270 ?a0 ?a1 ?a2 ?a3 ?a4); (case a0 => kernel_rfl); (case a1 => walk_at "mL"); (case a2 => decide); (case a3 => (intro _; rfl)); (case a4 => (intro _; rfl))))


theorem s_nil {x : Str} {i : Nat} {lp p1 pos : Pos} (hi : Idx names x i) (hnd : names.Nodup) (hb : bindable sc x = true) (hs : ∀ env : Env, env.scope = sc → swapsWith (.List [] lp) (some (.Name x p1)) pos.line env = pure false) :
    SSound C n sc names (.Assign [.Name x p1] (.List [] lp) pos) (fun ρ => .next (setV i (.own .nil) ρ)) := ss_AssignNil hnd (hi.at hnd) hb hs
theorem s_retAdd {x : Str} {i : Nat} {np lp bp pos : Pos} {es : List Expr} {f : ED} (hx : Idx names x i) (h2 : ESound C n sc names (.List es lp) f) (hd : (x == ("__debug__" : Str)) = false) (hc : (x == ("__classdict__" : Str)) = false) :
    SSound C n sc names (.Return (some (.BinOp (.Name x np) .Add (.List es lp) bp)) pos) (fun ρ => (addOwnD i f ρ).toF .ret) := ss_Return (es_addOwn i hx.get h2 hd hc)
theorem s_enum {x0 x1 : Str} {np cpos p0 p1 pt pos : Pos} {k i0 i1 : Nat} {e : Expr} {body : List Stmt} {fs : List ED} {F : SD} (hg : sc.names.lookup ("enumerate" : Str) = some .globalImplicit) (ha : LSound C n sc names [e] fs) (hb : BSound C n sc names body F) (h0 : Idx names x0 i0) (h1 : Idx names x1 i1) (hnd : names.Nodup)
    (hb0 : bindable sc x0 = true) (hb1 : bindable sc x1 = true) (he : ∀ env, starEach [e] env = (false, eval e env) :: starEach [] env) (hs : ∀ env : Env, ∀ x, foldedSetIterable (.Call (.Name "enumerate" np) [e] [] cpos) env x = pure x) :
    SSound C n sc names (.For (.Tuple [.Name x0 p0, .Name x1 p1] k pt) (.Call (.Name "enumerate" np) [e] [] cpos) body [] pos) (forPairD enumI fs i0 i1 F) :=
  ss_ForEnum (glob_B (by kernel_rfl) (by kernel_rfl) (by decide) hg (by decide)) (kok_pure rfl) ha hb hnd (h0.at hnd) (h1.at hnd) hb0 hb1 he hs
theorem s_zip {x0 x1 : Str} {np cpos p0 p1 pt pos : Pos} {k i0 i1 : Nat} {e e2 : Expr} {body : List Stmt} {fs : List ED} {F : SD} (hg : sc.names.lookup ("zip" : Str) = some .globalImplicit) (ha : LSound C n sc names [e, e2] fs) (hb : BSound C n sc names body F) (h0 : Idx names x0 i0) (h1 : Idx names x1 i1) (hnd : names.Nodup)
    (hb0 : bindable sc x0 = true) (hb1 : bindable sc x1 = true) (he : ∀ env, starEach [e, e2] env = (false, eval e env) :: starEach [e2] env) (hplain : ∀ env, (backTo cpos (starEach [e2] env)).any (·.1) = false) (hs : ∀ env : Env, ∀ x, foldedSetIterable (.Call (.Name "zip" np) [e, e2] [] cpos) env x = pure x) :
    SSound C n sc names (.For (.Tuple [.Name x0 p0, .Name x1 p1] k pt) (.Call (.Name "zip" np) [e, e2] [] cpos) body [] pos) (forPairD zipI fs i0 i1 F) :=
  ss_ForZip (glob_B (by kernel_rfl) (by kernel_rfl) (by decide) hg (by decide)) (kok_pure rfl) ha hb hnd (h0.at hnd) (h1.at hnd) hb0 hb1 he hplain hs

local macro_rules | `(tactic| walk_at "mS") => `(tactic| ((with_reducible refine' s_nil ?a0 ?a1 ?a2 ?a3); (case a0 => walk_at "mi"); (case a1 => decide +kernel); (case a2 => kernel_rfl); (case a3 => (intro _ _; rfl))))
local macro_rules | `(tactic| walk_at "mS") => `(tactic| ((with_reducible refine' s_retAdd ?a0 ?a1 ?a2 ?a3); (case a0 => walk_at "mi"); (case a1 => walk_at "mE"); (case a2 => decide); (case a3 => decide)))
local macro_rules | `(tactic| walk_at "mS") => `(tactic| ((with_reducible refine' s_enum ?a0 ?a1 ?a2 ?a3 ?a4 ?a5 ?a6 ?a7 ?a8 ?a9); (case a0 => kernel_rfl); (case a1 => walk_at "mL"); (case a2 => walk_at "mB"); (case a3 => walk_at "mi"); (case a4 => walk_at "mi"); (case a5 => decide +kernel); (case a6 => kernel_rfl); (case a7 => kernel_rfl); (case a8 => (intro _; rfl)); (case a9 => (intro _ _; rfl))))
local macro_rules | `(tactic| walk_at "mS") => `(tactic| ((with_reducible refine' s_zip ?a0 ?a1 ?a2 ?a3 ?a4 ?a5 ?a6 ?a7 ?a8 ?a9 ?a10); (case a0 => kernel_rfl); (case a1 => walk_at "mL"); (case a2 => walk_at "mB"); (case a3 => walk_at "mi"); (case a4 => walk_at "mi"); (case a5 => decide +kernel); (case a6 => kernel_rfl); (case a7 => kernel_rfl); (case a8 => (intro _; rfl)); (case a9 => (intro _; rfl)); (case a10 => (intro _ _; rfl))))
local macro_rules | `(tactic| walk_at "mS") => `(tactic| ((with_reducible refine' s_append ?a0 ?a1 ?a2 ?a3 ?a4 ?a5 ?a6); (case a0 => walk_at "mi"); (case a1 => decide +kernel); (case a2 => walk_at "mE"); (case a3 => decide); (case a4 => decide); (case a5 => (intro _; rfl)); (case a6 => (intro _; rfl))))
theorem fn218 (w : World) : FnIs (KF w) 218 [] (bodyIn (KF w) 218) (scopeIn (KF w) 218) := by
  refine ⟨_, _, _, _, rfl, rfl, rfl, rfl, rfl, rfl, ?_, .none ?_ ?_, ?_⟩
  · kernel_rfl
  · kernel_rfl
  · kernel_rfl
  · intro vs h
    match vs, h with
    | [], _ => rfl
noncomputable def b218 : {F : SD // ∀ C : Cx, BSound C 2 (scopeIn (KF C.w) 218) ["found", "early", "late", "number", "names", "name", "size", "spot"] (bodyIn (KF C.w) 218) F} := by
  refine ⟨?F, ?h⟩
  case h =>
    intro C
    conv => arg 5; whnf
    walk_at "mB"
noncomputable def D218 : PV → R := retD 0 8 b218.1
theorem c218 (C : Cx) : CSound C 3 (.ref 218) D218 := cs_def (ps := []) (rest := ["found", "early", "late", "number", "names", "name", "size", "spot"]) (fn218 C.w) (b218.2 C) rfl rfl rfl (by decide) (by kernel_rfl) (by kernel_rfl)
theorem E218 {np pos : Pos} (hk : sc.names.lookup ("_law_list" : Str) = some .globalImplicit) (hm : 3 ≤ n) : ESound C n sc names (.Call (.Name "_law_list" np) [] [] pos) (callD [] D218) := e_call0 (c218 C) (by kernel_rfl) (by kernel_rfl) (by decide) hk hm
local macro_rules | `(tactic| walk_at "mC") => `(tactic| ((with_reducible refine' E218 ?a0 ?a1); (case a0 => kernel_rfl); (case a1 => decide)))


theorem ints_take {g : GP} : ∀ (k : Nat) {vs : List Value} {l : List Int}, IntsAre vs l → RepL g (ofItems ((l.take k).map PV.int)) (vs.take k)
  | 0, _, _, _ => rfl
  | k + 1, _, _, .nil => rfl
  | k + 1, _, _, .cons _ _ h => ⟨_, _, rfl, ⟨_, rfl⟩, ints_take k h⟩
noncomputable def lsliceK (a b : PV) : R := match a, b with
  | .ext l, .int i => if 0 ≤ i ∧ l.length ≤ 1000 then .ok (.lst (ofItems ((l.take i.toNat).map PV.int))) else .stuck
  | _, _ => .stuck
theorem ints_len : ∀ {vs : List Value} {l : List Int}, IntsAre vs l → vs.length = l.length
  | _, _, .nil => rfl
  | _, _, .cons _ _ h => by rw [List.length_cons, List.length_cons, ints_len h]
theorem e_lslice {x : Str} {xp : Pos} {hi : Expr} {p pos : Pos} {f fl : ED} (hv : ESound C n sc names (.Name x xp) f) (hl : ESound C n sc names hi fl)
    (hs : ∀ l a, subscripted (.Slice none (some hi) none p) false (.ref l) (.ref a) = operate [.ref a, .ref l] (getItem (.ref l) (.ref a))) (ht : ∀ l r, letTemporaryGo (.Name x xp) (.ref l) r = pure ()) :
    ESound C n sc names (.Subscript (.Name x xp) (.Slice none (some hi) none p) pos) (fun ρ => (f ρ).bind fun a => (fl ρ).bind fun b => lsliceK a b) := fun A env gg ρ s Q E ok h => by
  refine Subscript_ (hv A env gg ρ s _ E ok (Post.bind h fun a va g1 s1 hq1 y1 hva h1 => ?_))
  refine wpAny_Slice (evalPart_none_step (evalPart_some_step (hl A env g1 ρ s1 _ E (ok.after y1) (Post.bind h1 fun b vb g2 s2 hq2 y2 hvb h3 => evalPart_none_step ?_))))
  have hw := ((ok.after y1).after y2).wd
  cases a <;> first | exact h3.elim | skip
  cases b <;> first | exact h3.elim | skip
  rename_i l i
  obtain ⟨a, o, vs, m, rfl, eo, hc, hd, hI⟩ := hva.mono y2.mono
  obtain ⟨tb, rfl⟩ := hvb
  simp only [lsliceK] at h3
  split at h3
  · rename_i hb
    have hL : s2.heap.IsList a vs := ⟨o, hw.sub _ _ eo, hc, m, hd⟩
    have hlen : vs.size = l.length := by rw [← ints_len hI, Array.length_toList]
    refine slice_listK (lo := none) (hi := some i) hL .none (.int _ _) ?_ (hs _ _) (ht _) (by rw [hlen, sizeLine_eq]; omega)
    obtain ⟨i', rfl⟩ := Int.eq_ofNat_of_zero_le hb.1
    have e : slicePick vs none (some (i' : Int)) none = (vs.toList.take i').toArray := PySem.slicePick_upto' vs i'
    rw [e]
    have w1 : Wd C g2 (s2.heap.push { cls := .type "slice", data := .fields #[.none, .int (i' : Int) tb, .none] }) := hw.grow fun a x e => Heap.get?_push_of_some _ e
    have y3 : After C NoMu (fsOf A) g2 s2 g2 { s2 with heap := s2.heap.push { cls := .type "slice", data := .fields #[.none, .int (i' : Int) tb, .none] }, toks := s2.toks } := After.grow hw fun a x e => Heap.get?_push_of_some _ e
    have y4 := y3.trans (After.lay (s := { s2 with heap := s2.heap.push { cls := .type "slice", data := .fields #[.none, .int (i' : Int) tb, .none] }, toks := s2.toks }) (tk := s2.toks) (o := { cls := .type "list", data := .seq (vs.toList.take i').toArray }) w1 rfl)
    refine h3 _ _ _ (by have := y4; rw [show ({ s2 with heap := s2.heap.push { cls := .type "slice", data := .fields #[.none, .int (i' : Int) tb, .none] }, toks := s2.toks } : Shared).heap.objs.size = s2.heap.objs.size + 1 from Heap.size_push ..] at this; exact this) ?_
    exact ⟨_, _, _, rfl, GP.add_self .., ints_take i' hI⟩
  · exact h3.elim
local macro_rules | `(tactic| walk_at "mE") => `(tactic| ((with_reducible refine' e_lslice ?a0 ?a1 ?a2 ?a3); (case a0 => walk_at "mE"); (case a1 => walk_at "mE"); (case a2 => (intro _ _; with_unfolding_all rfl)); (case a3 => (intro _ _; with_unfolding_all rfl))))
noncomputable def b275 : {F : SD // ∀ C : Cx, BSound C 12 (scopeIn (KF C.w) 275) ["script", "rows", "names", "cell", "left", "one", "other", "bent", "told", "size", "due"] (bodyIn (KF C.w) 275) F} := by
  refine ⟨?F, ?h⟩
  case h =>
    intro C
    conv => arg 5; whnf
    walk_at "mB"

end Mine
end

/-! ## F34 -/
section
open PySem PySem.W PyProof.Rows PySem.Calls PySem.SeqAt
set_option maxRecDepth 100000
set_option maxHeartbeats 4000000
set_option linter.unusedVariables false
namespace Mine

theorem sc275_kind (w : World) : (scopeIn (KF w) 275).kind = .function := rfl
theorem sc275_cells (w : World) (a : Nat) : cellsFrom a (scopeIn (KF w) 275).names [] = [(("size" : Str), a)] := by kernel_rfl
theorem sc275_has (w : World) : (scopeIn (KF w) 275).names.all (fun p => (p.2 != .cell || p.1 == ("size" : Str)) && p.2 != .free) = true := by kernel_rfl
theorem sc275_script (w : World) : (scopeIn (KF w) 275).names.lookup ("script" : Str) = some .local := by kernel_rfl
theorem sc275_left (w : World) : ((scopeIn (KF w) 275).names.lookup ("left" : Str) == some .cell) = false := by kernel_rfl
theorem sc275_told (w : World) : ((scopeIn (KF w) 275).names.lookup ("told" : Str) == some .cell) = false := by kernel_rfl
theorem law_end {w : World} {loose : List Str} {mean : ExcName → Option Value} {mg mb : Str → Option Value} {G h1 : Heap} {L fa a : Addr} {cd : Value} {nm : Str} {s : Shared} {tk : Nat} {m : Str → Option Value} {oc : Obj} {l : List Int} {vs : List Value}
    {Q : Flow → Shared → Prop} {E : Value → Shared → Prop} (X : (KF w).In G) (T : Top topProg loose mean mg mb G) (c1 : CodeHd G 269 265) (c2 : CodeHd G 243 241) (F : Fr G L h1 m) (N : News G L h1 [(L + 1, oc), (265, tabObj #[]), (241, tabObj #[])])
    (hl0 : 265 < L ∧ 241 < L) (hcell : oc.data = .cell none) (hm : m "script" = some (.ref a)) (hl : G.IsList a vs.toArray) (hI : IntsAre vs l)
    (hF : b275.1 (.ext l :: List.replicate 10 .nil) = .ret (.bool true))
    (hQ : ∀ s', (∀ b o, G.get? b = some o → s'.heap.get? b = some o) → GrownAll [(269, 265), (243, 241)] s'.heap → s'.gens = s.gens → s'.os = s.os → Q (.ret (.bool true)) s') :
    wpAny (model PG w) (callerA.deeper (envOfC nm (scopeIn (KF w) 275) L fa cd)) (execs (bodyIn (KF w) 275) (envOfC nm (scopeIn (KF w) 275) L fa cd)) Q E { s with heap := h1, toks := tk } := by
  have n1 : G.get? 265 = none := (N (265, tabObj #[]) (by simp)).2.2
  have n2 : G.get? 241 = none := (N (241, tabObj #[]) (by simp)).2.2
  have nc := N (L + 1, oc) (by simp)
  generalize hE : envOfC nm (scopeIn (KF w) 275) L fa cd = env
  have eL : env.locals = L := by rw [← hE]; rfl
  have ef : env.frame = some L := by rw [← hE]; rfl
  have esc : env.scope = scopeIn (KF w) 275 := by rw [← hE]; rfl
  have eg : env.globals = mainGlobals := by rw [← hE]; rfl
  have eb : env.builtins = builtinsNs := by rw [← hE]; rfl
  have ec : env.cells = [(("size" : Str), L + 1)] := by rw [← hE]; exact sc275_cells w (L + 1)
  let C : Cx := ⟨w, loose, mean, mg, mb, G, X, T, c1, c2, n1, n2⟩
  have gL : G.get? L = none := Heap.get?_none_of_le F.above
  have tb : ∀ b, Tb b → b < L := fun b t => t.elim (fun q => q ▸ hl0.1) fun q => q ▸ hl0.2
  have wd : Wd C (fun b => G.get? b) h1 := by
    refine ⟨fun a o e => e, fun a o e => F.keep a o e, fun a t => ?_, ⟨#[], (N (265, tabObj #[]) (by simp)).1, trivial, fun pos cv e => (by simp [codeAmong] at e)⟩, ⟨#[], (N (241, tabObj #[]) (by simp)).1, trivial, fun pos cv e => (by simp [codeAmong] at e)⟩⟩
    rcases t with rfl | rfl
    · exact n1
    · exact n2
  obtain ⟨oL, esL, epL, hoL, dL, _⟩ := id F.ns
  have hcl : ∀ x c, env.cells.lookup x = some c → x = ("size" : Str) ∧ c = L + 1 := fun x c h => by
    rw [ec] at h
    have := mem_of_lookup h
    simp at this
    exact this
  have room : Room 12 (callerA.deeper env) := by
    refine ⟨rfl, ?_, ?_⟩
    · show callerA.depth + 1 + 12 < 900; decide
    · show callerA.units + 3 + 20 * 12 < 9000; decide
  have okc : OkC C 12 (callerA.deeper env) (fun b => G.get? b) { s with heap := h1, toks := tk } := ⟨wd, room, [env], Around.frames_deeper (A := callerA) (outer := []) rfl, by rw [esc, sc275_kind]; decide, ⟨L, oL, ef, gL, hoL, _, _, dL⟩, trivial⟩
  have ok : Ok C 12 (callerA.deeper env) (scopeIn (KF w) 275) ["script", "rows", "names", "cell", "left", "one", "other", "bent", "told", "size", "due"] env (fun b => G.get? b) (.ext l :: List.replicate 10 .nil) { s with heap := h1, toks := tk } := by
    refine ⟨okc, .none (sc275_left w) (sc275_told w), esc, sc275_kind w, eg, eb, by rw [eL]; exact gL, by rw [eL]; exact fun t => Nat.lt_irrefl _ (tb L t), fun x c hc => ?_, fun x y c hx hy => ?_, fun x hx => ?_, m, by rw [eL]; exact F.ns, ?_⟩
    · obtain ⟨rfl, rfl⟩ := hcl x c hc
      exact ⟨nc.2.2, fun t => absurd (tb _ t) (Nat.not_lt.mpr (Nat.le_succ _)), by rw [eL]; exact Nat.succ_ne_self _, _, oc, nc.1, hcell⟩
    · rw [(hcl x c hx).1, (hcl y c hy).1]
    · rcases hx with q | q
      · have := List.all_eq_true.mp (sc275_has w) _ (mem_of_lookup q)
        simp at this
        rw [ec, this]; rfl
      · have := List.all_eq_true.mp (sc275_has w) _ (mem_of_lookup q)
        simp at this
    · obtain ⟨o, e1, e2, k, e3⟩ := hl
      exact ⟨.inr (.inl ⟨.ref a, ⟨a, o, vs.toArray, k, rfl, e1, e2, e3, by simpa using hI⟩, .inl ⟨by unfold Env.kindOf; rw [esc]; exact sc275_script w, hm⟩⟩), .inl rfl, .inl rfl, .inl rfl, .inl rfl, .inl rfl, .inl rfl, .inl rfl, .inl rfl, .inl rfl, .inl rfl, trivial⟩
  refine b275.2 C (callerA.deeper env) env (fun b => G.get? b) { s with heap := G, toks := tk } (fun b => G.get? b) _ _ Q E ok ⟨by rw [eL]; exact gL, fun x c hc => ?_, by rw [eL]; exact F.above⟩ ?_ ?_
  · obtain ⟨rfl, rfl⟩ := hcl x c hc; exact nc.2.2
  · exact ⟨⟨h1, tk, rfl⟩, .of_keeps F.keep, .refl _, wd, fun a o e => .inl e⟩
  · rw [hF]
    intro v g' s' y hv
    obtain rfl : v = .bool true := hv
    obtain ⟨p1, q1, _⟩ := y.wd.t1
    obtain ⟨p2, q2, _⟩ := y.wd.t2
    obtain ⟨⟨h', tk', rfl⟩, _⟩ := id y
    exact hQ _ (fun b o e => y.wd.sub _ _ (y.wd.base b o e)) ⟨⟨p1, q1⟩, ⟨p2, q2⟩, trivial⟩ rfl rfl
end Mine
end

/-! ## Q1 -/
section
open PySem PySem.W PyProof.Rows PySem.Calls PySem.SeqAt
set_option maxRecDepth 100000
set_option maxHeartbeats 4000000
set_option linter.unusedVariables false
namespace Mine

/-! ### the table of the law's rows -/
structure TR where
  n : List Nat
  k : List Nat
  m : Nat
  z : Nat
  o : List Nat
noncomputable def kG : List Nat := [103, 112, 114]
noncomputable def kH : List Nat := [104, 105, 103, 104]
noncomputable def kX : List Nat := [120, 109, 109]
noncomputable def kR : List Nat := [114, 105, 112]
noncomputable def kS : List Nat := [115, 101, 103, 109, 101, 110, 116]
noncomputable def oc (n : Nat) : List Nat := List.range n
noncomputable def TB : List TR := [
  ⟨[114, 97, 120], kG, 0, 64, oc 8⟩,
  ⟨[101, 97, 120], kG, 0, 32, oc 4⟩,
  ⟨[97, 120], kG, 0, 16, oc 2⟩,
  ⟨[97, 108], kG, 0, 8, oc 1⟩,
  ⟨[114, 99, 120], kG, 1, 64, oc 8⟩,
  ⟨[101, 99, 120], kG, 1, 32, oc 4⟩,
  ⟨[99, 120], kG, 1, 16, oc 2⟩,
  ⟨[99, 108], kG, 1, 8, oc 1⟩,
  ⟨[114, 100, 120], kG, 2, 64, oc 8⟩,
  ⟨[101, 100, 120], kG, 2, 32, oc 4⟩,
  ⟨[100, 120], kG, 2, 16, oc 2⟩,
  ⟨[100, 108], kG, 2, 8, oc 1⟩,
  ⟨[114, 98, 120], kG, 3, 64, oc 8⟩,
  ⟨[101, 98, 120], kG, 3, 32, oc 4⟩,
  ⟨[98, 120], kG, 3, 16, oc 2⟩,
  ⟨[98, 108], kG, 3, 8, oc 1⟩,
  ⟨[114, 115, 112], kG, 4, 64, oc 8⟩,
  ⟨[101, 115, 112], kG, 4, 32, oc 4⟩,
  ⟨[115, 112], kG, 4, 16, oc 2⟩,
  ⟨[115, 112, 108], kG, 4, 8, oc 1⟩,
  ⟨[114, 98, 112], kG, 5, 64, oc 8⟩,
  ⟨[101, 98, 112], kG, 5, 32, oc 4⟩,
  ⟨[98, 112], kG, 5, 16, oc 2⟩,
  ⟨[98, 112, 108], kG, 5, 8, oc 1⟩,
  ⟨[114, 115, 105], kG, 6, 64, oc 8⟩,
  ⟨[101, 115, 105], kG, 6, 32, oc 4⟩,
  ⟨[115, 105], kG, 6, 16, oc 2⟩,
  ⟨[115, 105, 108], kG, 6, 8, oc 1⟩,
  ⟨[114, 100, 105], kG, 7, 64, oc 8⟩,
  ⟨[101, 100, 105], kG, 7, 32, oc 4⟩,
  ⟨[100, 105], kG, 7, 16, oc 2⟩,
  ⟨[100, 105, 108], kG, 7, 8, oc 1⟩,
  ⟨[114, 56], kG, 8, 64, oc 8⟩,
  ⟨[114, 56, 100], kG, 8, 32, oc 4⟩,
  ⟨[114, 56, 119], kG, 8, 16, oc 2⟩,
  ⟨[114, 56, 98], kG, 8, 8, oc 1⟩,
  ⟨[114, 57], kG, 9, 64, oc 8⟩,
  ⟨[114, 57, 100], kG, 9, 32, oc 4⟩,
  ⟨[114, 57, 119], kG, 9, 16, oc 2⟩,
  ⟨[114, 57, 98], kG, 9, 8, oc 1⟩,
  ⟨[114, 49, 48], kG, 10, 64, oc 8⟩,
  ⟨[114, 49, 48, 100], kG, 10, 32, oc 4⟩,
  ⟨[114, 49, 48, 119], kG, 10, 16, oc 2⟩,
  ⟨[114, 49, 48, 98], kG, 10, 8, oc 1⟩,
  ⟨[114, 49, 49], kG, 11, 64, oc 8⟩,
  ⟨[114, 49, 49, 100], kG, 11, 32, oc 4⟩,
  ⟨[114, 49, 49, 119], kG, 11, 16, oc 2⟩,
  ⟨[114, 49, 49, 98], kG, 11, 8, oc 1⟩,
  ⟨[114, 49, 50], kG, 12, 64, oc 8⟩,
  ⟨[114, 49, 50, 100], kG, 12, 32, oc 4⟩,
  ⟨[114, 49, 50, 119], kG, 12, 16, oc 2⟩,
  ⟨[114, 49, 50, 98], kG, 12, 8, oc 1⟩,
  ⟨[114, 49, 51], kG, 13, 64, oc 8⟩,
  ⟨[114, 49, 51, 100], kG, 13, 32, oc 4⟩,
  ⟨[114, 49, 51, 119], kG, 13, 16, oc 2⟩,
  ⟨[114, 49, 51, 98], kG, 13, 8, oc 1⟩,
  ⟨[114, 49, 52], kG, 14, 64, oc 8⟩,
  ⟨[114, 49, 52, 100], kG, 14, 32, oc 4⟩,
  ⟨[114, 49, 52, 119], kG, 14, 16, oc 2⟩,
  ⟨[114, 49, 52, 98], kG, 14, 8, oc 1⟩,
  ⟨[114, 49, 53], kG, 15, 64, oc 8⟩,
  ⟨[114, 49, 53, 100], kG, 15, 32, oc 4⟩,
  ⟨[114, 49, 53, 119], kG, 15, 16, oc 2⟩,
  ⟨[114, 49, 53, 98], kG, 15, 8, oc 1⟩,
  ⟨[97, 104], kH, 4, 8, [1]⟩,
  ⟨[99, 104], kH, 5, 8, [1]⟩,
  ⟨[100, 104], kH, 6, 8, [1]⟩,
  ⟨[98, 104], kH, 7, 8, [1]⟩,
  ⟨[120, 109, 109, 48], kX, 0, 128, oc 16⟩,
  ⟨[120, 109, 109, 49], kX, 1, 128, oc 16⟩,
  ⟨[120, 109, 109, 50], kX, 2, 128, oc 16⟩,
  ⟨[120, 109, 109, 51], kX, 3, 128, oc 16⟩,
  ⟨[120, 109, 109, 52], kX, 4, 128, oc 16⟩,
  ⟨[120, 109, 109, 53], kX, 5, 128, oc 16⟩,
  ⟨[120, 109, 109, 54], kX, 6, 128, oc 16⟩,
  ⟨[120, 109, 109, 55], kX, 7, 128, oc 16⟩,
  ⟨[120, 109, 109, 56], kX, 8, 128, oc 16⟩,
  ⟨[120, 109, 109, 57], kX, 9, 128, oc 16⟩,
  ⟨[120, 109, 109, 49, 48], kX, 10, 128, oc 16⟩,
  ⟨[120, 109, 109, 49, 49], kX, 11, 128, oc 16⟩,
  ⟨[120, 109, 109, 49, 50], kX, 12, 128, oc 16⟩,
  ⟨[120, 109, 109, 49, 51], kX, 13, 128, oc 16⟩,
  ⟨[120, 109, 109, 49, 52], kX, 14, 128, oc 16⟩,
  ⟨[120, 109, 109, 49, 53], kX, 15, 128, oc 16⟩,
  ⟨[114, 105, 112], kR, 0, 64, oc 8⟩,
  ⟨[102, 115], kS, 4, 16, oc 2⟩,
  ⟨[103, 115], kS, 5, 16, oc 2⟩]
noncomputable def intsR (l : List Nat) : PV := ofItems (l.map fun (i : Nat) => PV.int (i : Int))
noncomputable def TR.pv (t : TR) : PV := .tup (.cons (.str t.n) (.cons (.str t.k) (.cons (.int t.m) (.cons (.int t.z) (.cons (.lst (intsR t.o)) .nil)))))
noncomputable def TR.reg (t : TR) : PV := .reg t.n t.k t.m t.z
noncomputable def RW : PV := ofItems (TB.map TR.pv)
noncomputable def eqPV : PV → PV → Bool
  | .none, .none => true
  | .bool a, .bool b => a == b
  | .int a, .int b => a == b
  | .str a, .str b => a == b
  | .nil, .nil => true
  | .cons a b, .cons c d => eqPV a c && eqPV b d
  | .tup a, .tup b => eqPV a b
  | .lst a, .lst b => eqPV a b
  | .reg a b c d, .reg a' b' c' d' => a == a' && b == b' && c == c' && d == d'
  | _, _ => false
theorem eqPV_eq : ∀ {a b : PV}, eqPV a b = true → a = b
  | .none, b, h => by cases b <;> first | rfl | cases h
  | .bool x, b, h => by cases b <;> first | cases h | exact congrArg _ (eq_of_beq h)
  | .int x, b, h => by cases b <;> first | cases h | exact congrArg _ (eq_of_beq h)
  | .str x, b, h => by cases b <;> first | cases h | exact congrArg _ (eq_of_beq h)
  | .nil, b, h => by cases b <;> first | rfl | cases h
  | .cons x r, b, h => by
    cases b <;> first | cases h | skip
    have h' := Bool.and_eq_true_iff.mp h
    rw [eqPV_eq h'.1, eqPV_eq h'.2]
  | .tup x, b, h => by
    cases b <;> first | cases h | skip
    rw [eqPV_eq (a := x) h]
  | .lst x, b, h => by
    cases b <;> first | cases h | skip
    rw [eqPV_eq (a := x) h]
  | .reg x y z w, b, h => by
    cases b <;> first | cases h | skip
    simp only [eqPV, Bool.and_eq_true, beq_iff_eq] at h
    obtain ⟨⟨⟨rfl, rfl⟩, rfl⟩, rfl⟩ := h
    rfl
  | .own x, b, h => by cases b <;> cases h
  | .ext x, b, h => by cases b <;> cases h
noncomputable def isR (r : R) (p : PV) : Bool := match r with | .ok q => eqPV q p | _ => false
theorem isR_eq {r : R} {p : PV} (h : isR r p = true) : r = .ok p := by
  cases r with
  | ok q => exact congrArg _ (eqPV_eq h)
  | _ => cases h
theorem rows_eq : D218 .nil = .ok (.lst RW) := isR_eq (by kernel_rfl)
theorem TB_len : TB.length = 87 := by kernel_rfl
noncomputable def isT : R → Bool
  | .ok (.bool b) => b
  | _ => false
theorem isT_eq {r : R} (h : isT r = true) : r = .ok (.bool true) := by
  cases r with
  | ok p =>
    cases p with
    | bool b => exact congrArg (fun b => R.ok (.bool b)) h
    | _ => cases h
  | _ => cases h
/-- all of the table, in eight parts -/
theorem all8 {f : TR → Bool} (h0 : (TB.take 11).all f = true) (h1 : ((TB.drop 11).take 11).all f = true) (h2 : ((TB.drop 22).take 11).all f = true) (h3 : ((TB.drop 33).take 11).all f = true)
    (h4 : ((TB.drop 44).take 11).all f = true) (h5 : ((TB.drop 55).take 11).all f = true) (h6 : ((TB.drop 66).take 11).all f = true) (h7 : (TB.drop 77).all f = true) : ∀ t ∈ TB, f t = true := by
  have step : ∀ (l : List TR), (l.take 11).all f = true → (l.drop 11).all f = true → l.all f = true := fun l a b => by
    rw [← List.take_append_drop 11 l, List.all_append, a, b]; rfl
  have d : ∀ k, (TB.drop k).drop 11 = TB.drop (k + 11) := fun k => by rw [List.drop_drop]
  have : TB.all f = true :=
    step _ h0 (step _ h1 (by rw [d]; exact step _ h2 (by rw [d]; exact step _ h3 (by rw [d]; exact step _ h4 (by rw [d]; exact step _ h5 (by rw [d]; exact step _ h6 (by rw [d]; exact h7)))))))
  exact List.all_eq_true.mp this
theorem nth_items : ∀ (l : List PV) (i : Nat), (ofItems l).nth i = l[i]?
  | [], _ => rfl
  | x :: r, 0 => rfl
  | x :: r, i + 1 => nth_items r i
end Mine
end

/-! ## Q2 -/
section
open PySem PySem.W PyProof.Rows PySem.Calls PySem.SeqAt
set_option maxRecDepth 100000
set_option maxHeartbeats 4000000
set_option linter.unusedVariables false
namespace Mine
theorem found_t : ∀ t ∈ TB, isT (D232 (.cons (.lst RW) (.cons t.pv .nil))) = true := all8 (by decide +kernel) (by decide +kernel) (by decide +kernel) (by decide +kernel) (by decide +kernel) (by decide +kernel) (by decide +kernel) (by decide +kernel)
theorem parts_t : ∀ t ∈ TB, isT (D244 (.cons (.lst RW) (.cons t.pv .nil))) = true := all8 (by decide +kernel) (by decide +kernel) (by decide +kernel) (by decide +kernel) (by decide +kernel) (by decide +kernel) (by decide +kernel) (by decide +kernel)
theorem made_t : ∀ t ∈ TB, isT (D256 (.cons (.lst RW) (.cons t.pv .nil))) = true := all8 (by decide +kernel) (by decide +kernel) (by decide +kernel) (by decide +kernel) (by decide +kernel) (by decide +kernel) (by decide +kernel) (by decide +kernel)
theorem find_t : ∀ t ∈ TB, isR (D180 (.cons (.str t.n) .nil)) t.reg = true := all8 (by decide +kernel) (by decide +kernel) (by decide +kernel) (by decide +kernel) (by decide +kernel) (by decide +kernel) (by decide +kernel) (by decide +kernel)
end Mine
end

/-! ## Q3 -/
section
open PySem PySem.W PyProof.Rows PySem.Calls PySem.SeqAt
set_option maxRecDepth 100000
set_option maxHeartbeats 4000000
set_option linter.unusedVariables false
namespace Mine

/-! ### steps of a denotation -/
theorem binE {f g : ED} {k : PV → PV → R} {ρ : List PV} {a b : PV} {r : R} (hf : f ρ = .ok a) (hg : g ρ = .ok b) (h : k a b = r) : bin f g k ρ = r := by
  unfold bin; rw [hf]; show (g ρ).bind _ = _; rw [hg]; exact h
theorem testE {r : R} {c : Bool} (h : r = .ok (.bool c)) : (r.test fun c => R.ok (.bool c)) = .ok (.bool c) := by rw [h]; rfl
theorem notE {r : R} {c : Bool} (h : r = .ok (.bool c)) : ((r.test fun b => R.ok (.bool b)).test fun b => R.ok (.bool !b)) = .ok (.bool !c) := by rw [h]; rfl
theorem aN {X : FR} {k : SD} {ρ' : List PV} {r : FR} (h : X = .next ρ') (h2 : k ρ' = r) : X.andThen k = r := by rw [h]; exact h2
theorem aR {X : FR} {k : SD} {p : PV} (h : X = .ret p) : X.andThen k = .ret p := by rw [h]; rfl
theorem toN {e : R} {p : PV} {K : PV → FR} {r : FR} (h : e = .ok p) (h2 : K p = r) : e.toF K = r := by rw [h]; exact h2
theorem ifN {e : R} {K : Bool → FR} {c : Bool} {r : FR} (h : e = .ok (.bool c)) (h2 : K c = r) : e.testF K = r := by rw [h]; exact h2
theorem forN {set : PV → List PV → List PV} {F : SD} {x : PV} {r : List PV} {ρ ρ' : List PV} {q : FR} (h : F (set x ρ) = .next ρ') (h2 : forD set F r ρ' = q) : forD set F (x :: r) ρ = q := by
  rw [forD, h]; exact h2
theorem andF {f g : ED} {ρ : List PV} (h : f ρ = .ok (.bool false)) : andD f g ρ = .ok (.bool false) := by unfold andD; rw [h]; rfl
theorem andT {f g : ED} {ρ : List PV} {r : R} (h : f ρ = .ok (.bool true)) (h2 : g ρ = r) : andD f g ρ = r := by unfold andD; rw [h]; exact h2
theorem orF {f g : ED} {ρ : List PV} {r : R} (h : f ρ = .ok (.bool false)) (h2 : g ρ = r) : orD f g ρ = r := by unfold orD; rw [h]; exact h2
theorem orT {f g : ED} {ρ : List PV} (h : f ρ = .ok (.bool true)) : orD f g ρ = .ok (.bool true) := by unfold orD; rw [h]; rfl
theorem callE {fs : List ED} {D : PV → R} {ρ : List PV} {row : PV} {r : R} (h : rowD fs ρ = .ok row) (h2 : D row = r) : callD fs D ρ = r := by unfold callD; rw [h]; exact h2
theorem bindE {e : R} {p : PV} {K : PV → R} {r : R} (h : e = .ok p) (h2 : K p = r) : e.bind K = r := by rw [h]; exact h2
theorem retE {k j : Nat} {F : SD} {p q : PV} (hl : p.len = k) (h : F (p.items ++ List.replicate j .nil) = .ret q) : retD k j F p = .ok q := by
  unfold retD; rw [if_pos hl, h]; rfl

/-! ### texts among texts -/
noncomputable def wsIn (ws : List (List Nat)) (s : List Nat) : Bool := ws.any (· == s)
theorem wsIn_no {ws : List (List Nat)} {s : List Nat} : wsIn ws s = false ↔ s ∉ ws := by
  unfold wsIn
  rw [List.any_eq_false]
  exact ⟨fun h m => h s m (beq_self_eq_true s), fun h x m e => h (eq_of_beq e ▸ m)⟩
theorem inR_ws {s : List Nat} : ∀ (ws : List (List Nat)), inR (.str s) (strsR ws) = some (wsIn ws s)
  | [] => rfl
  | w :: r => by
    show (match eqS (.str w) (.str s) with | some true => some true | some false => inR (.str s) (strsR r) | none => none) = some ((w == s) || wsIn r s)
    show (match some (w == s) with | some true => some true | some false => inR (.str s) (strsR r) | none => none) = _
    cases h : w == s
    · exact inR_ws r
    · rfl
abbrev sc8 (s : List Nat) : Bool := s.all (· < 0x110000)
theorem flat_ws : ∀ (ws : List (List Nat)), ws.all sc8 = true → flat (strsR ws) = true
  | [], _ => rfl
  | w :: r, h => by
    have h' := Bool.and_eq_true_iff.mp (List.all_cons ▸ h)
    show (scal (.str w) && flat (strsR r)) = true
    rw [flat_ws r h'.2, Bool.and_true]
    exact h'.1
theorem in_ws {s : List Nat} {ws : List (List Nat)} (hs : sc8 s = true) (hw : ws.all sc8 = true) : inK (.str s) (.lst (strsR ws)) = .ok (.bool (wsIn ws s)) := by
  have e1 : scal (.str s) = true := hs
  unfold inK inD
  simp only [e1, flat_ws ws hw, Bool.and_self, if_true, inR_ws]
theorem in_wt {s : List Nat} {ws : List (List Nat)} (hs : sc8 s = true) (hw : ws.all sc8 = true) : inK (.str s) (.tup (strsR ws)) = .ok (.bool (wsIn ws s)) := by
  have e1 : scal (.str s) = true := hs
  unfold inK inD
  simp only [e1, flat_ws ws hw, Bool.and_self, if_true, inR_ws]
theorem eq_str {a b : List Nat} (ha : sc8 a = true) (hb : sc8 b = true) : eqK (.str a) (.str b) = .ok (.bool (a == b)) := by
  show (match (if (sc8 a && sc8 b) = true then eqS (.str a) (.str b) else none) with | some c => R.ok (.bool c) | none => .stuck) = _
  rw [ha, hb]; rfl
theorem ne_str {a b : List Nat} (ha : sc8 a = true) (hb : sc8 b = true) : neK (.str a) (.str b) = .ok (.bool !(a == b)) := by
  show (match (if (sc8 a && sc8 b) = true then eqS (.str a) (.str b) else none) with | some c => R.ok (.bool !c) | none => .stuck) = _
  rw [ha, hb]; rfl

/-! ### a text that is no name -/
noncomputable def NN : List (List Nat) := TB.map TR.n
noncomputable def N64 : List (List Nat) := [[114, 97, 120], [114, 99, 120], [114, 100, 120], [114, 98, 120], [114, 115, 112], [114, 98, 112], [114, 115, 105], [114, 100, 105]]
noncomputable def N32 : List (List Nat) := [[101, 97, 120], [101, 99, 120], [101, 100, 120], [101, 98, 120], [101, 115, 112], [101, 98, 112], [101, 115, 105], [101, 100, 105]]
noncomputable def N16 : List (List Nat) := [[97, 120], [99, 120], [100, 120], [98, 120], [115, 112], [98, 112], [115, 105], [100, 105]]
noncomputable def N8 : List (List Nat) := [[97, 108], [99, 108], [100, 108], [98, 108], [115, 112, 108], [98, 112, 108], [115, 105, 108], [100, 105, 108]]
noncomputable def NH : List (List Nat) := [[97, 104], [99, 104], [100, 104], [98, 104]]
noncomputable def NX : List (List Nat) := [[48], [49], [50], [51], [52], [53], [54], [55], [56], [57], [49, 48], [49, 49], [49, 50], [49, 51], [49, 52], [49, 53]]
noncomputable def NL : List (List Nat) := [[56], [57], [49, 48], [49, 49], [49, 50], [49, 51], [49, 52], [49, 53]]
theorem early_64 : D117 (.cons (.int 64) .nil) = .ok (.lst (strsR N64)) := isR_eq (by kernel_rfl)
theorem early_32 : D117 (.cons (.int 32) .nil) = .ok (.lst (strsR N32)) := isR_eq (by kernel_rfl)
theorem early_16 : D117 (.cons (.int 16) .nil) = .ok (.lst (strsR N16)) := isR_eq (by kernel_rfl)
theorem early_8 : D117 (.cons (.int 8) .nil) = .ok (.lst (strsR N8)) := isR_eq (by kernel_rfl)
theorem end_64 : D124 (.cons (.int 64) .nil) = .ok (.str []) := isR_eq (by kernel_rfl)
theorem end_32 : D124 (.cons (.int 32) .nil) = .ok (.str [100]) := isR_eq (by kernel_rfl)
theorem end_16 : D124 (.cons (.int 16) .nil) = .ok (.str [119]) := isR_eq (by kernel_rfl)
theorem end_8 : D124 (.cons (.int 8) .nil) = .ok (.str [98]) := isR_eq (by kernel_rfl)
theorem no_sub {s : List Nat} (h : s ∉ NN) (ws : List (List Nat)) (hw : (ws.all fun w => wsIn NN w) = true) : wsIn ws s = false := by
  rw [wsIn_no]
  intro m
  have := List.all_eq_true.mp hw s m
  rw [wsIn_no.mpr h] at this
  cases this
theorem sc_take {s : List Nat} (k : Nat) (h : sc8 s = true) : sc8 (s.take k) = true := List.all_eq_true.mpr fun x m => List.all_eq_true.mp h x (List.mem_of_mem_take m)
theorem sc_drop {s : List Nat} (k : Nat) (h : sc8 s = true) : sc8 (s.drop k) = true := List.all_eq_true.mpr fun x m => List.all_eq_true.mp h x (List.mem_of_mem_drop m)
theorem sc_app {s t : List Nat} (h : sc8 s = true) (h2 : sc8 t = true) : sc8 (s ++ t) = true := by unfold sc8 at *; rw [List.all_append, h, h2]; rfl
theorem slTo {s : List Nat} {j : Int} (hj : 0 ≤ j) (hl : s.length ≤ 1000) : sliceK (.str s) Option.none (some (.int j)) = .ok (.str (s.take j.toNat)) := if_pos ⟨hj, by omega⟩
theorem slFrom {s : List Nat} {j : Int} (hj : 0 ≤ j) (hl : s.length ≤ 1000) : sliceK (.str s) (some (.int j)) Option.none = .ok (.str (s.drop j.toNat)) := if_pos ⟨hj, by omega⟩
theorem slMid {s : List Nat} {i j : Int} (hi : 0 ≤ i) (hj : 0 ≤ j) (hl : s.length ≤ 1000) : sliceK (.str s) (some (.int i)) (some (.int j)) = .ok (.str ((s.take j.toNat).drop i.toNat)) := if_pos ⟨hi, hj, by omega⟩
theorem len_str {s : List Nat} (hl : s.length ≤ 1000) : one lenK (.cons (.str s) .nil) = .ok (.int s.length) := if_pos (by omega)
theorem add_str {a b : List Nat} (hl : a.length + b.length ≤ 100000) : addK (.str a) (.str b) = .ok (.str (a ++ b)) := if_pos hl
theorem eq_no {s w : List Nat} (h : s ∉ NN) (hw : wsIn NN w = true) : (s == w) = false := by
  rw [beq_eq_false_iff_ne]
  rintro rfl
  rw [wsIn_no.mpr h] at hw
  cases hw
theorem late_none {s : List Nat} (h : s ∉ NN) (hs : sc8 s = true) (hl : s.length ≤ 1000) : D173 (.cons (.str s) .nil) = .ok .none := by
  refine retE (F := b173.1) rfl ?_
  unfold b173
  dsimp only
  have e1 : (s.take 1 == ([114] : List Nat)) = true ∨ (s.take 1 == ([114] : List Nat)) = false := by cases (s.take 1 == ([114] : List Nat)) <;> simp
  rcases e1 with e1 | e1
  · refine aN (ρ' := [.str s, .nil, .nil, .nil]) ?_ ?_
    · exact ifN (c := false) (binE (a := .str (s.take 1)) (slTo (by decide) hl) rfl (testE ((ne_str (b := [114]) (sc_take 1 hs) (by decide +kernel)).trans (by rw [e1]; rfl)))) rfl
    have e1' : s.take 1 = [114] := eq_of_beq e1
    obtain ⟨t, rfl⟩ : ∃ t, s = 114 :: t := ⟨s.drop 1, by rw [← List.singleton_append, ← e1']; exact (List.take_append_drop 1 s).symm⟩
    have hl' : t.length + 1 ≤ 1000 := hl
    have turn : ∀ (e fg : List Nat), (NL.all fun f => wsIn NN (114 :: (f ++ e))) = true → (t == fg ++ e) = true → wsIn NL fg = false := by
      intro e fg hn ht
      rw [wsIn_no]
      intro m
      have := List.all_eq_true.mp hn fg m
      rw [← eq_of_beq ht, wsIn_no.mpr h] at this
      cases this
    have hj : ∀ (e : List Nat), e.length ≤ 1 → (0 : Int) ≤ (((114 :: t).length : Nat) : Int) - ((e.length : Nat) : Int) := by
      intro e he
      have : (114 :: t).length = t.length + 1 := rfl
      omega
    have hfl : ∀ (k : Nat), (((114 :: t).take k).drop 1).length ≤ 1000 := fun k => by
      rw [List.length_drop, List.length_take]; omega
    refine aN (ρ' := [.str (114 :: t), .int 8, .str [98], .str (((114 :: t).take ((((114 :: t).length : Nat) : Int) - (([98] : List Nat).length : Int)).toNat).drop 1)]) ?_ ?_
    · refine forN (ρ' := [.str (114 :: t), .int 64, .str [], .str (((114 :: t).take ((((114 :: t).length : Nat) : Int) - (([] : List Nat).length : Int)).toNat).drop 1)]) ?_ ?_
      · refine aN (toN (callE rfl end_64) rfl) ?_
        refine aN (toN (bindE rfl (bindE rfl (bindE (binE (callE rfl (len_str hl)) (callE rfl (len_str (s := []) (by decide))) rfl) (slMid (by decide) (hj _ (by decide)) hl)))) rfl) ?_
        refine aN (ifN (c := false) ?_ rfl) rfl
        cases e2 : (t == (((114 :: t).take ((((114 :: t).length : Nat) : Int) - (([] : List Nat).length : Int)).toNat).drop 1) ++ [])
        · exact andF (binE (a := .str t) (slFrom (by decide) hl) (binE rfl rfl (add_str (by have := hfl ((((114 :: t).length : Nat) : Int) - (([] : List Nat).length : Int)).toNat; have h2 : ([] : List Nat).length ≤ 1 := (by decide); exact Nat.le_trans (Nat.add_le_add this h2) (by decide)))) (testE ((eq_str (sc_drop 1 hs) (sc_app (sc_drop 1 (sc_take _ hs)) (by decide))).trans (congrArg (fun b => R.ok (.bool b)) e2))))
        · refine andT (binE (a := .str t) (slFrom (by decide) hl) (binE rfl rfl (add_str (by have := hfl ((((114 :: t).length : Nat) : Int) - (([] : List Nat).length : Int)).toNat; have h2 : ([] : List Nat).length ≤ 1 := (by decide); exact Nat.le_trans (Nat.add_le_add this h2) (by decide)))) (testE ((eq_str (sc_drop 1 hs) (sc_app (sc_drop 1 (sc_take _ hs)) (by decide))).trans (congrArg (fun b => R.ok (.bool b)) e2)))) ?_
          exact andF (binE rfl rfl (testE ((in_ws (ws := NL) (sc_drop 1 (sc_take _ hs)) (by decide +kernel)).trans (by rw [turn _ _ (by decide +kernel) e2]))))
      refine forN (ρ' := [.str (114 :: t), .int 32, .str [100], .str (((114 :: t).take ((((114 :: t).length : Nat) : Int) - (([100] : List Nat).length : Int)).toNat).drop 1)]) ?_ ?_
      · refine aN (toN (callE rfl end_32) rfl) ?_
        refine aN (toN (bindE rfl (bindE rfl (bindE (binE (callE rfl (len_str hl)) (callE rfl (len_str (s := [100]) (by decide))) rfl) (slMid (by decide) (hj _ (by decide)) hl)))) rfl) ?_
        refine aN (ifN (c := false) ?_ rfl) rfl
        cases e2 : (t == (((114 :: t).take ((((114 :: t).length : Nat) : Int) - (([100] : List Nat).length : Int)).toNat).drop 1) ++ [100])
        · exact andF (binE (a := .str t) (slFrom (by decide) hl) (binE rfl rfl (add_str (by have := hfl ((((114 :: t).length : Nat) : Int) - (([100] : List Nat).length : Int)).toNat; have h2 : ([100] : List Nat).length ≤ 1 := (by decide); exact Nat.le_trans (Nat.add_le_add this h2) (by decide)))) (testE ((eq_str (sc_drop 1 hs) (sc_app (sc_drop 1 (sc_take _ hs)) (by decide))).trans (congrArg (fun b => R.ok (.bool b)) e2))))
        · refine andT (binE (a := .str t) (slFrom (by decide) hl) (binE rfl rfl (add_str (by have := hfl ((((114 :: t).length : Nat) : Int) - (([100] : List Nat).length : Int)).toNat; have h2 : ([100] : List Nat).length ≤ 1 := (by decide); exact Nat.le_trans (Nat.add_le_add this h2) (by decide)))) (testE ((eq_str (sc_drop 1 hs) (sc_app (sc_drop 1 (sc_take _ hs)) (by decide))).trans (congrArg (fun b => R.ok (.bool b)) e2)))) ?_
          exact andF (binE rfl rfl (testE ((in_ws (ws := NL) (sc_drop 1 (sc_take _ hs)) (by decide +kernel)).trans (by rw [turn _ _ (by decide +kernel) e2]))))
      refine forN (ρ' := [.str (114 :: t), .int 16, .str [119], .str (((114 :: t).take ((((114 :: t).length : Nat) : Int) - (([119] : List Nat).length : Int)).toNat).drop 1)]) ?_ ?_
      · refine aN (toN (callE rfl end_16) rfl) ?_
        refine aN (toN (bindE rfl (bindE rfl (bindE (binE (callE rfl (len_str hl)) (callE rfl (len_str (s := [119]) (by decide))) rfl) (slMid (by decide) (hj _ (by decide)) hl)))) rfl) ?_
        refine aN (ifN (c := false) ?_ rfl) rfl
        cases e2 : (t == (((114 :: t).take ((((114 :: t).length : Nat) : Int) - (([119] : List Nat).length : Int)).toNat).drop 1) ++ [119])
        · exact andF (binE (a := .str t) (slFrom (by decide) hl) (binE rfl rfl (add_str (by have := hfl ((((114 :: t).length : Nat) : Int) - (([119] : List Nat).length : Int)).toNat; have h2 : ([119] : List Nat).length ≤ 1 := (by decide); exact Nat.le_trans (Nat.add_le_add this h2) (by decide)))) (testE ((eq_str (sc_drop 1 hs) (sc_app (sc_drop 1 (sc_take _ hs)) (by decide))).trans (congrArg (fun b => R.ok (.bool b)) e2))))
        · refine andT (binE (a := .str t) (slFrom (by decide) hl) (binE rfl rfl (add_str (by have := hfl ((((114 :: t).length : Nat) : Int) - (([119] : List Nat).length : Int)).toNat; have h2 : ([119] : List Nat).length ≤ 1 := (by decide); exact Nat.le_trans (Nat.add_le_add this h2) (by decide)))) (testE ((eq_str (sc_drop 1 hs) (sc_app (sc_drop 1 (sc_take _ hs)) (by decide))).trans (congrArg (fun b => R.ok (.bool b)) e2)))) ?_
          exact andF (binE rfl rfl (testE ((in_ws (ws := NL) (sc_drop 1 (sc_take _ hs)) (by decide +kernel)).trans (by rw [turn _ _ (by decide +kernel) e2]))))
      refine forN (ρ' := [.str (114 :: t), .int 8, .str [98], .str (((114 :: t).take ((((114 :: t).length : Nat) : Int) - (([98] : List Nat).length : Int)).toNat).drop 1)]) ?_ ?_
      · refine aN (toN (callE rfl end_8) rfl) ?_
        refine aN (toN (bindE rfl (bindE rfl (bindE (binE (callE rfl (len_str hl)) (callE rfl (len_str (s := [98]) (by decide))) rfl) (slMid (by decide) (hj _ (by decide)) hl)))) rfl) ?_
        refine aN (ifN (c := false) ?_ rfl) rfl
        cases e2 : (t == (((114 :: t).take ((((114 :: t).length : Nat) : Int) - (([98] : List Nat).length : Int)).toNat).drop 1) ++ [98])
        · exact andF (binE (a := .str t) (slFrom (by decide) hl) (binE rfl rfl (add_str (by have := hfl ((((114 :: t).length : Nat) : Int) - (([98] : List Nat).length : Int)).toNat; have h2 : ([98] : List Nat).length ≤ 1 := (by decide); exact Nat.le_trans (Nat.add_le_add this h2) (by decide)))) (testE ((eq_str (sc_drop 1 hs) (sc_app (sc_drop 1 (sc_take _ hs)) (by decide))).trans (congrArg (fun b => R.ok (.bool b)) e2))))
        · refine andT (binE (a := .str t) (slFrom (by decide) hl) (binE rfl rfl (add_str (by have := hfl ((((114 :: t).length : Nat) : Int) - (([98] : List Nat).length : Int)).toNat; have h2 : ([98] : List Nat).length ≤ 1 := (by decide); exact Nat.le_trans (Nat.add_le_add this h2) (by decide)))) (testE ((eq_str (sc_drop 1 hs) (sc_app (sc_drop 1 (sc_take _ hs)) (by decide))).trans (congrArg (fun b => R.ok (.bool b)) e2)))) ?_
          exact andF (binE rfl rfl (testE ((in_ws (ws := NL) (sc_drop 1 (sc_take _ hs)) (by decide +kernel)).trans (by rw [turn _ _ (by decide +kernel) e2]))))
      rfl
    rfl
  · exact aR (X := _) (ifN (c := true) (binE (a := .str (s.take 1)) (slTo (by decide) hl) rfl (testE ((ne_str (b := [114]) (sc_take 1 hs) (by decide +kernel)).trans (by rw [e1]; rfl)))) rfl)
theorem find_none {s : List Nat} (h : s ∉ NN) (hs : sc8 s = true) (hl : s.length ≤ 1000) : D180 (.cons (.str s) .nil) = .ok .none := by
  refine retE (F := b180.1) rfl ?_
  unfold b180
  dsimp only
  refine aN (ρ' := [.str s, .int 8, .lst (strsR N8)]) ?_ ?_
  · refine forN (ρ' := [.str s, .int 64, .lst (strsR N64)]) ?_ ?_
    · refine aN (toN (callE rfl early_64) rfl) ?_
      exact aN (ifN (binE rfl rfl (testE ((in_ws hs (by decide +kernel)).trans (by rw [no_sub h N64 (by decide +kernel)])))) rfl) rfl
    refine forN (ρ' := [.str s, .int 32, .lst (strsR N32)]) ?_ ?_
    · refine aN (toN (callE rfl early_32) rfl) ?_
      exact aN (ifN (binE rfl rfl (testE ((in_ws hs (by decide +kernel)).trans (by rw [no_sub h N32 (by decide +kernel)])))) rfl) rfl
    refine forN (ρ' := [.str s, .int 16, .lst (strsR N16)]) ?_ ?_
    · refine aN (toN (callE rfl early_16) rfl) ?_
      exact aN (ifN (binE rfl rfl (testE ((in_ws hs (by decide +kernel)).trans (by rw [no_sub h N16 (by decide +kernel)])))) rfl) rfl
    refine forN (ρ' := [.str s, .int 8, .lst (strsR N8)]) ?_ rfl
    · refine aN (toN (callE rfl early_8) rfl) ?_
      exact aN (ifN (binE rfl rfl (testE ((in_ws hs (by decide +kernel)).trans (by rw [no_sub h N8 (by decide +kernel)])))) rfl) rfl
  refine aN (ifN (binE rfl rfl (testE ((in_ws (ws := NH) hs (by decide +kernel)).trans (by rw [no_sub h NH (by decide +kernel)])))) rfl) ?_
  refine aN (ρ' := [.str s, .int 8, .lst (strsR N8)]) ?_ ?_
  · refine ifN (c := false) ?_ rfl
    cases e1 : (s.take 3 == kX)
    · exact andF (binE (a := .str (s.take 3)) (slTo (by decide) hl) rfl (testE ((eq_str (b := kX) (sc_take 3 hs) (by decide +kernel)).trans (by rw [e1]))))
    · refine andT (binE (a := .str (s.take 3)) (slTo (by decide) hl) rfl (testE ((eq_str (b := kX) (sc_take 3 hs) (by decide +kernel)).trans (by rw [e1])))) ?_
      refine andF (binE (a := .str (s.drop 3)) (slFrom (by decide) hl) rfl (testE ((in_ws (ws := NX) (sc_drop 3 hs) (by decide +kernel)).trans ?_)))
      have : wsIn NX (s.drop 3) = false := by
        rw [wsIn_no]
        intro m
        have q : (NX.all fun f => wsIn NN (kX ++ f)) = true := by decide +kernel
        have := List.all_eq_true.mp q _ m
        rw [← eq_of_beq e1, List.take_append_drop, wsIn_no.mpr h] at this
        cases this
      rw [this]
  refine aN (ifN (c := false) (binE rfl rfl (testE ((eq_str (b := kR) hs (by decide +kernel)).trans (by rw [eq_no h (by decide +kernel)])))) rfl) ?_
  refine aN (ifN (c := false) (binE rfl rfl (testE ((in_wt (ws := [[102, 115], [103, 115]]) hs (by decide +kernel)).trans (by rw [no_sub h _ (by decide +kernel)])))) rfl) ?_
  exact aR (toN (callE rfl (late_none h hs hl)) rfl)
end Mine
end

/-! ## Q4 -/
section
open PySem PySem.W PyProof.Rows PySem.Calls PySem.SeqAt
set_option maxRecDepth 100000
set_option maxHeartbeats 4000000
set_option linter.unusedVariables false
namespace Mine

theorem rowC {f : ED} {fs : List ED} {ρ : List PV} {a r : PV} (h : f ρ = .ok a) (h2 : rowD fs ρ = .ok r) : rowD (f :: fs) ρ = .ok (.cons a r) := by
  rw [rowD, h]; show (rowD fs ρ).bind _ = _; rw [h2]; rfl
theorem tupE {fs : List ED} {ρ : List PV} {r : PV} (h : rowD fs ρ = .ok r) : tupD fs ρ = .ok (.tup r) := by unfold tupD; rw [h]; rfl
theorem lstE {fs : List ED} {ρ : List PV} {r : PV} (h : rowD fs ρ = .ok r) : lstD fs ρ = .ok (.lst r) := by unfold lstD; rw [h]; rfl
theorem unpE {k : Nat} {is : List Nat} {f : ED} {F : List Nat → List PV → List PV → List PV} {ρ : List PV} {r : PV} {q : FR} (h : f ρ = .ok (.tup r)) (hk : r.len = k) (h2 : FR.next (F is r.items ρ) = q) : unpackD k is f F ρ = q := by
  unfold unpackD; rw [h]; show (if r.len = k then _ else _) = _; rw [if_pos hk]; exact h2
theorem testI {e : R} {K : Bool → R} {c : Bool} {r : R} (h : e = .ok (.bool c)) (h2 : K c = r) : e.test K = r := by rw [h]; exact h2
theorem modN {a b : Int} (hb : 0 < b) : modK (.int a) (.int b) = .ok (.int (a % b)) := by
  show (if b = 0 then R.stuck else .ok (.int (a.fmod b))) = _
  rw [if_neg (by omega), Int.fmod_eq_emod_of_nonneg _ (by omega)]
theorem divN {a b : Int} (hb : 0 < b) (h2 : b < 1073741824) : divK (.int a) (.int b) = .ok (.int (a / b)) := by
  show (if b = 0 ∨ 1073741824 ≤ b.natAbs then R.stuck else .ok (.int (a.fdiv b))) = _
  rw [if_neg (by omega), Int.fdiv_eq_ediv_of_nonneg _ (by omega)]
theorem itemStr {s : List Nat} {i : Int} {x : Nat} (h0 : 0 ≤ i) (h1 : i < 1000000) (h : s[i.toNat]? = some x) : itemK (.str s) (.int i) = .ok (.str [x]) := by
  show (if 0 ≤ i ∧ i < 1000000 then (match s[i.toNat]? with | some x => R.ok (.str [x]) | Option.none => .stuck) else .stuck) = _
  rw [if_pos ⟨h0, h1⟩, h]
theorem itemLst {s : PV} {i : Int} {x : PV} (h0 : 0 ≤ i) (h1 : i < 1000000) (h : s.nth i.toNat = some x) : itemK (.lst s) (.int i) = .ok x := by
  show (if 0 ≤ i ∧ i < 1000000 then (match s.nth i.toNat with | some x => R.ok x | Option.none => .stuck) else .stuck) = _
  rw [if_pos ⟨h0, h1⟩, h]
theorem eq_int {a b : Int} : eqK (.int a) (.int b) = .ok (.bool (a == b)) := rfl
noncomputable def LT : List Nat := [114, 97, 120, 108, 48, 49, 53, 56, 104, 100, 119, 98, 112, 115, 105, 32, 109, 88, 82]
theorem bent_ok {n : List Nat} (hn : sc8 n = true) (hl : n.length ≤ 10) (q : Int) : ∃ s, D263 (.cons (.str n) (.cons (.int q) .nil)) = .ok (.str s) ∧ sc8 s = true ∧ s.length ≤ 1000 := by
  have g0 : 0 ≤ (q / 16) % 19 := Int.emod_nonneg _ (by decide)
  have g1 : (q / 16) % 19 < 19 := Int.emod_lt_of_pos _ (by decide)
  have s0 : 0 ≤ q % ((n.length : Int) + 1) := Int.emod_nonneg _ (by omega)
  obtain ⟨x, hx⟩ : ∃ x, LT[((q / 16) % 19).toNat]? = some x := by
    have : ((q / 16) % 19).toNat < LT.length := by show _ < 19; omega
    exact ⟨_, List.getElem?_eq_getElem this⟩
  have hxs : sc8 [x] = true := by
    have : sc8 LT = true := by decide +kernel
    have := List.all_eq_true.mp this x (List.mem_of_getElem? hx)
    simpa using this
  have mid : ∃ m, (if (q / 304 % 3 == (0 : Int)) = true then R.ok (PV.str []) else R.ok (.str [x])) = .ok (.str m) ∧ sc8 m = true ∧ m.length ≤ 1 := by
    cases (q / 304 % 3 == (0 : Int))
    · exact ⟨[x], rfl, hxs, by simp⟩
    · exact ⟨[], rfl, rfl, by simp⟩
  obtain ⟨m, hm, hms, hml⟩ := mid
  have off : ∃ d : Int, (if (q / 304 % 3 == (1 : Int)) = true then R.ok (PV.int 0) else R.ok (.int 1)) = .ok (.int d) ∧ 0 ≤ d := by
    cases (q / 304 % 3 == (1 : Int))
    · exact ⟨1, rfl, by decide⟩
    · exact ⟨0, rfl, by decide⟩
  obtain ⟨d, hd, hd0⟩ := off
  have l1 : (n.take (q % ((n.length : Int) + 1)).toNat).length ≤ 10 := by rw [List.length_take]; omega
  have l2 : (n.drop (q % ((n.length : Int) + 1) + d).toNat).length ≤ 10 := by rw [List.length_drop]; omega
  refine ⟨(n.take (q % ((n.length : Int) + 1)).toNat ++ m) ++ n.drop (q % ((n.length : Int) + 1) + d).toNat, retE (F := b263.1) rfl ?_, sc_app (sc_app (sc_take _ hn) hms) (sc_drop _ hn), by rw [List.length_append, List.length_append]; omega⟩
  unfold b263
  dsimp only
  refine aN (ρ' := [.str n, .int q, .int (q % ((n.length : Int) + 1)), .str [x], .nil]) ?_ ?_
  · refine unpE (tupE (rowC (binE rfl (binE (callE rfl (len_str (by omega))) rfl rfl) (modN (by omega))) (rowC (binE rfl (binE (binE rfl rfl (divN (by decide) (by decide))) rfl (modN (by decide))) (itemStr (s := LT) g0 (by omega) hx)) rfl))) rfl rfl
  refine aN (toN (binE (binE rfl rfl (divN (by decide) (by decide))) rfl (modN (by decide))) rfl) ?_
  refine aR (toN (binE (binE (bindE rfl (bindE rfl (slTo s0 (by omega)))) (testI (binE rfl rfl (testE eq_int)) hm) (add_str (by omega))) (bindE rfl (bindE (binE rfl (testI (binE rfl rfl (testE eq_int)) hd) rfl) (slFrom (by omega) (by omega)))) (add_str (by rw [List.length_append]; omega))) rfl)
end Mine
end

/-! ## Q5 -/
section
open PySem PySem.W PyProof.Rows PySem.Calls PySem.SeqAt
set_option maxRecDepth 100000
set_option maxHeartbeats 4000000
set_option linter.unusedVariables false
namespace Mine
noncomputable def isX : R → Bool
  | .exc => true
  | _ => false
theorem isX_eq {r : R} (h : isX r = true) : r = .exc := by
  cases r with
  | exc => rfl
  | _ => cases h
theorem refE {is : List Nat} {fe : ED} {ρ : List PV} (h : fe (capt is ρ) = .exc) : refD is fe ρ = .ok (.bool true) := by unfold refD; rw [h]
theorem odd_num (q : Int) : ∃ p : Int, itemK (.lst (.cons (.int (-1)) (.cons (.int 16) (.cons (.int 17) (.cons (.int (2 ^ 40)) .nil))))) (.int (q % 4)) = .ok (.int p) ∧ D131 (.cons (.int p) (.cons (.int 64) .nil)) = .exc ∧ D152 (.cons (.int p) .nil) = .exc := by
  rcases (show q % 4 = 0 ∨ q % 4 = 1 ∨ q % 4 = 2 ∨ q % 4 = 3 by omega) with h | h | h | h <;> rw [h]
  · exact ⟨-1, rfl, isX_eq (by kernel_rfl), isX_eq (by kernel_rfl)⟩
  · exact ⟨16, rfl, isX_eq (by kernel_rfl), isX_eq (by kernel_rfl)⟩
  · exact ⟨17, rfl, isX_eq (by kernel_rfl), isX_eq (by kernel_rfl)⟩
  · exact ⟨2 ^ 40, rfl, isX_eq (by kernel_rfl), isX_eq (by kernel_rfl)⟩
theorem odd_size (q : Int) : ∃ p : Int, itemK (.lst (.cons (.int 7) (.cons (.int 128) (.cons (.int 0) (.cons (.int (-8)) (.cons (.int 65) .nil)))))) (.int (q % 5)) = .ok (.int p) ∧ D131 (.cons (.int 3) (.cons (.int p) .nil)) = .exc := by
  rcases (show q % 5 = 0 ∨ q % 5 = 1 ∨ q % 5 = 2 ∨ q % 5 = 3 ∨ q % 5 = 4 by omega) with h | h | h | h | h <;> rw [h]
  · exact ⟨7, rfl, isX_eq (by kernel_rfl)⟩
  · exact ⟨128, rfl, isX_eq (by kernel_rfl)⟩
  · exact ⟨0, rfl, isX_eq (by kernel_rfl)⟩
  · exact ⟨-8, rfl, isX_eq (by kernel_rfl)⟩
  · exact ⟨65, rfl, isX_eq (by kernel_rfl)⟩
theorem odd_high (q : Int) : ∃ p : Int, itemK (.lst (.cons (.int 3) (.cons (.int 8) (.cons (.int (-4)) (.cons (.int 0) .nil))))) (.int (q % 4)) = .ok (.int p) ∧ D138 (.cons (.int p) .nil) = .exc := by
  rcases (show q % 4 = 0 ∨ q % 4 = 1 ∨ q % 4 = 2 ∨ q % 4 = 3 by omega) with h | h | h | h <;> rw [h]
  · exact ⟨3, rfl, isX_eq (by kernel_rfl)⟩
  · exact ⟨8, rfl, isX_eq (by kernel_rfl)⟩
  · exact ⟨-4, rfl, isX_eq (by kernel_rfl)⟩
  · exact ⟨0, rfl, isX_eq (by kernel_rfl)⟩
theorem odd_seg (q : Int) : ∃ p : List Nat, itemK (.lst (.cons (.str ("es" : Str).cps.toList) (.cons (.str ("cs" : Str).cps.toList) (.cons (.str ("" : Str).cps.toList) (.cons (.str ("FS" : Str).cps.toList) (.cons (.str ("rax" : Str).cps.toList) .nil)))))) (.int (q % 5)) = .ok (.str p) ∧ D166 (.cons (.str p) .nil) = .exc := by
  rcases (show q % 5 = 0 ∨ q % 5 = 1 ∨ q % 5 = 2 ∨ q % 5 = 3 ∨ q % 5 = 4 by omega) with h | h | h | h | h <;> rw [h]
  · exact ⟨_, rfl, isX_eq (by kernel_rfl)⟩
  · exact ⟨_, rfl, isX_eq (by kernel_rfl)⟩
  · exact ⟨_, rfl, isX_eq (by kernel_rfl)⟩
  · exact ⟨_, rfl, isX_eq (by kernel_rfl)⟩
  · exact ⟨_, rfl, isX_eq (by kernel_rfl)⟩
theorem odd_ok (q : Int) : D270 (.cons (.int q) .nil) = .ok (.bool true) := by
  obtain ⟨p, hp, hp1, hp2⟩ := odd_num q
  obtain ⟨z, hz, hz1⟩ := odd_size (q / 4)
  obtain ⟨w, hw, hw1⟩ := odd_high q
  obtain ⟨t, ht, ht1⟩ := odd_seg q
  refine retE (F := b270.1) rfl ?_
  unfold b270
  dsimp only
  refine aN (toN (binE (lstE (rowC rfl (rowC rfl (rowC rfl (rowC rfl rfl))))) (binE rfl rfl (modN (by decide))) hp) rfl) ?_
  refine aN (toN (binE (lstE (rowC rfl (rowC rfl (rowC rfl (rowC rfl (rowC rfl rfl)))))) (binE (binE rfl rfl (divN (by decide) (by decide))) rfl (modN (by decide))) hz) rfl) ?_
  refine aN (ifN (c := false) (orF (notE (refE (callE rfl hp1))) (orF (notE (refE (callE rfl hz1))) (orF (notE (refE (callE rfl hp2))) rfl))) rfl) ?_
  refine aR (toN (andT (refE (callE (rowC (binE (lstE (rowC rfl (rowC rfl (rowC rfl (rowC rfl rfl))))) (binE rfl rfl (modN (by decide))) hw) rfl) hw1)) (refE (callE (rowC (binE (lstE (rowC rfl (rowC rfl (rowC rfl (rowC rfl (rowC rfl rfl)))))) (binE rfl rfl (modN (by decide))) ht) rfl) ht1))) rfl)
end Mine
end

/-! ## Q6 -/
section
open PySem PySem.W PyProof.Rows PySem.Calls PySem.SeqAt
set_option maxRecDepth 100000
set_option maxHeartbeats 4000000
set_option linter.unusedVariables false
namespace Mine
noncomputable def TR.hk (t : TR) : List Nat := if t.k == kH then kG else t.k
noncomputable def TR.hm (t : TR) : Int := if t.k == kH then (t.m : Int) - 4 else t.m
noncomputable def TR.home (t : TR) : PV := .tup (.cons (.str t.hk) (.cons (.int t.hm) .nil))
noncomputable def TR.gh (t : TR) : Bool := wsIn [kG, kH] t.k
noncomputable def TR.plain (t : TR) : Bool := sc8 t.n && sc8 t.k && sc8 t.hk && decide (t.n.length ≤ 10) && decide (t.o.length ≤ 16)
noncomputable def isNum (r : R) (w : Int) : Bool := match r with | .ok (.reg _ _ v _) => v == w | _ => false
theorem isNum_eq {r : R} {w : Int} (h : isNum r w = true) : ∃ n k z, r = .ok (.reg n k w z) := by
  cases r with
  | ok p =>
    cases p with
    | reg n k v z => exact ⟨n, k, z, by rw [show v = w from eq_of_beq h]⟩
    | _ => cases h
  | _ => cases h
theorem plain_t : ∀ t ∈ TB, t.plain = true := all8 (by decide +kernel) (by decide +kernel) (by decide +kernel) (by decide +kernel) (by decide +kernel) (by decide +kernel) (by decide +kernel) (by decide +kernel)
theorem home_t : ∀ t ∈ TB, isR (D225 (.cons t.pv .nil)) t.home = true := all8 (by decide +kernel) (by decide +kernel) (by decide +kernel) (by decide +kernel) (by decide +kernel) (by decide +kernel) (by decide +kernel) (by decide +kernel)
theorem whole_t : ∀ t ∈ TB, (!t.gh || isNum (D194 (.cons t.reg .nil)) t.hm) = true := all8 (by decide +kernel) (by decide +kernel) (by decide +kernel) (by decide +kernel) (by decide +kernel) (by decide +kernel) (by decide +kernel) (by decide +kernel)

/-! ### octets in common -/
theorem inR_is {a : Int} : ∀ (l : List Nat), inR (.int a) (intsR l) = some (l.any fun w => ((w : Int) == a))
  | [] => rfl
  | w :: r => by
    show (match some ((w : Int) == a) with | some true => some true | some false => inR (.int a) (intsR r) | none => none) = some (((w : Int) == a) || r.any fun w => ((w : Int) == a))
    cases h : ((w : Int) == a)
    · exact inR_is r
    · rfl
theorem flat_is : ∀ (l : List Nat), flat (intsR l) = true
  | [] => rfl
  | w :: r => flat_is r
theorem in_is {a : Int} {l : List Nat} : inK (.int a) (.lst (intsR l)) = .ok (.bool (l.any fun w => ((w : Int) == a))) := by
  unfold inK inD
  simp only [scal, flat_is, Bool.and_self, if_true, inR_is]
noncomputable def TR.both (t u : TR) : List Nat := t.o.filter fun (i : Nat) => u.o.any fun w => ((w : Int) == (i : Int))
theorem collect_both {ft fe : ED} {c : List PV} {o : List Nat} (ht : ∀ i : Nat, ft (.int i :: c) = .ok (.bool (o.any fun w => ((w : Int) == (i : Int))))) (he : ∀ i : Nat, fe (.int i :: c) = .ok (.int i)) :
    ∀ l : List Nat, collect ft fe c (l.map fun (i : Nat) => PV.int (i : Int)) = some ((l.filter fun (i : Nat) => o.any fun w => ((w : Int) == (i : Int))).map fun (i : Nat) => PV.int (i : Int))
  | [] => rfl
  | i :: l => by
    show (match ft (.int i :: c) with | .ok (.bool true) => (match fe (.int i :: c) with | .ok y => (collect ft fe c (l.map fun (i : Nat) => PV.int (i : Int))).map (y :: ·) | _ => none) | .ok (.bool false) => collect ft fe c (l.map fun (i : Nat) => PV.int (i : Int)) | _ => none) = _
    rw [ht, he, collect_both ht he l, List.filter_cons]
    cases (o.any fun w => ((w : Int) == (i : Int))) <;> rfl
theorem items_of : ∀ l : List PV, (ofItems l).items = l
  | [] => rfl
  | x :: r => congrArg (x :: ·) (items_of r)
theorem compE {fi ft fe : ED} {is : List Nat} {ρ : List PV} {p : PV} {qs : List PV} (h : fi ρ = .ok p) (h2 : collect ft fe (capt is ρ) p.items = some qs) : compD fi ft fe is ρ = .ok (.lst (ofItems qs)) := by
  unfold compD; rw [h]; show (match collect ft fe (capt is ρ) p.items with | some qs => R.ok (.lst (ofItems qs)) | none => .stuck) = _; rw [h2]
theorem seqL {f : ED} {ρ : List PV} {r : PV} (h : f ρ = .ok (.lst r)) (hl : r.items.length ≤ 1000) : seqI f ρ = .ok r := by
  unfold seqI; rw [h]; exact if_pos hl
theorem asgE {i : Nat} {f : ED} {ρ : List PV} {r : PV} {q : FR} (h : f ρ = .ok (.lst r)) (h2 : FR.next (setV i (.lst r) ρ) = q) : asgD false i f ρ = q := by
  unfold asgD; rw [h]; exact h2
theorem ne_nil (l : List Nat) : neK (.lst (intsR l)) (.lst .nil) = .ok (.bool !l.isEmpty) := by
  show (match (if (flat (intsR l) && true) = true then eqR (intsR l) .nil else none) with | some c => R.ok (.bool !c) | none => .stuck) = _
  rw [flat_is]
  cases l <;> rfl
theorem eq_home {t u : TR} (ht : sc8 t.hk = true) (hu : sc8 u.hk = true) : eqK t.home u.home = .ok (.bool (t.hk == u.hk && t.hm == u.hm)) := by
  show (match (if ((sc8 t.hk && true) && (sc8 u.hk && true)) = true then eqR (.cons (.str t.hk) (.cons (.int t.hm) .nil)) (.cons (.str u.hk) (.cons (.int u.hm) .nil)) else none) with | some c => R.ok (.bool c) | none => .stuck) = _
  rw [ht, hu]
  show (match (match some (t.hk == u.hk) with | some true => (match some (t.hm == u.hm) with | some true => some true | some false => some false | none => none) | some false => some false | none => none) with | some c => R.ok (.bool c) | none => .stuck) = _
  cases t.hk == u.hk <;> cases t.hm == u.hm <;> rfl
theorem ne_bool {a b : Bool} : neK (.bool a) (.bool b) = .ok (.bool !(a == b)) := rfl
theorem ne_int {a b : Int} : neK (.int a) (.int b) = .ok (.bool !(a == b)) := rfl

/-! ### overlaps -/
noncomputable def TR.ov (t u : TR) : Bool :=
  if t.gh && u.gh then (if t.hm == u.hm then (if (t.z : Int) == 8 && (u.z : Int) == 8 then t.k == u.k else true) else false)
  else t.k == u.k && (t.m : Int) == (u.m : Int)
theorem plain_n {t : TR} (h : t ∈ TB) : sc8 t.n = true ∧ sc8 t.k = true ∧ sc8 t.hk = true ∧ t.n.length ≤ 10 ∧ t.o.length ≤ 16 := by
  have := plain_t t h
  unfold TR.plain at this
  simp only [Bool.and_eq_true, decide_eq_true_eq] at this
  exact ⟨this.1.1.1.1, this.1.1.1.2, this.1.1.2, this.1.2, this.2⟩
theorem whole_n {t : TR} (h : t ∈ TB) (hg : t.gh = true) : ∃ n k z, D194 (.cons t.reg .nil) = .ok (.reg n k t.hm z) := by
  have := whole_t t h
  rw [hg] at this
  exact isNum_eq this
theorem over_ok {t u : TR} (ht : t ∈ TB) (hu : u ∈ TB) : D208 (.cons t.reg (.cons u.reg .nil)) = .ok (.bool (t.ov u)) := by
  obtain ⟨t1, t2, t3, t4, t5⟩ := plain_n ht
  obtain ⟨u1, u2, u3, u4, u5⟩ := plain_n hu
  refine retE (F := b208.1) rfl ?_
  unfold b208
  dsimp only
  have kt : inK (.str t.k) (.tup (strsR [kG, kH])) = .ok (.bool t.gh) := in_wt t2 (by decide +kernel)
  have ku : inK (.str u.k) (.tup (strsR [kG, kH])) = .ok (.bool u.gh) := in_wt u2 (by decide +kernel)
  have last : ∀ x : Bool, t.ov u = (t.k == u.k && (t.m : Int) == (u.m : Int)) → andD (bin (un (varD 0) (fldK Fld.kind)) (un (varD (0 + 1)) (fldK Fld.kind)) eqK)
              (bin (un (varD 0) (fldK Fld.number)) (un (varD (0 + 1)) (fldK Fld.number)) eqK) [t.reg, u.reg] = .ok (.bool (t.ov u)) := by
    intro _ e
    rw [e]
    cases hk : t.k == u.k
    · exact andF (binE rfl rfl ((eq_str t2 u2).trans (congrArg (fun b => R.ok (.bool b)) hk)))
    · exact andT (binE rfl rfl ((eq_str t2 u2).trans (congrArg (fun b => R.ok (.bool b)) hk))) (binE rfl rfl eq_int)
  cases gt : t.gh
  · rw [gt] at kt
    refine aN (ρ' := [t.reg, u.reg]) (ifN (c := false) (andF (binE rfl (tupE (rowC rfl (rowC rfl rfl))) (testE kt))) rfl) ?_
    exact aR (toN (last true (by unfold TR.ov; rw [gt]; rfl)) rfl)
  · rw [gt] at kt
    cases gu : u.gh
    · rw [gu] at ku
      refine aN (ρ' := [t.reg, u.reg]) (ifN (c := false) (andT (binE rfl (tupE (rowC rfl (rowC rfl rfl))) (testE kt)) (andF (binE rfl (tupE (rowC rfl (rowC rfl rfl))) (testE ku)))) rfl) ?_
      exact aR (toN (last true (by unfold TR.ov; rw [gt, gu]; rfl)) rfl)
    · rw [gu] at ku
      obtain ⟨n1, k1, z1, w1⟩ := whole_n ht gt
      obtain ⟨n2, k2, z2, w2⟩ := whole_n hu gu
      refine aR (ifN (c := true) (andT (binE rfl (tupE (rowC rfl (rowC rfl rfl))) (testE kt)) (andT (binE rfl (tupE (rowC rfl (rowC rfl rfl))) (testE ku)) rfl)) ?_)
      have hun : ∀ {f : ED} {x : Fld} {n k : List Nat} {m z : Int}, f [t.reg, u.reg] = .ok (.reg n k m z) → x = .number → un f (fldK x) [t.reg, u.reg] = .ok (.int m) := by
        rintro f x n k m z h rfl
        unfold un; rw [h]; rfl
      cases hm : t.hm == u.hm
      · have e : t.ov u = false := by unfold TR.ov; rw [gt, gu, hm]; rfl
        rw [e]
        exact aR (ifN (c := true) (binE (hun (callE rfl w1) rfl) (hun (callE rfl w2) rfl) (testE (ne_int.trans (by rw [hm]; rfl)))) rfl)
      · refine aN (ρ' := [t.reg, u.reg]) (ifN (c := false) (binE (hun (callE rfl w1) rfl) (hun (callE rfl w2) rfl) (testE (ne_int.trans (by rw [hm]; rfl)))) rfl) ?_
        cases a : ((t.z : Int) == 8)
        · have e : t.ov u = true := by unfold TR.ov; rw [gt, gu, hm, a]; rfl
          rw [e]
          exact aN (ρ' := [t.reg, u.reg]) (ifN (c := false) (andF (binE rfl rfl (testE (eq_int.trans (by rw [a]))))) rfl) rfl
        · cases b : ((u.z : Int) == 8)
          · have e : t.ov u = true := by unfold TR.ov; rw [gt, gu, hm, a, b]; rfl
            rw [e]
            exact aN (ρ' := [t.reg, u.reg]) (ifN (c := false) (andT (binE rfl rfl (testE (eq_int.trans (by rw [a])))) (andF (binE rfl rfl (testE (eq_int.trans (by rw [b])))))) rfl) rfl
          · have e : t.ov u = (t.k == u.k) := by unfold TR.ov; rw [gt, gu, hm, a, b]; rfl
            rw [e]
            exact aR (ifN (c := true) (andT (binE rfl rfl (testE (eq_int.trans (by rw [a])))) (andT (binE rfl rfl (testE (eq_int.trans (by rw [b])))) rfl)) (aR (toN (binE rfl rfl (eq_str t2 u2)) rfl)))

/-! ### the pairs -/
noncomputable def TR.due (t u : TR) : Bool := (t.hk == u.hk && t.hm == u.hm) && !(t.both u).isEmpty
noncomputable def TR.pairOk (t u : TR) : Bool := t.ov u == t.due u && u.ov t == t.due u
theorem pairs_t : ∀ t ∈ TB, (TB.all fun u => t.pairOk u) = true := all8 (by decide +kernel) (by decide +kernel) (by decide +kernel) (by decide +kernel) (by decide +kernel) (by decide +kernel) (by decide +kernel) (by decide +kernel)
end Mine
end

/-! ## Q7 -/
section
open PySem PySem.W PyProof.Rows PySem.Calls PySem.SeqAt
set_option maxRecDepth 100000
set_option maxHeartbeats 4000000
set_option linter.unusedVariables false
namespace Mine
theorem same_none (t : TR) : D187 (.cons t.reg (.cons .none .nil)) = .ok (.bool false) := by kernel_rfl
theorem same_none2 : D187 (.cons .none (.cons .none .nil)) = .ok (.bool true) := by kernel_rfl
theorem same_ok {t u : TR} (ht : sc8 t.n = true) (hu : sc8 u.n = true) : D187 (.cons t.reg (.cons u.reg .nil)) = .ok (.bool (t.n == u.n)) := by
  refine retE (F := b187.1) rfl ?_
  unfold b187
  dsimp only
  refine aN (ρ' := [t.reg, u.reg]) (ifN (c := false) (by rfl) rfl) ?_
  exact aR (toN (binE rfl rfl (eq_str ht hu)) rfl)
theorem intsR_items (l : List Nat) : (intsR l).items = l.map fun (i : Nat) => PV.int (i : Int) := items_of _
theorem find_ok {t : TR} (h : t ∈ TB) : D180 (.cons (.str t.n) .nil) = .ok t.reg := isR_eq (find_t t h)
theorem pair_ok {t u : TR} (ht : t ∈ TB) (hu : u ∈ TB) : D249 (.cons t.pv (.cons u.pv .nil)) = .ok (.bool true) := by
  obtain ⟨t1, t2, t3, t4, t5⟩ := plain_n ht
  obtain ⟨u1, u2, u3, u4, u5⟩ := plain_n hu
  have hp : t.ov u = t.due u ∧ u.ov t = t.due u := by
    have := List.all_eq_true.mp (pairs_t t ht) u hu
    unfold TR.pairOk at this
    simp only [Bool.and_eq_true, beq_iff_eq] at this
    exact this
  refine retE (F := b249.1) rfl ?_
  unfold b249
  dsimp only
  refine aN (ρ' := [t.pv, u.pv, t.reg, u.reg, .nil, .nil]) ?_ ?_
  · exact unpE (tupE (rowC (callE (rowC (binE (a := t.pv) rfl rfl rfl) rfl) (find_ok ht)) (rowC (callE (rowC (binE (a := u.pv) rfl rfl rfl) rfl) (find_ok hu)) rfl))) rfl rfl
  refine aN (ρ' := [t.pv, u.pv, t.reg, u.reg, .lst (intsR (t.both u)), .nil]) ?_ ?_
  · refine asgE (compE (seqL (r := intsR t.o) (binE (a := t.pv) rfl rfl rfl) (by rw [intsR_items, List.length_map]; omega)) ?_) rfl
    rw [intsR_items]
    exact collect_both (o := u.o) (fun i => binE rfl (binE (a := u.pv) rfl rfl rfl) (testE in_is)) (fun i => rfl) t.o
  refine aN (ρ' := [t.pv, u.pv, t.reg, u.reg, .lst (intsR (t.both u)), .bool (t.due u)]) ?_ ?_
  · refine toN (p := .bool (t.due u)) ?_ rfl
    have h1 : eqK t.home u.home = _ := eq_home t3 u3
    unfold TR.due
    cases e : (t.hk == u.hk && t.hm == u.hm)
    · rw [e] at h1
      exact andF (binE (callE rfl (isR_eq (home_t t ht))) (callE rfl (isR_eq (home_t u hu))) h1)
    · rw [e] at h1
      exact andT (binE (callE rfl (isR_eq (home_t t ht))) (callE rfl (isR_eq (home_t u hu))) h1) (binE rfl (lstE rfl) (ne_nil _))
  have o1 := over_ok ht hu
  have o2 := over_ok hu ht
  rw [hp.1] at o1
  rw [hp.2] at o2
  have nb : neK (.bool (t.due u)) (.bool (t.due u)) = .ok (.bool false) := ne_bool.trans (by rw [beq_self_eq_true]; rfl)
  refine aN (ρ' := [t.pv, u.pv, t.reg, u.reg, .lst (intsR (t.both u)), .bool (t.due u)]) (ifN (c := false) (orF (binE (callE rfl o1) rfl (testE nb)) (orF (binE (callE rfl o2) rfl (testE nb)) rfl)) rfl) ?_
  refine aN (ρ' := [t.pv, u.pv, t.reg, u.reg, .lst (intsR (t.both u)), .bool (t.due u)]) (ifN (c := false) (orF (testE (callE rfl (same_none t))) (orF (notE (callE rfl same_none2)) rfl)) rfl) ?_
  refine aR (toN (binE (callE rfl (same_ok t1 u1)) (binE (binE (a := t.pv) rfl rfl rfl) (binE (a := u.pv) rfl rfl rfl) (eq_str t1 u1)) (b := .bool (t.n == u.n)) (r := .ok (.bool true)) ?_) rfl)
  show R.ok (.bool ((t.n == u.n) == (t.n == u.n))) = _
  rw [beq_self_eq_true]
end Mine
end

/-! ## Q8 -/
section
open PySem PySem.W PyProof.Rows PySem.Calls PySem.SeqAt
set_option maxRecDepth 100000
set_option maxHeartbeats 4000000
set_option linter.unusedVariables false
namespace Mine

/-! ### rows of all of a size -/
noncomputable def FT : ED := andD (bin (bin (varD 0) (fun x => R.ok (PV.int 3)) itemK) (varD (0 + 1)) fun a b => (eqK a b).test fun c => R.ok (PV.bool c))
  (andD (bin (bin (varD 0) (fun x => R.ok (PV.int 1)) itemK) (tupD [fun x => R.ok (PV.str ("gpr" : Str).cps.toList), fun x => R.ok (PV.str ("high" : Str).cps.toList), fun x => R.ok (PV.str ("xmm" : Str).cps.toList)]) fun a b => (inK a b).test fun c => R.ok (PV.bool c)) (boolD true))
noncomputable def FE : ED := bin (varD 0) (fun x => R.ok (PV.int 0)) itemK
noncomputable def SZ (z : Nat) : List TR := TB.filter fun t => t.z == z && wsIn [kG, kH, kX] t.k
noncomputable def strN (ts : List TR) : List PV := ts.map fun t => PV.str t.n
noncomputable def isC (c : Option (List PV)) (l : List PV) : Bool := match c with | some qs => eqPV (ofItems qs) (ofItems l) | none => false
theorem isC_eq {c : Option (List PV)} {l : List PV} (h : isC c l = true) : c = some l := by
  cases c with
  | none => cases h
  | some qs =>
    have := congrArg PV.items (eqPV_eq (a := ofItems qs) (b := ofItems l) h)
    rw [items_of, items_of] at this
    rw [this]
noncomputable def isB (r : R) (b : Bool) : Bool := match r with | .ok (.bool c) => c == b | _ => false
theorem isB_eq {r : R} {b : Bool} (h : isB r b = true) : r = .ok (.bool b) := by
  cases r with
  | ok p =>
    cases p with
    | bool c => rw [show c = b from eq_of_beq h]
    | _ => cases h
  | _ => cases h
theorem size_ok (q : Int) : ∃ (z : Int) (ts : List TR), itemK (.lst (.cons (.int 64) (.cons (.int 32) (.cons (.int 16) (.cons (.int 8) (.cons (.int 128) .nil)))))) (.int (q % 5)) = .ok (.int z) ∧
    collect FT FE [.int z] RW.items = some (strN ts) ∧ D213 (.cons (.int z) .nil) = .ok (.lst (ofItems (ts.map TR.reg))) ∧ neK (.lst (ofItems (strN ts))) (.lst (ofItems (strN ts))) = .ok (.bool false) ∧ (ts.map TR.reg).length ≤ 1000 := by
  rcases (show q % 5 = 0 ∨ q % 5 = 1 ∨ q % 5 = 2 ∨ q % 5 = 3 ∨ q % 5 = 4 by omega) with h | h | h | h | h <;> rw [h]
  · exact ⟨64, SZ 64, rfl, isC_eq (by kernel_rfl), isR_eq (by kernel_rfl), isB_eq (by kernel_rfl), by decide +kernel⟩
  · exact ⟨32, SZ 32, rfl, isC_eq (by kernel_rfl), isR_eq (by kernel_rfl), isB_eq (by kernel_rfl), by decide +kernel⟩
  · exact ⟨16, SZ 16, rfl, isC_eq (by kernel_rfl), isR_eq (by kernel_rfl), isB_eq (by kernel_rfl), by decide +kernel⟩
  · exact ⟨8, SZ 8, rfl, isC_eq (by kernel_rfl), isR_eq (by kernel_rfl), isB_eq (by kernel_rfl), by decide +kernel⟩
  · exact ⟨128, SZ 128, rfl, isC_eq (by kernel_rfl), isR_eq (by kernel_rfl), isB_eq (by kernel_rfl), by decide +kernel⟩

theorem collect_map {α : Type} {ft fe : ED} {c : List PV} {f g : α → PV} (ht : ∀ x, ft (f x :: c) = .ok (.bool true)) (he : ∀ x, fe (f x :: c) = .ok (g x)) :
    ∀ l : List α, collect ft fe c (l.map f) = some (l.map g)
  | [] => rfl
  | x :: l => by
    show (match ft (f x :: c) with | .ok (.bool true) => (match fe (f x :: c) with | .ok y => (collect ft fe c (l.map f)).map (y :: ·) | _ => none) | .ok (.bool false) => collect ft fe c (l.map f) | _ => none) = _
    rw [ht, he, collect_map ht he l]
    rfl
theorem RW_items : RW.items = TB.map TR.pv := items_of _
theorem RW_len : one lenK (.cons (.lst RW) .nil) = .ok (.int 87) := isR_eq (by kernel_rfl)
theorem RW_small : RW.items.length ≤ 1000 := by decide +kernel
theorem RW_item (i : Int) : ∃ t ∈ TB, itemK (.lst RW) (.int (i % 87)) = .ok t.pv := by
  have g0 : 0 ≤ i % 87 := Int.emod_nonneg _ (by decide)
  have g1 : i % 87 < 87 := Int.emod_lt_of_pos _ (by decide)
  have g2 : (i % 87).toNat < TB.length := by rw [TB_len]; omega
  refine ⟨TB[(i % 87).toNat], List.getElem_mem g2, itemLst g0 (by omega) ?_⟩
  show (ofItems (TB.map TR.pv)).nth _ = _
  rw [nth_items, List.getElem?_map, List.getElem?_eq_getElem g2]
  rfl
theorem NN_sc : NN.all sc8 = true := by decide +kernel
theorem D218_rowD (ρ : List PV) : callD [] D218 ρ = .ok (.lst RW) := callE rfl rows_eq

/-- what the law's frame holds between two turns -/
noncomputable def Sh (l : List Int) (ρ : List PV) : Prop := ∃ a b c d e f g h, ρ = [.ext l, .lst RW, .lst (strsR NN), a, b, c, d, e, f, g, h]
theorem for_sh {l : List Int} {F : SD} (hF : ∀ (c : Int) (ρ : List PV), Sh l ρ → ∃ ρ', Sh l ρ' ∧ F (setV (0 + 1 + 1 + 1) (.int c) ρ) = .next ρ') :
    ∀ (cs : List Int) (ρ : List PV), Sh l ρ → ∃ ρ', Sh l ρ' ∧ forD (fun p ρ => setV (0 + 1 + 1 + 1) p ρ) F (cs.map PV.int) ρ = .next ρ'
  | [], ρ, h => ⟨ρ, h, rfl⟩
  | c :: cs, ρ, h => by
    obtain ⟨ρ1, h1, e1⟩ := hF c ρ h
    obtain ⟨ρ2, h2, e2⟩ := for_sh hF cs ρ1 h1
    exact ⟨ρ2, h2, forN e1 e2⟩
theorem told_t (t : TR) : M103 t.reg = .ok (.str t.n) := by kernel_rfl
theorem aS {X : FR} {k : SD} {r : FR} {P : List PV → Prop} (h : ∃ ρ', P ρ' ∧ X = .next ρ') (h2 : ∀ ρ', P ρ' → k ρ' = r) : X.andThen k = r := by
  obtain ⟨ρ', p, e⟩ := h
  exact aN e (h2 _ p)
theorem law_ok (l : List Int) (hl : l.length ≤ 63) : b275.1 (.ext l :: List.replicate 10 .nil) = .ret (.bool true) := by
  unfold b275
  dsimp only
  refine aN (toN (D218_rowD _) rfl) ?_
  refine aN (ρ' := [.ext l, .lst RW, .lst (strsR NN), .nil, .nil, .nil, .nil, .nil, .nil, .nil, .nil]) ?_ ?_
  · refine asgE (compE (seqL (r := RW) rfl RW_small) ?_) (r := strsR NN) rfl
    rw [RW_items]
    refine (collect_map (f := TR.pv) (g := fun t => PV.str t.n) (fun t => rfl) (fun t => binE (a := t.pv) rfl rfl rfl) TB).trans ?_
    rfl
  refine aS (P := Sh l) ?_ ?_
  · have h0 : seqI (fun ρ => (varD 0 ρ).bind fun a => (R.ok (PV.int 10)).bind fun b => lsliceK a b) [.ext l, .lst RW, .lst (strsR NN), .nil, .nil, .nil, .nil, .nil, .nil, .nil, .nil] = .ok (ofItems ((l.take 10).map PV.int)) :=
      seqL (bindE rfl (bindE rfl (if_pos ⟨by decide, by omega⟩))) (by rw [items_of, List.length_map, List.length_take]; omega)
    rw [h0]
    show ∃ ρ', Sh l ρ' ∧ forD _ _ (ofItems ((l.take 10).map PV.int)).items _ = .next ρ'
    rw [items_of]
    refine for_sh ?_ (l.take 10) _ ⟨_, _, _, _, _, _, _, _, rfl⟩
    rintro c _ ⟨a3, a4, a5, a6, a7, a8, a9, a10, rfl⟩
    obtain ⟨m, hm⟩ : ∃ m : Int, m = c % ((2 : Int) ^ (64 : Int).toNat) := ⟨_, rfl⟩
    obtain ⟨q, hq⟩ : ∃ q : Int, q = m / ((87 : Int) ^ (2 : Int).toNat) := ⟨_, rfl⟩
    obtain ⟨t, ht, it⟩ := RW_item m
    obtain ⟨u, hu, iu⟩ := RW_item (m / 87)
    obtain ⟨t1, t2, t3, t4, t5⟩ := plain_n ht
    obtain ⟨s, hs, hs1, hs2⟩ := bent_ok t1 t4 q
    obtain ⟨z, ts, hz, z1, z2, z3, z4⟩ := size_ok q
    have told : ∃ p, D180 (.cons (.str s) .nil) = .ok p ∧ ((p = .none ∧ s ∉ NN) ∨ ∃ v ∈ TB, p = v.reg ∧ v.n = s) := by
      by_cases h : s ∈ NN
      · obtain ⟨v, hv, e⟩ := List.mem_map.mp h
        exact ⟨v.reg, e ▸ find_ok hv, .inr ⟨v, hv, rfl, e⟩⟩
      · exact ⟨.none, find_none h hs1 hs2, .inl ⟨rfl, h⟩⟩
    obtain ⟨p, hp, hpc⟩ := told
    refine ⟨[.ext l, .lst RW, .lst (strsR NN), .int c, .int q, t.pv, u.pv, .str s, p, .int z, .lst (ofItems (strN ts))], ⟨_, _, _, _, _, _, _, _, rfl⟩, ?_⟩
    refine aN (ρ' := [.ext l, .lst RW, .lst (strsR NN), .int c, .int m, a5, a6, a7, a8, a9, a10]) (toN (binE rfl (binE rfl rfl rfl) ((modN (by decide)).trans (by rw [hm]))) rfl) ?_
    refine aN (ρ' := [.ext l, .lst RW, .lst (strsR NN), .int c, .int q, t.pv, u.pv, a7, a8, a9, a10]) ?_ ?_
    · refine unpE (tupE (rowC (binE rfl (binE rfl (callE rfl RW_len) (modN (by decide))) it) (rowC (binE rfl (binE (binE rfl (callE rfl RW_len) (divN (by decide) (by decide))) (callE rfl RW_len) (modN (by decide))) iu) (rowC (binE rfl (binE (callE rfl RW_len) rfl rfl) ((divN (by decide) (by decide)).trans (by rw [hq]))) rfl)))) rfl rfl
    refine aN (ρ' := [.ext l, .lst RW, .lst (strsR NN), .int c, .int q, t.pv, u.pv, a7, a8, a9, a10]) (ifN (c := false) (orF (notE (callE rfl (isT_eq (found_t t ht)))) (orF (notE (callE rfl (isT_eq (parts_t t ht)))) (orF (notE (callE rfl (pair_ok ht hu))) (orF (notE (callE rfl (isT_eq (made_t t ht)))) rfl)))) rfl) ?_
    refine aN (ρ' := [.ext l, .lst RW, .lst (strsR NN), .int c, .int q, t.pv, u.pv, .str s, a8, a9, a10]) (toN (callE (rowC (binE (a := t.pv) rfl rfl rfl) rfl) hs) rfl) ?_
    refine aN (ρ' := [.ext l, .lst RW, .lst (strsR NN), .int c, .int q, t.pv, u.pv, .str s, p, a9, a10]) (toN (callE rfl hp) rfl) ?_
    refine aN (ρ' := [.ext l, .lst RW, .lst (strsR NN), .int c, .int q, t.pv, u.pv, .str s, p, a9, a10]) (ifN (c := false) (orF ?x1 (orF ?x2 (orF (notE (callE rfl (odd_ok q))) rfl))) rfl) ?x3
    case x1 =>
      rcases hpc with ⟨rfl, hno⟩ | ⟨v, hv, rfl, e⟩
      · exact binE (binE rfl rfl (in_ws hs1 NN_sc)) (binE rfl rfl rfl) (testE (ne_bool.trans (by rw [wsIn_no.mpr hno]; rfl)))
      · have : wsIn NN s = true := by
          cases h : wsIn NN s
          · exact absurd (List.mem_map.mpr ⟨v, hv, e⟩) (wsIn_no.mp h)
          · rfl
        exact binE (binE rfl rfl (in_ws hs1 NN_sc)) (binE (a := v.reg) rfl rfl rfl) (testE (ne_bool.trans (by rw [this]; rfl)))
    case x2 =>
      rcases hpc with ⟨rfl, hno⟩ | ⟨v, hv, rfl, e⟩
      · exact andF (binE rfl rfl (testE rfl))
      · obtain ⟨v1, _⟩ := plain_n hv
        exact andT (binE (a := v.reg) rfl rfl (testE rfl)) (andF (binE (bindE (p := v.reg) rfl (told_t v)) rfl (testE ((ne_str v1 hs1).trans (by rw [e, beq_self_eq_true]; rfl)))))
    case x3 =>
      refine aN (ρ' := [.ext l, .lst RW, .lst (strsR NN), .int c, .int q, t.pv, u.pv, .str s, p, .int z, a10]) (toN (binE (lstE (rowC rfl (rowC rfl (rowC rfl (rowC rfl (rowC rfl rfl)))))) (binE rfl rfl (modN (by decide))) hz) rfl) ?_
      refine aN (ρ' := [.ext l, .lst RW, .lst (strsR NN), .int c, .int q, t.pv, u.pv, .str s, p, .int z, .lst (ofItems (strN ts))]) (asgE (compE (seqL (r := RW) rfl RW_small) z1) rfl) ?_
      refine aN (ρ' := [.ext l, .lst RW, .lst (strsR NN), .int c, .int q, t.pv, u.pv, .str s, p, .int z, .lst (ofItems (strN ts))]) (ifN (c := false) (binE (compE (seqL (callE rfl z2) (by rw [items_of]; exact z4)) (by rw [items_of]; exact collect_map (f := TR.reg) (g := fun t => PV.str t.n) (fun t => rfl) (fun t => bindE (p := t.reg) rfl (told_t t)) ts)) rfl (testE z3)) rfl) rfl
  · rintro _ ⟨a, b, c, d, e, f, g, h, rfl⟩
    rfl
end Mine
end

/-! ## the end -/
section
open PySem PySem.W PyProof.Rows PySem.Spec
set_option maxRecDepth 100000
set_option maxHeartbeats 8000000
namespace Mine
theorem whole_law (hF : ∀ l : List Int, l.length ≤ 63 → Mine.b275.1 (.ext l :: List.replicate 10 .nil) = .ret (.bool true)) : PySem.Challenge.rw_pb0418_01.Holds := Mine.hd (by
  k_go0
  refine Mine.law_end (by assumption) (by assumption) (by assumption) (by assumption) (by assumption) (by assumption) ?z1 ?z2 ?z3 (by assumption) (by assumption) ?z4 ?z5
  case z1 => assumption
  case z2 => exact Eq.trans (by assumption) rfl
  case z3 => rfl
  case z4 => exact hF _ (by omega)
  case z5 =>
    intro s' hk hgr hge hos
    exact ⟨⟨.inl ⟨_, _, _, rfl, fun _ => rfl, .bool true, (by first | kernel_rfl | simp), unshared_nil⟩, hk, hos, hge.trans (by assumption)⟩, hgr⟩)
end Mine
end

theorem PySem.Challenge.cw_pb0418_01_holds : PySem.Challenge.rw_pb0418_01.Holds := by
  exact Mine.whole_law Mine.law_ok
