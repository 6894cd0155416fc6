import PyProof.Rows.All
import Wide.All
import Open.Line
import Open.FastRun
import KE.IntBitsLaws
import PySem.Challenge.RW_xm0417_01
set_option linter.all false
set_option genSizeOf false
set_option genSizeOfSpec false
set_option genInjectivity false
open PySem PySem.Calls PyProof.Rows
set_option Elab.async false
set_option maxRecDepth 100000
namespace Mine

def stAt (k : Nat) : Stmt := (PySem.Challenge.pw_xm0417_01.main.body[k]?).getD (.Pass ⟨0, 0, 0, 0⟩)
def bodyOf : Stmt → List Stmt
  | .FunctionDef _ _ b _ _ _ _ _ _ _ => b
  | _ => []
def paramsOf : Stmt → Arguments
  | .FunctionDef _ a _ _ _ _ _ _ _ _ => a
  | _ => ⟨[], [], none, [], [], none, []⟩
def scopeOf : Stmt → Scope
  | .FunctionDef _ _ _ _ _ _ s _ _ _ => s
  | _ => ⟨.module, [], false, false, []⟩
def nameOf' : Stmt → Str
  | .FunctionDef n _ _ _ _ _ _ _ _ _ => n
  | _ => "?"

end Mine

open PySem PySem.Calls PySem.W PyProof.Rows
set_option Elab.async false
set_option maxRecDepth 100000
set_option maxHeartbeats 8000000
namespace Mine
def vw : Program := { PySem.Challenge.pw_xm0417_01 with main := { PySem.Challenge.pw_xm0417_01.main with body := [1, 2, 3, 4, 5, 6, 7, 8, 9, 10, 11, 12, 13, 15, 16, 17, 18, 19, 20, 21, 22, 23, 25, 26, 27, 28, 29, 30, 31, 32, 33, 34, 35, 37, 38, 39, 40, 41, 42, 43, 45, 46, 47, 48, 49, 50, 51].map stAt } }
def posOf' : Stmt → Pos
  | .FunctionDef _ _ _ _ _ _ _ _ _ p => p
  | _ => ⟨0, 0, 0, 0⟩
theorem said_ok : PySem.Challenge.rw_xm0417_01.wellSaid = true := by
  first
    | rw [PySem.W.Fast.te9446332074065402090]
    | skip
  kernel_rfl
def Xt0 (s : Shared) : Bool := xlAt vw [] s && recOk (RowW.records PySem.Challenge.rw_xm0417_01.row.toRowW) s
theorem boot0 : ∀ w : World, (fencedOpening treeTable PySem.Challenge.pw_xm0417_01 w 4360).map (fun s => (s.heap, s.gens, s.drawn, s.toks)) = some (boot_heap w.params, Array.mk [], boot_drawn, boot_toks) := boot_open (by kernel_rfl) rfl (fun s => by kernel_rfl)
theorem left0 : LeftO PySem.Challenge.pw_xm0417_01 vw [] Xt0 Hook.none.obs Hook.none.val 4360 := fun w => by
  obtain ⟨s, hs, hv⟩ := Option.map_eq_some_iff.mp (boot0 w)
  obtain ⟨h, g, d, k, os⟩ := s
  cases hv
  unfold openEnds
  rw [hs, Option.bind_some]
  unfold topFrom
  first
    | rw [PySem.W.Fast.te14082659384304107361, PySem.W.Fast.te4187177175401517315, PySem.W.Fast.te8920871248978507458]
    | skip
  kernel_rfl
theorem ok0 : (chainsOk vw && opensWell PySem.Challenge.rw_xm0417_01.row.prog && (frees PySem.Challenge.rw_xm0417_01.row.toRowW && PySem.Challenge.rw_xm0417_01.row.within.isEmpty)) = true := by kernel_rfl
end Mine

open PySem PySem.Calls PyProof.Rows
set_option Elab.async false
namespace Mine

inductive PV where
  | none
  | bool (b : Bool)
  | int (i : Int)
  | ints (L : List Int)
  | list (xs : List PV)
  | tup (xs : List PV)
  | fn (a : Addr)

abbrev Fz := Addr → Option Obj
abbrev lobj (vs : Array Value) (n : Nat) : Obj := ⟨.type "list", Option.none, .seq vs n, #[]⟩
abbrev tobj (vs : Array Value) (n : Nat) : Obj := ⟨.type "tuple", Option.none, .seq vs n, #[]⟩

mutual
def Rep (φ : Fz) : PV → Value → Prop
  | .none, v => v = .none
  | .bool b, v => v = .bool b
  | .int i, v => ∃ t, v = .int i t
  | .fn a, v => v = .ref a
  | .ints L, v => ∃ a vs n, v = .ref a ∧ φ a = some (lobj vs n) ∧ IntsAre vs.toList L ∧ L.length ≤ 1000000
  | .list xs, v => ∃ a vs n, v = .ref a ∧ φ a = some (lobj vs n) ∧ RepL φ xs vs.toList ∧ xs.length ≤ 1000000
  | .tup xs, v => ∃ a vs n, v = .ref a ∧ φ a = some (tobj vs n) ∧ RepL φ xs vs.toList ∧ xs.length ≤ 1000000
def RepL (φ : Fz) : List PV → List Value → Prop
  | [], vs => vs = []
  | x :: xs, vs => ∃ v r, vs = v :: r ∧ Rep φ x v ∧ RepL φ xs r
end

mutual
theorem Rep.mono {φ φ' : Fz} (h : ∀ b o, φ b = some o → φ' b = some o) : ∀ (x : PV) (v : Value), Rep φ x v → Rep φ' x v
  | .none, v, r => by rw [Rep] at r ⊢; exact r
  | .bool b, v, r => by rw [Rep] at r ⊢; exact r
  | .int i, v, r => by rw [Rep] at r ⊢; exact r
  | .fn a, v, r => by rw [Rep] at r ⊢; exact r
  | .ints xs, v, r => by
    rw [Rep] at r ⊢
    obtain ⟨a, vs, n, e, ha, hr⟩ := r
    exact ⟨a, vs, n, e, h _ _ ha, hr⟩
  | .list xs, v, r => by
    rw [Rep] at r ⊢
    obtain ⟨a, vs, n, e, ha, hr, hl⟩ := r
    exact ⟨a, vs, n, e, h _ _ ha, RepL.mono h xs _ hr, hl⟩
  | .tup xs, v, r => by
    rw [Rep] at r ⊢
    obtain ⟨a, vs, n, e, ha, hr, hl⟩ := r
    exact ⟨a, vs, n, e, h _ _ ha, RepL.mono h xs _ hr, hl⟩
theorem RepL.mono {φ φ' : Fz} (h : ∀ b o, φ b = some o → φ' b = some o) : ∀ (xs : List PV) (vs : List Value), RepL φ xs vs → RepL φ' xs vs
  | [], vs, r => by rw [RepL] at r ⊢; exact r
  | x :: xs, vs, r => by
    rw [RepL] at r ⊢
    obtain ⟨v, t, e, hv, ht⟩ := r
    exact ⟨v, t, e, Rep.mono h x v hv, RepL.mono h xs t ht⟩
end

theorem RepL.length {φ : Fz} : ∀ {xs : List PV} {vs : List Value}, RepL φ xs vs → vs.length = xs.length
  | [], vs, r => by rw [RepL] at r; rw [r]; rfl
  | x :: xs, vs, r => by
    rw [RepL] at r
    obtain ⟨v, t, rfl, _, ht⟩ := r
    simp [RepL.length ht]

theorem RepL.get {φ : Fz} : ∀ {xs : List PV} {vs : List Value} {i : Nat} {x : PV}, RepL φ xs vs → xs[i]? = some x → ∃ v, vs[i]? = some v ∧ Rep φ x v
  | [], vs, i, x, r, h => by simp at h
  | y :: xs, vs, 0, x, r, h => by
    rw [RepL] at r
    obtain ⟨v, t, rfl, hv, ht⟩ := r
    simp at h; subst h
    exact ⟨v, rfl, hv⟩
  | y :: xs, vs, i + 1, x, r, h => by
    rw [RepL] at r
    obtain ⟨v, t, rfl, hv, ht⟩ := r
    simp at h
    obtain ⟨v', e, hr⟩ := RepL.get ht h
    exact ⟨v', by simpa using e, hr⟩

theorem RepL.append {φ : Fz} : ∀ {xs ys : List PV} {vs ws : List Value}, RepL φ xs vs → RepL φ ys ws → RepL φ (xs ++ ys) (vs ++ ws)
  | [], ys, vs, ws, r, q => by rw [RepL] at r; subst r; exact q
  | x :: xs, ys, vs, ws, r, q => by
    rw [RepL] at r
    obtain ⟨v, t, rfl, hv, ht⟩ := r
    show RepL φ (x :: (xs ++ ys)) (v :: (t ++ ws))
    rw [RepL]
    exact ⟨v, t ++ ws, rfl, hv, RepL.append ht q⟩

theorem RepL.drop {φ : Fz} : ∀ (k : Nat) {xs : List PV} {vs : List Value}, RepL φ xs vs → RepL φ (xs.drop k) (vs.drop k)
  | 0, xs, vs, r => r
  | k + 1, [], vs, r => by rw [RepL] at r; subst r; simp [RepL]
  | k + 1, x :: xs, vs, r => by
    rw [RepL] at r
    obtain ⟨v, t, rfl, hv, ht⟩ := r
    exact RepL.drop k ht

theorem RepL.take {φ : Fz} : ∀ (k : Nat) {xs : List PV} {vs : List Value}, RepL φ xs vs → RepL φ (xs.take k) (vs.take k)
  | 0, xs, vs, r => by simp [RepL]
  | k + 1, [], vs, r => by rw [RepL] at r; subst r; simp [RepL]
  | k + 1, x :: xs, vs, r => by
    rw [RepL] at r
    obtain ⟨v, t, rfl, hv, ht⟩ := r
    show RepL φ (x :: xs.take k) (v :: t.take k)
    rw [RepL]
    exact ⟨v, _, rfl, hv, RepL.take k ht⟩

theorem RepL.set {φ : Fz} {x : PV} {v : Value} (hv : Rep φ x v) : ∀ (k : Nat) {xs : List PV} {vs : List Value}, RepL φ xs vs → RepL φ (xs.set k x) (vs.set k v)
  | _, [], vs, r => by rw [RepL] at r; subst r; simp [RepL]
  | 0, y :: xs, vs, r => by
    rw [RepL] at r
    obtain ⟨u, t, rfl, hu, ht⟩ := r
    show RepL φ (x :: xs) (v :: t)
    rw [RepL]
    exact ⟨v, _, rfl, hv, ht⟩
  | k + 1, y :: xs, vs, r => by
    rw [RepL] at r
    obtain ⟨u, t, rfl, hu, ht⟩ := r
    show RepL φ (y :: xs.set k x) (u :: t.set k v)
    rw [RepL]
    exact ⟨u, _, rfl, hu, RepL.set hv k ht⟩

inductive Sl where
  | un
  | val (x : PV)
  | own (p : PV)

def Cont (φ : Fz) (p : PV) (vs : Array Value) : Prop := match p with
  | .ints L => IntsAre vs.toList L ∧ L.length ≤ 1000000
  | .list xs => RepL φ xs vs.toList ∧ xs.length ≤ 1000000
  | _ => False
theorem Cont.mono {φ φ' : Fz} (h : ∀ b o, φ b = some o → φ' b = some o) {p : PV} {vs : Array Value} (c : Cont φ p vs) : Cont φ' p vs := by
  unfold Cont at c ⊢
  split at c
  · exact c
  · exact ⟨RepL.mono h _ _ c.1, c.2⟩
  · exact c.elim
theorem Cont.rep {φ : Fz} {p : PV} {vs : Array Value} {a : Addr} {n : Nat} (c : Cont φ p vs) (h : φ a = some (lobj vs n)) : Rep φ p (.ref a) := by
  unfold Cont at c
  split at c
  · rw [Rep]; exact ⟨a, vs, n, rfl, h, c⟩
  · rw [Rep]; exact ⟨a, vs, n, rfl, h, c⟩
  · exact c.elim

def sg : List Sl → Nat → Sl
  | [], _ => .un
  | s :: _, 0 => s
  | _ :: r, n + 1 => sg r n
def sp : List Sl → Nat → Sl → List Sl
  | [], _, _ => []
  | _ :: r, 0, t => t :: r
  | s :: r, n + 1, t => s :: sp r n t

theorem sg_sp_same : ∀ (σ : List Sl) (i : Nat) (t : Sl), i < σ.length → sg (sp σ i t) i = t
  | [], i, t, h => by simp at h
  | s :: r, 0, t, h => rfl
  | s :: r, n + 1, t, h => sg_sp_same r n t (by simpa using h)
theorem sg_sp_ne : ∀ (σ : List Sl) (i j : Nat) (t : Sl), i ≠ j → sg (sp σ i t) j = sg σ j
  | [], i, j, t, h => rfl
  | s :: r, 0, 0, t, h => absurd rfl h
  | s :: r, 0, j + 1, t, h => rfl
  | s :: r, i + 1, 0, t, h => rfl
  | s :: r, i + 1, j + 1, t, h => sg_sp_ne r i j t (fun e => h (by rw [e]))
theorem sp_length : ∀ (σ : List Sl) (i : Nat) (t : Sl), (sp σ i t).length = σ.length
  | [], i, t => rfl
  | s :: r, 0, t => rfl
  | s :: r, n + 1, t => by simp [sp, sp_length r n t]
theorem sg_un : ∀ (σ : List Sl) (i : Nat), σ.length ≤ i → sg σ i = .un
  | [], i, h => rfl
  | s :: r, 0, h => by simp at h
  | s :: r, n + 1, h => sg_un r n (by simpa using h)

def Held (h : Heap) (env : Env) (x : Str) (v : Value) : Prop := match env.cells.lookup x with
  | some c => h.IsCell c (some v)
  | none => ∃ m, h.Ns env.locals m ∧ m x = some v

structure RS (env : Env) (ns : List Str) (φ : Fz) (V : Nat → Addr) (σ : List Sl) (h : Heap) : Prop where
  sub : ∀ b o, φ b = some o → h.get? b = some o
  len : σ.length = ns.length
  nsx : ∃ m, h.Ns env.locals m
  loc : φ env.locals = none
  cel : ∀ x c, env.cells.lookup x = some c → φ c = none ∧ ∃ v, h.IsCell c v
  cinj : ∀ x y c, env.cells.lookup x = some c → env.cells.lookup y = some c → x = y
  vals : ∀ i x, ns[i]? = some x → ∀ p, sg σ i = .val p → ∃ v, Held h env x v ∧ Rep φ p v
  owns : ∀ i x, ns[i]? = some x → ∀ xs, sg σ i = .own xs → Held h env x (.ref (V i)) ∧ φ (V i) = none ∧ ∃ vs n, h.get? (V i) = some (lobj vs n) ∧ Cont φ xs vs
  oinj : ∀ i j xs ys, sg σ i = .own xs → sg σ j = .own ys → V i = V j → i = j

def Vol (env : Env) (V : Nat → Addr) (σ : List Sl) (b : Addr) : Prop := b = env.locals ∨ (∃ x, env.cells.lookup x = some b) ∨ ∃ i xs, sg σ i = .own xs ∧ V i = b

structure Grow (φ : Fz) (s : Shared) (φ' : Fz) (s' : Shared) : Prop where
  same : ∃ h t, s' = { s with heap := h, toks := t }
  sub : ∀ b o, φ b = some o → φ' b = some o
  here : ∀ b o, φ' b = some o → s'.heap.get? b = some o
  keep : ∀ b o, s.heap.get? b = some o → s'.heap.get? b = some o ∧ φ' b = φ b

theorem Grow.refl {φ : Fz} {s : Shared} (h : ∀ b o, φ b = some o → s.heap.get? b = some o) : Grow φ s φ s := ⟨⟨_, _, rfl⟩, fun _ _ e => e, h, fun _ _ e => ⟨e, rfl⟩⟩
theorem Grow.tok {φ : Fz} {s : Shared} (h : ∀ b o, φ b = some o → s.heap.get? b = some o) (t : Nat) : Grow φ s φ { s with toks := t } := ⟨⟨_, _, rfl⟩, fun _ _ e => e, h, fun _ _ e => ⟨e, rfl⟩⟩
theorem Grow.trans {φ φ' φ'' : Fz} {s s' s'' : Shared} (a : Grow φ s φ' s') (b : Grow φ' s' φ'' s'') : Grow φ s φ'' s'' where
  same := by
    obtain ⟨h, t, rfl⟩ := a.same
    obtain ⟨h2, t2, rfl⟩ := b.same
    exact ⟨_, _, rfl⟩
  sub := fun x o e => b.sub _ _ (a.sub _ _ e)
  here := b.here
  keep := fun x o e => by
    obtain ⟨e1, e2⟩ := a.keep _ _ e
    obtain ⟨e3, e4⟩ := b.keep _ _ e1
    exact ⟨e3, e4.trans e2⟩

theorem Grow.heap {φ : Fz} {s : Shared} (h : ∀ b o, φ b = some o → s.heap.get? b = some o) {h' : Heap} (hk : ∀ b o, s.heap.get? b = some o → h'.get? b = some o) (t : Nat) : Grow φ s φ { s with heap := h', toks := t } :=
  ⟨⟨_, _, rfl⟩, fun _ _ e => e, fun _ _ e => hk _ _ (h _ _ e), fun _ _ e => ⟨hk _ _ e, rfl⟩⟩

def fzPut (φ : Fz) (a : Addr) (o : Obj) : Fz := fun b => if b = a then some o else φ b

theorem Grow.push {φ : Fz} {s : Shared} (h : ∀ b o, φ b = some o → s.heap.get? b = some o) (o : Obj) (t : Nat) (ho : o.isFreed = false := by rfl) :
    Grow φ s (fzPut φ s.heap.objs.size o) { s with heap := s.heap.push o, toks := t } where
  same := ⟨_, _, rfl⟩
  sub := fun b o' e => by
    unfold fzPut
    have : b ≠ s.heap.objs.size := Nat.ne_of_lt (Heap.lt_size (h _ _ e))
    rw [if_neg this]; exact e
  here := fun b o' e => by
    unfold fzPut at e
    by_cases hb : b = s.heap.objs.size
    · subst hb
      simp only [if_true] at e
      cases e
      exact Heap.get?_push_size _ ho
    · rw [if_neg hb] at e
      exact Heap.get?_push_of_some _ (h _ _ e)
  keep := fun b o' e => by
    have : b ≠ s.heap.objs.size := Nat.ne_of_lt (Heap.lt_size e)
    exact ⟨Heap.get?_push_of_some _ e, by unfold fzPut; rw [if_neg this]⟩

theorem Held.keep {h h' : Heap} {env : Env} {x : Str} {v : Value} (H : Held h env x v) (hk : ∀ b o, h.get? b = some o → h'.get? b = some o) : Held h' env x v := by
  unfold Held at H ⊢
  split at H
  · exact H.keeps hk
  · obtain ⟨m, a, b⟩ := H
    exact ⟨m, a.keeps hk, b⟩

theorem RS.grow {env : Env} {ns : List Str} {φ φ' : Fz} {V : Nat → Addr} {σ : List Sl} {s s' : Shared} (R : RS env ns φ V σ s.heap) (G : Grow φ s φ' s') : RS env ns φ' V σ s'.heap where
  sub := G.here
  len := R.len
  nsx := let ⟨m, hm⟩ := R.nsx; ⟨m, hm.keeps fun b o e => (G.keep b o e).1⟩
  loc := by
    obtain ⟨m, o, _, _, ho, _⟩ := R.nsx
    exact ((G.keep _ _ ho).2).trans R.loc
  cel := fun x c hc => by
    obtain ⟨a, v, o, ho, hd⟩ := R.cel x c hc
    exact ⟨((G.keep _ _ ho).2).trans a, v, o, (G.keep _ _ ho).1, hd⟩
  cinj := R.cinj
  vals := fun i x hx p hp => by
    obtain ⟨v, H, r⟩ := R.vals i x hx p hp
    exact ⟨v, H.keep fun b o e => (G.keep b o e).1, Rep.mono G.sub _ _ r⟩
  owns := fun i x hx xs hp => by
    obtain ⟨H, ha, vs, n, hv, r⟩ := R.owns i x hx xs hp
    exact ⟨H.keep fun b o e => (G.keep b o e).1, ((G.keep _ _ hv).2).trans ha, vs, n, (G.keep _ _ hv).1, r.mono G.sub⟩
  oinj := R.oinj

structure Cx where
  prog : Program
  w : World
  h0 : Heap
  mg : Str → Option Value
  mb : Str → Option Value
  A : Around
  env : Env
  ns : List Str

def Room (d : Nat) (A : Around) : Prop := A.handled = none ∧ A.depth + d < recursionLimit ∧ A.units + 8 * d + 8 < cLine

structure Cx.Ok (C : Cx) (d : Nat) : Prop where
  room : Room d C.A
  kind : C.env.scope.kind = .function
  glob : C.env.globals = mainGlobals
  built : C.env.builtins = builtinsNs
  hg : C.h0.Ns mainGlobals C.mg
  hb : C.h0.Ns builtinsNs C.mb
  nolimit : C.h0.NoLimit
  locals : ∀ (i : Nat) (x : Str), C.ns[i]? = some x → (C.env.cells.lookup x = none ∧ C.env.kindOf x = some .local) ∨ (∃ c, C.env.cells.lookup x = some c ∧ (C.env.kindOf x = some .cell ∨ (C.env.kindOf x = some .free ∧ (x == ("__classdict__" : Str)) = false)))
  inj : ∀ (i j : Nat) (x : Str), C.ns[i]? = some x → C.ns[j]? = some x → i = j

def St (C : Cx) (φ : Fz) : Prop := ∀ b o, C.h0.get? b = some o → φ b = some o

abbrev ET := List Sl → (PV → Prop) → Prop

def SE (C : Cx) (e : Expr) (F : ET) : Prop :=
  ∀ φ V σ s G, St C φ → RS C.env C.ns φ V σ s.heap → F σ G → ∀ E,
    wpAny (model C.prog C.w) C.A (eval e C.env) (fun v s' => ∃ φ' x, Grow φ s φ' s' ∧ Rep φ' x v ∧ G x) E s

theorem St.grow {C : Cx} {φ φ' : Fz} {s s' : Shared} (S : St C φ) (G : Grow φ s φ' s') : St C φ' := fun b o e => G.sub _ _ (S b o e)

section
variable {C : Cx} {d : Nat}

def q_SE_int (i : Int) : ET := fun _ G => G (.int i)
theorem zaa (i : Int) (σ : List Sl) (G : PV → Prop) : q_SE_int i σ G = (G (.int i)) := rfl
theorem SE.int (i : Int) (k : Nat) (pos : Pos) : SE C (.Constant (.int i) k pos) (q_SE_int i) := by
  intro φ V σ s G S R hF E
  refine wpAny_Constant_int ⟨φ, .int i, Grow.tok R.sub _, ?_, hF⟩
  rw [Rep]; exact ⟨_, rfl⟩

def q_SE_bool (b : Bool) : ET := fun _ G => G (.bool b)
theorem zab (b : Bool) (σ : List Sl) (G : PV → Prop) : q_SE_bool b σ G = (G (.bool b)) := rfl
theorem SE.bool (b : Bool) (k : Nat) (pos : Pos) : SE C (.Constant (.bool b) k pos) (q_SE_bool b) := by
  intro φ V σ s G S R hF E
  refine wpAny_Constant_bool ⟨φ, .bool b, Grow.refl R.sub, ?_, hF⟩
  rw [Rep]

def nameT (i : Nat) : ET := fun σ G => match sg σ i with
  | .val x => G x
  | _ => False

theorem wpAny_held {C : Cx} {d : Nat} (O : C.Ok d) {i : Nat} {x : Str} (hi : C.ns[i]? = some x) {s : Shared} {v : Value} (H : Held s.heap C.env x v) {Q : Value → Shared → Prop} {E : Value → Shared → Prop} (h : Q v s) :
    wpAny (model C.prog C.w) C.A (loadName C.env x) Q E s := by
  unfold Held at H
  rcases O.locals i x hi with ⟨e, k⟩ | ⟨c, e, k | ⟨k, hn⟩⟩
  · rw [e] at H
    obtain ⟨m, hm, hv⟩ := H
    exact wpAny_loadName_local O.kind k hm hv h
  · rw [e] at H
    exact wpAny_loadName_cell O.kind k e H h
  · rw [e] at H
    exact wpAny_loadName_free O.kind k e H h hn

theorem SE.name (O : C.Ok d) (i : Nat) (x : Str) (pos : Pos) (hi : C.ns[i]? = some x) (hd : (x == ("__debug__" : Str)) = false := by decide) : SE C (.Name x pos) (nameT i) := by
  intro φ V σ s G S R hF E
  unfold nameT at hF
  split at hF
  · rename_i p hp
    obtain ⟨v, H, r⟩ := R.vals i x hi p hp
    exact wpAny_Name (wpAny_held O hi H ⟨φ, p, Grow.refl R.sub, r, hF⟩) hd
  · exact hF.elim
end

end Mine

open PySem PySem.Calls PyProof.Rows
set_option Elab.async false
namespace Mine

theorem rep_int {φ : Fz} {i : Int} {v : Value} (h : Rep φ (.int i) v) : ∃ t, v = .int i t := by rw [Rep] at h; exact h
theorem rep_bool {φ : Fz} {b : Bool} {v : Value} (h : Rep φ (.bool b) v) : v = .bool b := by rw [Rep] at h; exact h
theorem rep_ints {φ : Fz} {xs : List Int} {v : Value} (h : Rep φ (.ints xs) v) : ∃ a vs n, v = .ref a ∧ φ a = some (lobj vs n) ∧ IntsAre vs.toList xs ∧ xs.length ≤ 1000000 := by rw [Rep] at h; exact h
theorem rep_list {φ : Fz} {xs : List PV} {v : Value} (h : Rep φ (.list xs) v) : ∃ a vs n, v = .ref a ∧ φ a = some (lobj vs n) ∧ RepL φ xs vs.toList ∧ xs.length ≤ 1000000 := by rw [Rep] at h; exact h
theorem rep_tup {φ : Fz} {xs : List PV} {v : Value} (h : Rep φ (.tup xs) v) : ∃ a vs n, v = .ref a ∧ φ a = some (tobj vs n) ∧ RepL φ xs vs.toList ∧ xs.length ≤ 1000000 := by rw [Rep] at h; exact h

def Gr (φ : Fz) (s : Shared) (G : PV → Prop) (v : Value) (s' : Shared) : Prop := ∃ φ' x, Grow φ s φ' s' ∧ Rep φ' x v ∧ G x

theorem Gr.int {φ : Fz} {s : Shared} {G : PV → Prop} (h : ∀ b o, φ b = some o → s.heap.get? b = some o) {i : Int} {t t' : Nat} (g : G (.int i)) : Gr φ s G (.int i t) { s with toks := t' } :=
  ⟨φ, .int i, Grow.tok h _, by rw [Rep]; exact ⟨_, rfl⟩, g⟩
theorem Gr.bool {φ : Fz} {s : Shared} {G : PV → Prop} (h : ∀ b o, φ b = some o → s.heap.get? b = some o) {b : Bool} (g : G (.bool b)) : Gr φ s G (.bool b) s :=
  ⟨φ, .bool b, Grow.refl h, by rw [Rep], g⟩
theorem Gr.newList {φ : Fz} {s : Shared} {G : PV → Prop} (h : ∀ b o, φ b = some o → s.heap.get? b = some o) {vs : Array Value} {n : Nat} {p : PV} (c : Cont φ p vs) (g : G p) (t : Nat) :
    Gr φ s G (.ref s.heap.objs.size) { s with heap := s.heap.push (lobj vs n), toks := t } := by
  have P := Grow.push h (lobj vs n) t
  exact ⟨_, p, P, (c.mono P.sub).rep (n := n) (by simp [fzPut]), g⟩
theorem Gr.newInts {φ : Fz} {s : Shared} {G : PV → Prop} (h : ∀ b o, φ b = some o → s.heap.get? b = some o) {vs : Array Value} {n : Nat} {L : List Int} (c : IntsAre vs.toList L) (hl : L.length ≤ 1000000) (g : G (.ints L)) (t : Nat) :
    Gr φ s G (.ref s.heap.objs.size) { s with heap := s.heap.push (lobj vs n), toks := t } := Gr.newList (p := .ints L) h ⟨c, hl⟩ g t
theorem Gr.newTup {φ : Fz} {s : Shared} {G : PV → Prop} (h : ∀ b o, φ b = some o → s.heap.get? b = some o) {vs : Array Value} {n : Nat} {xs : List PV} (r : RepL φ xs vs.toList) (hl : xs.length ≤ 1000000) (g : G (.tup xs)) (t : Nat) :
    Gr φ s G (.ref s.heap.objs.size) { s with heap := s.heap.push (tobj vs n), toks := t } := by
  have P := Grow.push h (tobj vs n) t
  refine ⟨_, .tup xs, P, ?_, g⟩
  rw [Rep]
  exact ⟨_, vs, n, rfl, by simp [fzPut], RepL.mono P.sub _ _ r, hl⟩

def addT (a b : PV) (G : PV → Prop) : Prop := match a with
  | .int i => (match b with | .int j => G (.int (i + j)) | _ => False)
  | .ints xs => (match b with | .ints ys => xs.length + ys.length ≤ 1000000 ∧ G (.ints (xs ++ ys)) | _ => False)
  | _ => False
def subT (a b : PV) (G : PV → Prop) : Prop := match a with | .int i => (match b with | .int j => G (.int (i - j)) | _ => False) | _ => False
def mulT (a b : PV) (G : PV → Prop) : Prop := match a with
  | .int i => (match b with | .int j => i.natAbs < 2 ^ 64 ∧ G (.int (i * j)) | _ => False)
  | .ints xs => (match b with | .int j => xs.length * j.toNat ≤ 1000000 ∧ -1000000 ≤ j ∧ j ≤ 1000000 ∧ G (.ints (List.replicate j.toNat xs).flatten) | _ => False)
  | _ => False
def fdivT (a b : PV) (G : PV → Prop) : Prop := match a with | .int i => (match b with | .int j => j ≠ 0 ∧ j.natAbs < 1073741824 ∧ G (.int (i.fdiv j)) | _ => False) | _ => False
def fmodT (a b : PV) (G : PV → Prop) : Prop := match a with | .int i => (match b with | .int j => j ≠ 0 ∧ G (.int (i.fmod j)) | _ => False) | _ => False
def shlT (a b : PV) (G : PV → Prop) : Prop := match a with | .int i => (match b with | .int j => 0 ≤ j ∧ j ≤ 1000000 ∧ i.natAbs < 2 ^ 64 ∧ G (.int (i * 2 ^ j.toNat)) | _ => False) | _ => False
def shrT (a b : PV) (G : PV → Prop) : Prop := match a with | .int i => (match b with | .int j => 0 ≤ j ∧ G (.int (i.fdiv (2 ^ j.toNat))) | _ => False) | _ => False
def andT (a b : PV) (G : PV → Prop) : Prop := match a with | .int i => (match b with | .int j => G (.int (Builtin.bitAnd i j)) | _ => False) | _ => False
def orT (a b : PV) (G : PV → Prop) : Prop := match a with | .int i => (match b with | .int j => G (.int (Builtin.bitOr i j)) | _ => False) | _ => False
def powT (a b : PV) (G : PV → Prop) : Prop := match a with | .int i => (match b with | .int j => 0 ≤ j ∧ j ≤ 1000000 ∧ i.natAbs < 2 ^ 64 ∧ G (.int (i ^ j.toNat)) | _ => False) | _ => False

def BinOk (op : Operator) (T : PV → PV → (PV → Prop) → Prop) : Prop :=
  ∀ (prog : Program) (w : World) (A : Around) (φ : Fz) (s : Shared) (a b : PV) (va vb : Value) (G : PV → Prop) (E : Value → Shared → Prop),
    (∀ b o, φ b = some o → s.heap.get? b = some o) → Rep φ a va → Rep φ b vb → T a b G → wpAny (model prog w) A (binaryOp op va vb) (Gr φ s G) E s
def InpOk (op : Operator) (T : PV → PV → (PV → Prop) → Prop) : Prop :=
  ∀ (prog : Program) (w : World) (A : Around) (φ : Fz) (s : Shared) (i j : Int) (va vb : Value) (G : PV → Prop) (E : Value → Shared → Prop),
    (∀ b o, φ b = some o → s.heap.get? b = some o) → Rep φ (.int i) va → Rep φ (.int j) vb → T (.int i) (.int j) G → wpAny (model prog w) A (inplaceOp op va vb) (Gr φ s G) E s

theorem intBits64 {i : Int} (h : i.natAbs < 2 ^ 64) : Builtin.Int.intBits i ≤ 64 := intBits_le h

theorem flat_rep {xs : List Int} {vs : Array Value} (r : IntsAre vs.toList xs) : ∀ k : Nat,
    IntsAre (List.foldl (fun x1 x2 => x1 ++ x2) #[] (List.replicate k vs)).toList (List.replicate k xs).flatten := by
  have gen : ∀ (k : Nat) (acc : Array Value) (ys : List Int), IntsAre acc.toList ys → IntsAre (List.foldl (fun x1 x2 => x1 ++ x2) acc (List.replicate k vs)).toList (ys ++ (List.replicate k xs).flatten) := by
    intro k
    induction k with
    | zero => intro acc ys h; simpa using h
    | succ k ih =>
      intro acc ys h
      rw [List.replicate_succ, List.replicate_succ, List.foldl_cons, List.flatten_cons, ← List.append_assoc]
      exact ih _ _ (by rw [Array.toList_append]; exact IntsAre.append h r)
  intro k
  have := gen k #[] [] .nil
  simpa using this

theorem add_ok : BinOk .Add addT := by
  intro prog w A φ s a b va vb G E hs ra rb h
  unfold addT at h
  split at h
  · split at h
    · obtain ⟨t, rfl⟩ := rep_int ra
      obtain ⟨u, rfl⟩ := rep_int rb
      exact PyProof.Rows.add_int (Gr.int hs h)
    · exact h.elim
  · split at h
    · obtain ⟨l, vs, n, rfl, hl, rl, _⟩ := rep_ints ra
      obtain ⟨l2, vs2, n2, rfl, hl2, rl2, _⟩ := rep_ints rb
      refine P.add_list (hs _ _ hl) (hs _ _ hl2) ?_ ?_
      · exact Gr.newInts hs (by rw [Array.toList_append]; exact IntsAre.append rl rl2) (by simpa using h.1) h.2 _
      · have e1 := rl.length
        have e2 := rl2.length
        have := h.1
        simp only [Array.length_toList] at e1 e2
        rw [sizeLine_eq]; lia
    · exact h.elim
  · exact h.elim
theorem sub_ok : BinOk .Sub subT := by
  intro prog w A φ s a b va vb G E hs ra rb h
  unfold subT at h
  split at h
  · split at h
    · obtain ⟨t, rfl⟩ := rep_int ra
      obtain ⟨u, rfl⟩ := rep_int rb
      exact PyProof.Rows.sub_int' (Gr.int hs h)
    · exact h.elim
  · exact h.elim
theorem mul_ok : BinOk .Mult mulT := by
  intro prog w A φ s a b va vb G E hs ra rb h
  unfold mulT at h
  split at h
  · split at h
    · obtain ⟨t, rfl⟩ := rep_int ra
      obtain ⟨u, rfl⟩ := rep_int rb
      exact PyProof.Rows.mul_int (Gr.int hs h.2) (IntMulOk.of_left (intBits64 h.1))
    · exact h.elim
  · split at h
    · rename_i xs _ x
      obtain ⟨l, items, k, rfl, hl, rl, _⟩ := rep_ints ra
      obtain ⟨u, rfl⟩ := rep_int rb
      obtain ⟨h1, h2, h3, h4⟩ := h
      have e1 := rl.length
      simp only [Array.length_toList] at e1
      refine wpAny_binaryOp_repeat_ref (T := "list") (U := "int") (by decide) ⟨_, hs _ _ hl, rfl⟩ (fun s' => typeIs_int s' x u) noFill_list_mul F.fills_int_mul F.slot_int_rmul repeat_list F.slot_int_index.lookup
        (call_meets F.slot_int_rmul (typeIs_int s x u) F.entry_int_rmul (F.args_int_rmul_2 _ _) (int___rmul___int_list x u l items k)
          ⟨hs _ _ hl, rfl, ⟨_, hs _ _ hl, rfl⟩, call_meets F.slot_list_mul ⟨_, hs _ _ hl, rfl⟩ F.entry_list_mul (F.args_list_mul_2 _ _)
            (AutoListH.list___mul___list_int_3 l items k x u (by simp [Builtin.List.listFitsIndex]; lia) (by rw [e1]; lia) (by rw [e1]; simp [Builtin.List.listTooLong, sizeLine]; lia))
            ⟨hs _ _ hl, ?_⟩⟩)
      by_cases hem : items.isEmpty = true
      · rw [if_pos hem]
        have : xs = [] := by
          have : items.size = 0 := by simpa using hem
          rw [e1] at this
          exact List.length_eq_zero_iff.mp this
        subst this
        refine Gr.newInts hs ?_ (by simp) h4 _
        simpa using IntsAre.nil
      · rw [if_neg hem]
        exact Gr.newInts hs (flat_rep rl _) (by simp only [List.length_flatten, List.map_replicate, List.sum_replicate_nat]; rw [Nat.mul_comm]; exact h1) h4 _
    · exact h.elim
  · exact h.elim
theorem fdiv_ok : BinOk .FloorDiv fdivT := by
  intro prog w A φ s a b va vb G E hs ra rb h
  unfold fdivT at h
  split at h
  · split at h
    · obtain ⟨t, rfl⟩ := rep_int ra
      obtain ⟨u, rfl⟩ := rep_int rb
      exact PyProof.Rows.floordiv_int h.1 (Gr.int hs h.2.2) (Or.inl (PyProof.noPylong_small h.2.1))
    · exact h.elim
  · exact h.elim
theorem fmod_ok : BinOk .Mod fmodT := by
  intro prog w A φ s a b va vb G E hs ra rb h
  unfold fmodT at h
  split at h
  · split at h
    · obtain ⟨t, rfl⟩ := rep_int ra
      obtain ⟨u, rfl⟩ := rep_int rb
      exact PyProof.Rows.mod_int' h.1 (Gr.int hs h.2)
    · exact h.elim
  · exact h.elim
theorem shl_ok : BinOk .LShift shlT := by
  intro prog w A φ s a b va vb G E hs ra rb h
  unfold shlT at h
  split at h
  · split at h
    · obtain ⟨t, rfl⟩ := rep_int ra
      obtain ⟨u, rfl⟩ := rep_int rb
      exact PyProof.Rows.lshift_int_small h.1 h.2.1 h.2.2.1 (Gr.int hs h.2.2.2)
    · exact h.elim
  · exact h.elim
theorem shr_ok : BinOk .RShift shrT := by
  intro prog w A φ s a b va vb G E hs ra rb h
  unfold shrT at h
  split at h
  · split at h
    · obtain ⟨t, rfl⟩ := rep_int ra
      obtain ⟨u, rfl⟩ := rep_int rb
      exact PyProof.Rows.rshift_int h.1 (Gr.int hs h.2)
    · exact h.elim
  · exact h.elim
theorem and_ok : BinOk .BitAnd andT := by
  intro prog w A φ s a b va vb G E hs ra rb h
  unfold andT at h
  split at h
  · split at h
    · obtain ⟨t, rfl⟩ := rep_int ra
      obtain ⟨u, rfl⟩ := rep_int rb
      exact PyProof.Rows.and_int (Gr.int hs h)
    · exact h.elim
  · exact h.elim
theorem or_ok : BinOk .BitOr orT := by
  intro prog w A φ s a b va vb G E hs ra rb h
  unfold orT at h
  split at h
  · split at h
    · obtain ⟨t, rfl⟩ := rep_int ra
      obtain ⟨u, rfl⟩ := rep_int rb
      exact PyProof.Rows.or_int (Gr.int hs h)
    · exact h.elim
  · exact h.elim
theorem pow_ok : BinOk .Pow powT := by
  intro prog w A φ s a b va vb G E hs ra rb h
  unfold powT at h
  split at h
  · split at h
    · obtain ⟨t, rfl⟩ := rep_int ra
      obtain ⟨u, rfl⟩ := rep_int rb
      exact PyProof.Rows.pow_int_small h.1 h.2.1 h.2.2.1 (Gr.int hs h.2.2.2)
    · exact h.elim
  · exact h.elim

theorem iadd_ok : InpOk .Add addT := by
  intro prog w A φ s i j va vb G E hs ra rb h
  obtain ⟨t, rfl⟩ := rep_int ra
  obtain ⟨u, rfl⟩ := rep_int rb
  exact PyProof.Rows.iadd_int (Gr.int hs h)
theorem isub_ok : InpOk .Sub subT := by
  intro prog w A φ s i j va vb G E hs ra rb h
  obtain ⟨t, rfl⟩ := rep_int ra
  obtain ⟨u, rfl⟩ := rep_int rb
  exact PyProof.Rows.isub_int (Gr.int hs h)
theorem ior_ok : InpOk .BitOr orT := by
  intro prog w A φ s i j va vb G E hs ra rb h
  obtain ⟨t, rfl⟩ := rep_int ra
  obtain ⟨u, rfl⟩ := rep_int rb
  exact PyProof.Rows.ior_int (Gr.int hs h)
theorem ishr_ok : InpOk .RShift shrT := by
  intro prog w A φ s i j va vb G E hs ra rb h
  obtain ⟨t, rfl⟩ := rep_int ra
  obtain ⟨u, rfl⟩ := rep_int rb
  exact PyProof.Rows.irshift_int h.1 (Gr.int hs h.2)
theorem imod_ok : InpOk .Mod fmodT := by
  intro prog w A φ s i j va vb G E hs ra rb h
  obtain ⟨t, rfl⟩ := rep_int ra
  obtain ⟨u, rfl⟩ := rep_int rb
  exact PyProof.Rows.imod_int h.1 (Gr.int hs h.2)

section
variable {C : Cx}

def q_SE_bin (F : ET) (H : ET) (T : PV → PV → (PV → Prop) → Prop) : ET := fun σ G => F σ fun a => H σ fun b => T a b G
theorem zac (F : ET) (H : ET) (T : PV → PV → (PV → Prop) → Prop) (σ : List Sl) (G : PV → Prop) : q_SE_bin F H T σ G = (F σ fun a => H σ fun b => T a b G) := rfl
theorem SE.bin {l r : Expr} {F H : ET} {op : Operator} {T : PV → PV → (PV → Prop) → Prop} (ok : BinOk op T) (hl : SE C l F) (hr : SE C r H) (pos : Pos) :
    SE C (.BinOp l op r pos) (q_SE_bin F H T) := by
  intro φ V σ s G S R hF E
  refine wpAny_BinOp (wpAny_mono (hl φ V σ s _ S R hF E) (fun va s₁ h₁ => ?_) fun _ _ x => x)
  obtain ⟨φ₁, a, g₁, ra, hF₁⟩ := h₁
  refine wpAny_mono (hr φ₁ V σ s₁ _ (S.grow g₁) (R.grow g₁) hF₁ E) (fun vb s₂ h₂ => ?_) fun _ _ x => x
  obtain ⟨φ₂, b, g₂, rb, hT⟩ := h₂
  refine wpAny_mono (ok C.prog C.w C.A φ₂ s₂ a b va vb _ E g₂.here (Rep.mono g₂.sub _ _ ra) rb hT) (fun v s₃ h₃ => ?_) fun _ _ x => x
  obtain ⟨φ₃, x, g₃, rx, hx⟩ := h₃
  exact ⟨φ₃, x, (g₁.trans g₂).trans g₃, rx, hx⟩
end

end Mine

open PySem PySem.Calls PyProof.Rows
set_option Elab.async false
namespace Mine

mutual
def PV.eqv : PV → PV → Bool
  | .int i, .int j => i == j
  | .bool i, .bool j => i == j
  | .ints L, .ints M => L == M
  | .tup xs, .tup ys => PV.eqvL xs ys
  | _, _ => false
def PV.eqvL : List PV → List PV → Bool
  | [], [] => true
  | x :: xs, y :: ys => PV.eqv x y && PV.eqvL xs ys
  | _, _ => false
end
mutual
def PV.like : PV → PV → Prop
  | .int _, .int _ => True
  | .bool _, .bool _ => True
  | .ints _, .ints _ => True
  | .tup xs, .tup ys => PV.likeL xs ys
  | _, _ => False
def PV.likeL : List PV → List PV → Prop
  | [], [] => True
  | x :: xs, y :: ys => PV.like x y ∧ PV.likeL xs ys
  | _, _ => False
end
mutual
def PV.dp : PV → Nat
  | .ints _ => 1
  | .tup xs => PV.dpL xs + 1
  | _ => 0
def PV.dpL : List PV → Nat
  | [] => 0
  | x :: xs => max (PV.dp x) (PV.dpL xs)
end

theorem likeL_len : ∀ {xs ys : List PV}, PV.likeL xs ys → xs.length = ys.length
  | [], [], _ => rfl
  | x :: xs, y :: ys, h => by rw [PV.likeL] at h; simp [likeL_len h.2]
  | [], y :: ys, h => by simp [PV.likeL] at h
  | x :: xs, [], h => by simp [PV.likeL] at h
theorem likeL_get : ∀ {xs ys : List PV} (j : Nat) (h1 : j < xs.length) (h2 : j < ys.length), PV.likeL xs ys → PV.like xs[j] ys[j]
  | x :: xs, y :: ys, 0, _, _, h => by rw [PV.likeL] at h; exact h.1
  | x :: xs, y :: ys, j + 1, h1, h2, h => by rw [PV.likeL] at h; exact likeL_get j (by simpa using h1) (by simpa using h2) h.2
theorem dpL_get : ∀ {xs : List PV} (j : Nat) (h1 : j < xs.length), PV.dp xs[j] ≤ PV.dpL xs
  | x :: xs, 0, _ => by rw [PV.dpL]; exact Nat.le_max_left _ _
  | x :: xs, j + 1, h1 => by rw [PV.dpL]; exact Nat.le_trans (dpL_get j (by simpa using h1)) (Nat.le_max_right _ _)
theorem eqvL_all : ∀ {xs ys : List PV}, xs.length = ys.length → (List.range xs.length).all (fun j => PV.eqv (xs.getD j .none) (ys.getD j .none)) = PV.eqvL xs ys
  | [], [], _ => by simp [PV.eqvL]
  | x :: xs, y :: ys, h => by
    rw [List.length_cons, List.range_succ_eq_map, List.all_cons, List.all_map, PV.eqvL]
    have := eqvL_all (xs := xs) (ys := ys) (by simpa using h)
    rw [← this]
    rfl
theorem ints_all : ∀ {xs ys : List Int}, xs.length = ys.length → (List.range xs.length).all (fun j => xs.getD j 0 == ys.getD j 0) = (xs == ys)
  | [], [], _ => by simp
  | x :: xs, y :: ys, h => by
    rw [List.length_cons, List.range_succ_eq_map, List.all_cons, List.all_map]
    have := ints_all (xs := xs) (ys := ys) (by simpa using h)
    show _ = (x == y && xs == ys)
    rw [← this]
    rfl

theorem IntsAre.uniq : ∀ {vs : List Value} {a b : List Int}, IntsAre vs a → IntsAre vs b → a = b
  | _, _, _, .nil, h => by cases h; rfl
  | _, _, _, .cons n t r, h => by
    cases h with
    | cons _ _ r' => rw [IntsAre.uniq r r']

mutual
theorem rep_uniq {φ : Fz} : ∀ (a b : PV) (v : Value), Rep φ a v → Rep φ b v → PV.like a b → PV.eqv a b = true
  | .int i, .int j, v, ha, hb, _ => by
    rw [Rep] at ha hb
    obtain ⟨t, rfl⟩ := ha
    obtain ⟨u, e⟩ := hb
    cases e
    simp [PV.eqv]
  | .bool i, .bool j, v, ha, hb, _ => by
    rw [Rep] at ha hb
    subst ha; cases hb
    simp [PV.eqv]
  | .ints L, .ints M, v, ha, hb, _ => by
    rw [Rep] at ha hb
    obtain ⟨a, vs, n, rfl, h1, h2, _⟩ := ha
    obtain ⟨b, ws, m, e, h3, h4, _⟩ := hb
    cases e
    rw [h1] at h3
    cases h3
    rw [PV.eqv, IntsAre.uniq h2 h4]; simp
  | .tup xs, .tup ys, v, ha, hb, hl => by
    rw [Rep] at ha hb
    rw [PV.like] at hl
    obtain ⟨a, vs, n, rfl, h1, h2, _⟩ := ha
    obtain ⟨b, ws, m, e, h3, h4, _⟩ := hb
    cases e
    rw [h1] at h3
    cases h3
    rw [PV.eqv]
    exact repL_uniq xs ys _ h2 h4 hl
  | .none, b, _, _, _, hl => by cases b <;> simp [PV.like] at hl
  | .list _, b, _, _, _, hl => by cases b <;> simp [PV.like] at hl
  | .fn _, b, _, _, _, hl => by cases b <;> simp [PV.like] at hl
  | .int _, .none, _, _, _, hl | .int _, .bool _, _, _, _, hl | .int _, .ints _, _, _, _, hl | .int _, .list _, _, _, _, hl | .int _, .tup _, _, _, _, hl | .int _, .fn _, _, _, _, hl => by simp [PV.like] at hl
  | .bool _, .none, _, _, _, hl | .bool _, .int _, _, _, _, hl | .bool _, .ints _, _, _, _, hl | .bool _, .list _, _, _, _, hl | .bool _, .tup _, _, _, _, hl | .bool _, .fn _, _, _, _, hl => by simp [PV.like] at hl
  | .ints _, .none, _, _, _, hl | .ints _, .int _, _, _, _, hl | .ints _, .bool _, _, _, _, hl | .ints _, .list _, _, _, _, hl | .ints _, .tup _, _, _, _, hl | .ints _, .fn _, _, _, _, hl => by simp [PV.like] at hl
  | .tup _, .none, _, _, _, hl | .tup _, .int _, _, _, _, hl | .tup _, .bool _, _, _, _, hl | .tup _, .list _, _, _, _, hl | .tup _, .ints _, _, _, _, hl | .tup _, .fn _, _, _, _, hl => by simp [PV.like] at hl
theorem repL_uniq {φ : Fz} : ∀ (xs ys : List PV) (vs : List Value), RepL φ xs vs → RepL φ ys vs → PV.likeL xs ys → PV.eqvL xs ys = true
  | [], [], _, _, _, _ => by simp [PV.eqvL]
  | x :: xs, y :: ys, vs, ha, hb, hl => by
    rw [RepL] at ha hb
    rw [PV.likeL] at hl
    obtain ⟨v, r, rfl, h1, h2⟩ := ha
    obtain ⟨v', r', e, h3, h4⟩ := hb
    cases e
    rw [PV.eqvL, rep_uniq x y v h1 h3 hl.1, repL_uniq xs ys r h2 h4 hl.2]
    rfl
  | [], _ :: _, _, _, _, hl => by simp [PV.likeL] at hl
  | _ :: _, [], _, _, _, hl => by simp [PV.likeL] at hl
end

theorem RepL.at {φ : Fz} {xs : List PV} {vs : List Value} (h : RepL φ xs vs) (j : Nat) (h1 : j < vs.length) (h2 : j < xs.length) : Rep φ xs[j] vs[j] := by
  obtain ⟨v, e, r⟩ := h.get (i := j) (x := xs[j]) (by simp [h2])
  have : vs[j]? = some vs[j] := by simp [h1]
  rw [this] at e
  cases e
  exact r

theorem rc_ints {A : Around} {s : Shared} {φ : Fz} (hs : ∀ b o, φ b = some o → s.heap.get? b = some o) {L M : List Int} {va vb : Value} (ha : Rep φ (.ints L) va) (hb : Rep φ (.ints M) vb) (hu : A.units < cLine) :
    SeqAt.RcAt A s va vb (L == M) := by
  obtain ⟨a, vs, n, rfl, h1, h2, _⟩ := rep_ints ha
  obtain ⟨b, ws, m, rfl, h3, h4, _⟩ := rep_ints hb
  have la : s.heap.IsList a vs := ⟨_, hs _ _ h1, rfl, n, rfl⟩
  have lb : s.heap.IsList b ws := ⟨_, hs _ _ h3, rfl, m, rfl⟩
  have e1 := h2.length
  have e2 := h4.length
  simp only [Array.length_toList] at e1 e2
  by_cases hl : vs.size = ws.size
  · have := SeqAt.RcAt.lists (e := fun j => L.getD j 0 == M.getD j 0) la lb hl hu (fun j k1 k2 => by
      obtain ⟨t, et⟩ := h2.int_at j vs[j] (by simp [k1])
      obtain ⟨u, eu⟩ := h4.int_at j ws[j] (by simp [k2])
      rw [et, eu]
      exact SeqAt.EqAt.int_int _ _ _ _)
    rwa [e1, ints_all (by lia)] at this
  · have := SeqAt.RcAt.lists_lengths la lb (by simpa using hl) hu
    have hne : (L == M) = false := by
      apply beq_eq_false_iff_ne.mpr
      intro e; rw [e] at e1; lia
    rwa [hne]

theorem rc_tup_of {s : Shared} {φ : Fz} (hs : ∀ b o, φ b = some o → s.heap.get? b = some o) (xs ys : List PV) (A : Around) (va vb : Value) (hl : PV.likeL xs ys) (hu : A.units < cLine) (ha : Rep φ (.tup xs) va) (hb : Rep φ (.tup ys) vb)
    (K : ∀ (vs ws : List Value), RepL φ xs vs → RepL φ ys ws → ∀ (j : Nat) (h1 : j < vs.length) (h2 : j < ws.length), SeqAt.EqAt A.in1 s vs[j] ws[j] (PV.eqv (xs.getD j .none) (ys.getD j .none))) :
    SeqAt.RcAt A s va vb (PV.eqvL xs ys) := by
  obtain ⟨a, vs, n, rfl, h1, h2, _⟩ := rep_tup ha
  obtain ⟨b, ws, m, rfl, h3, h4, _⟩ := rep_tup hb
  have la : s.heap.IsTuple a vs := ⟨_, hs _ _ h1, rfl, n, rfl⟩
  have lb : s.heap.IsTuple b ws := ⟨_, hs _ _ h3, rfl, m, rfl⟩
  have e1 := h2.length
  have e2 := h4.length
  simp only [Array.length_toList] at e1 e2
  have ln := likeL_len hl
  have key := K vs.toList ws.toList h2 h4
  have := SeqAt.RcAt.tuples (e := fun j => PV.eqv (xs.getD j .none) (ys.getD j .none)) la lb hu (fun j k1 k2 => by
    have := key j (by simpa using k1) (by simpa using k2)
    simpa using this)
  rw [e1, e2, ← ln, Nat.min_self, eqvL_all ln, beq_self_eq_true, Bool.and_true] at this
  exact this
theorem rcne_tup_of {s : Shared} {φ : Fz} (hs : ∀ b o, φ b = some o → s.heap.get? b = some o) (xs ys : List PV) (A : Around) (va vb : Value) (hl : PV.likeL xs ys) (hu : A.units < cLine) (ha : Rep φ (.tup xs) va) (hb : Rep φ (.tup ys) vb)
    (K : ∀ (vs ws : List Value), RepL φ xs vs → RepL φ ys ws → ∀ (j : Nat) (h1 : j < vs.length) (h2 : j < ws.length), SeqAt.EqAt A.in1 s vs[j] ws[j] (PV.eqv (xs.getD j .none) (ys.getD j .none))) :
    SeqAt.RcNeAt A s va vb (!PV.eqvL xs ys) := by
  obtain ⟨a, vs, n, rfl, h1, h2, _⟩ := rep_tup ha
  obtain ⟨b, ws, m, rfl, h3, h4, _⟩ := rep_tup hb
  have la : s.heap.IsTuple a vs := ⟨_, hs _ _ h1, rfl, n, rfl⟩
  have lb : s.heap.IsTuple b ws := ⟨_, hs _ _ h3, rfl, m, rfl⟩
  have e1 := h2.length
  have e2 := h4.length
  simp only [Array.length_toList] at e1 e2
  have ln := likeL_len hl
  have key := K vs.toList ws.toList h2 h4
  have := SeqAt.RcNeAt.tuples (e := fun j => PV.eqv (xs.getD j .none) (ys.getD j .none)) la lb hu (fun j k1 k2 => by
    have := key j (by simpa using k1) (by simpa using k2)
    simpa using this)
  rw [e1, e2, ← ln, Nat.min_self, eqvL_all ln, beq_self_eq_true, Bool.and_true] at this
  exact this

mutual
theorem eq_at {s : Shared} {φ : Fz} (hs : ∀ b o, φ b = some o → s.heap.get? b = some o) : ∀ (a b : PV) (A : Around) (va vb : Value), PV.like a b → A.units + PV.dp a < cLine → Rep φ a va → Rep φ b vb →
    SeqAt.EqAt A s va vb (PV.eqv a b)
  | .int i, .int j, A, va, vb, _, _, ha, hb => by
    obtain ⟨t, rfl⟩ := rep_int ha
    obtain ⟨u, rfl⟩ := rep_int hb
    rw [PV.eqv]; exact SeqAt.EqAt.int_int _ _ _ _
  | .bool i, .bool j, A, va, vb, _, _, ha, hb => by
    have := rep_bool ha; subst this
    have := rep_bool hb; subst this
    rw [PV.eqv]; exact SeqAt.EqAt.bool_bool _ _
  | .ints L, .ints M, A, va, vb, hl, hu, ha, hb => by
    have R := rc_ints hs ha hb (A := A) (by lia)
    obtain ⟨a, vs, n, rfl, h1, h2, h5⟩ := rep_ints ha
    obtain ⟨b, ws, m, rfl, h3, h4, h6⟩ := rep_ints hb
    rw [PV.eqv]
    by_cases hab : a = b
    · subst hab
      rw [h1] at h3; cases h3
      rw [IntsAre.uniq h2 h4, beq_self_eq_true]
      exact SeqAt.EqAt.same _
    · exact SeqAt.EqAt.of_refs hab R
  | .tup xs, .tup ys, A, va, vb, hl, hu, ha, hb => by
    have U := rep_uniq (φ := φ) (.tup xs) (.tup ys)
    have hl' : PV.likeL xs ys := by rw [PV.like] at hl; exact hl
    have hu' : A.units + (PV.dpL xs + 1) < cLine := by rw [PV.dp] at hu; exact hu
    have R := rc_tup_of hs xs ys A va vb hl' (by lia) ha hb (fun vs ws h2 h4 => els_at hs xs ys A.in1 vs ws hl' (by rw [Around.in1_units]; lia) h2 h4)
    obtain ⟨a, vs, n, rfl, h1, h2, h5⟩ := rep_tup ha
    obtain ⟨b, ws, m, rfl, h3, h4, h6⟩ := rep_tup hb
    by_cases hab : a = b
    · subst hab
      rw [U _ ha hb hl]
      exact SeqAt.EqAt.same _
    · rw [PV.eqv]; exact SeqAt.EqAt.of_refs hab R
  | .none, b, _, _, _, hl, _, _, _ => by cases b <;> simp [PV.like] at hl
  | .list _, b, _, _, _, hl, _, _, _ => by cases b <;> simp [PV.like] at hl
  | .fn _, b, _, _, _, hl, _, _, _ => by cases b <;> simp [PV.like] at hl
  | .int _, .none, _, _, _, hl, _, _, _ | .int _, .bool _, _, _, _, hl, _, _, _ | .int _, .ints _, _, _, _, hl, _, _, _ | .int _, .list _, _, _, _, hl, _, _, _ | .int _, .tup _, _, _, _, hl, _, _, _ | .int _, .fn _, _, _, _, hl, _, _, _ => by simp [PV.like] at hl
  | .bool _, .none, _, _, _, hl, _, _, _ | .bool _, .int _, _, _, _, hl, _, _, _ | .bool _, .ints _, _, _, _, hl, _, _, _ | .bool _, .list _, _, _, _, hl, _, _, _ | .bool _, .tup _, _, _, _, hl, _, _, _ | .bool _, .fn _, _, _, _, hl, _, _, _ => by simp [PV.like] at hl
  | .ints _, .none, _, _, _, hl, _, _, _ | .ints _, .int _, _, _, _, hl, _, _, _ | .ints _, .bool _, _, _, _, hl, _, _, _ | .ints _, .list _, _, _, _, hl, _, _, _ | .ints _, .tup _, _, _, _, hl, _, _, _ | .ints _, .fn _, _, _, _, hl, _, _, _ => by simp [PV.like] at hl
  | .tup _, .none, _, _, _, hl, _, _, _ | .tup _, .int _, _, _, _, hl, _, _, _ | .tup _, .bool _, _, _, _, hl, _, _, _ | .tup _, .list _, _, _, _, hl, _, _, _ | .tup _, .ints _, _, _, _, hl, _, _, _ | .tup _, .fn _, _, _, _, hl, _, _, _ => by simp [PV.like] at hl
theorem els_at {s : Shared} {φ : Fz} (hs : ∀ b o, φ b = some o → s.heap.get? b = some o) : ∀ (xs ys : List PV) (A : Around) (vs ws : List Value), PV.likeL xs ys → A.units + PV.dpL xs < cLine → RepL φ xs vs → RepL φ ys ws →
    ∀ (j : Nat) (h1 : j < vs.length) (h2 : j < ws.length), SeqAt.EqAt A s vs[j] ws[j] (PV.eqv (xs.getD j .none) (ys.getD j .none))
  | [], ys, A, vs, ws, hl, hu, ha, hb => by
    rw [RepL] at ha; subst ha
    intro j h1; simp at h1
  | x :: xs, [], A, vs, ws, hl, hu, ha, hb => by
    rw [RepL] at hb; subst hb
    intro j h1 h2; simp at h2
  | x :: xs, y :: ys, A, vs, ws, hl, hu, ha, hb => by
    rw [RepL] at ha hb
    rw [PV.likeL] at hl
    rw [PV.dpL] at hu
    obtain ⟨v, r, rfl, hv, hr⟩ := ha
    obtain ⟨w, q, rfl, hw, hq⟩ := hb
    intro j h1 h2
    cases j with
    | zero => exact eq_at hs x y A v w hl.1 (Nat.lt_of_le_of_lt (Nat.add_le_add_left (Nat.le_max_left _ _) _) hu) hv hw
    | succ j => exact els_at hs xs ys A r q hl.2 (Nat.lt_of_le_of_lt (Nat.add_le_add_left (Nat.le_max_right _ _) _) hu) hr hq j (by simpa using h1) (by simpa using h2)
end
theorem rcne_ints {A : Around} {s : Shared} {φ : Fz} (hs : ∀ b o, φ b = some o → s.heap.get? b = some o) {L M : List Int} {va vb : Value} (ha : Rep φ (.ints L) va) (hb : Rep φ (.ints M) vb) (hu : A.units < cLine) :
    SeqAt.RcNeAt A s va vb (!(L == M)) := by
  obtain ⟨a, vs, n, rfl, h1, h2, _⟩ := rep_ints ha
  obtain ⟨b, ws, m, rfl, h3, h4, _⟩ := rep_ints hb
  have la : s.heap.IsList a vs := ⟨_, hs _ _ h1, rfl, n, rfl⟩
  have lb : s.heap.IsList b ws := ⟨_, hs _ _ h3, rfl, m, rfl⟩
  have e1 := h2.length
  have e2 := h4.length
  simp only [Array.length_toList] at e1 e2
  by_cases hl : vs.size = ws.size
  · have := SeqAt.RcNeAt.lists (e := fun j => L.getD j 0 == M.getD j 0) la lb hl hu (fun j k1 k2 => by
      obtain ⟨t, et⟩ := h2.int_at j vs[j] (by simp [k1])
      obtain ⟨u, eu⟩ := h4.int_at j ws[j] (by simp [k2])
      rw [et, eu]
      exact SeqAt.EqAt.int_int _ _ _ _)
    rwa [e1, ints_all (by lia)] at this
  · have := SeqAt.RcNeAt.lists_lengths la lb (by simpa using hl) hu
    have hne : (L == M) = false := by
      apply beq_eq_false_iff_ne.mpr
      intro e; rw [e] at e1; lia
    rwa [hne]

abbrev CT := PV → PV → (Bool → Prop) → Prop
def ltT : CT := fun a b G => match a with | .int i => (match b with | .int j => G (decide (i < j)) | _ => False) | _ => False
def leT : CT := fun a b G => match a with | .int i => (match b with | .int j => G (decide (i ≤ j)) | _ => False) | _ => False
def gtT : CT := fun a b G => match a with | .int i => (match b with | .int j => G (decide (j < i)) | _ => False) | _ => False
def geT : CT := fun a b G => match a with | .int i => (match b with | .int j => G (decide (j ≤ i)) | _ => False) | _ => False
def eqT : CT := fun a b G => match a with
  | .int i => (match b with | .int j => G (i == j) | _ => False)
  | .bool i => (match b with | .bool j => G (i == j) | _ => False)
  | _ => False
def neT : CT := fun a b G => match a with
  | .int i => (match b with | .int j => G (i != j) | _ => False)
  | .bool i => (match b with | .bool j => G (i != j) | _ => False)
  | .tup xs => (match b with | .tup ys => PV.likeL xs ys ∧ PV.dp (.tup xs) ≤ 6 ∧ G (!PV.eqvL xs ys) | _ => False)
  | _ => False

def CmpOk (op : CmpOp) (T : CT) : Prop :=
  ∀ (prog : Program) (w : World) (A : Around) (φ : Fz) (s : Shared) (a b : PV) (va vb : Value) (G : Bool → Prop) (E : Value → Shared → Prop),
    A.units + 8 < cLine → (∀ b o, φ b = some o → s.heap.get? b = some o) → Rep φ a va → Rep φ b vb → T a b G → wpAny (model prog w) A (compareOp op va vb) (fun v s' => s' = s ∧ ∃ b, v = .bool b ∧ G b) E s

theorem lt_ok : CmpOk .Lt ltT := by
  intro prog w A φ s a b va vb G E hu hs ra rb h
  unfold ltT at h
  split at h
  · split at h
    · obtain ⟨t, rfl⟩ := rep_int ra
      obtain ⟨u, rfl⟩ := rep_int rb
      exact PyProof.Rows.lt_int ⟨rfl, _, rfl, h⟩
    · exact h.elim
  · exact h.elim
theorem le_ok : CmpOk .LtE leT := by
  intro prog w A φ s a b va vb G E hu hs ra rb h
  unfold leT at h
  split at h
  · split at h
    · obtain ⟨t, rfl⟩ := rep_int ra
      obtain ⟨u, rfl⟩ := rep_int rb
      exact PyProof.Rows.le_int ⟨rfl, _, rfl, h⟩
    · exact h.elim
  · exact h.elim
theorem gt_ok : CmpOk .Gt gtT := by
  intro prog w A φ s a b va vb G E hu hs ra rb h
  unfold gtT at h
  split at h
  · split at h
    · obtain ⟨t, rfl⟩ := rep_int ra
      obtain ⟨u, rfl⟩ := rep_int rb
      exact PyProof.Rows.gt_int ⟨rfl, _, rfl, h⟩
    · exact h.elim
  · exact h.elim
theorem ge_ok : CmpOk .GtE geT := by
  intro prog w A φ s a b va vb G E hu hs ra rb h
  unfold geT at h
  split at h
  · split at h
    · obtain ⟨t, rfl⟩ := rep_int ra
      obtain ⟨u, rfl⟩ := rep_int rb
      exact PyProof.Rows.ge_int ⟨rfl, _, rfl, h⟩
    · exact h.elim
  · exact h.elim
theorem eq_ok : CmpOk .Eq eqT := by
  intro prog w A φ s a b va vb G E hu hs ra rb h
  unfold eqT at h
  split at h
  · split at h
    · obtain ⟨t, rfl⟩ := rep_int ra
      obtain ⟨u, rfl⟩ := rep_int rb
      exact PyProof.Rows.eq_int ⟨rfl, _, rfl, h⟩
    · exact h.elim
  · split at h
    · have := rep_bool ra; subst this
      have := rep_bool rb; subst this
      exact PyProof.Rows.eq_bool ⟨rfl, _, rfl, h⟩
    · exact h.elim
  · exact h.elim
theorem ne_ok : CmpOk .NotEq neT := by
  intro prog w A φ s a b va vb G E hu hs ra rb h
  unfold neT at h
  split at h
  · split at h
    · obtain ⟨t, rfl⟩ := rep_int ra
      obtain ⟨u, rfl⟩ := rep_int rb
      exact PyProof.Rows.ne_int ⟨rfl, _, rfl, h⟩
    · exact h.elim
  · split at h
    · have := rep_bool ra; subst this
      have := rep_bool rb; subst this
      exact PyProof.Rows.ne_bool ⟨rfl, _, rfl, h⟩
    · exact h.elim
  · split at h
    · rename_i xs _ ys
      obtain ⟨h1, h2, h3⟩ := h
      rw [PV.dp] at h2
      have R := rcne_tup_of hs xs ys A va vb h1 (by lia) ra rb (fun vs ws h4 h5 => els_at hs xs ys A.in1 vs ws h1 (by rw [Around.in1_units]; lia) h4 h5)
      exact R prog w E _ ⟨rfl, _, rfl, h3⟩
    · exact h.elim
  · exact h.elim

end Mine

open PySem PySem.Calls PyProof.Rows
set_option Elab.async false
namespace Mine

abbrev BT := List Sl → (Bool → Prop) → Prop
def STr (C : Cx) (e : Expr) (F : BT) : Prop :=
  ∀ φ V σ s G, St C φ → RS C.env C.ns φ V σ s.heap → F σ G → ∀ E,
    wpAny (model C.prog C.w) C.A (isTrue e C.env (eval e C.env)) (fun b s' => ∃ φ', Grow φ s φ' s' ∧ G b) E s

def boolT (a : PV) (G : Bool → Prop) : Prop := match a with | .bool b => G b | _ => False
def then' (c : Bool) (a b : Prop) : Prop := (c = true → a) ∧ (c = false → b)

section
variable {C : Cx} {d : Nat}

def q_STr_val (F : ET) : BT := fun σ G => F σ fun a => boolT a G
theorem zad (F : ET) (σ : List Sl) (G : Bool → Prop) : q_STr_val F σ G = (F σ fun a => boolT a G) := rfl
theorem STr.val {e : Expr} {F : ET} (h : SE C e F) (he : ∀ env whole, isTrue e env whole = (do let v ← whole; standAt e.pos; holding [v] (truthy v)) := by intro _ _; rfl) : STr C e (q_STr_val F) := by
  intro φ V σ s G S R hF E
  refine wpAny_isTrue_value (wpAny_mono (h φ V σ s _ S R hF E) (fun v s₁ h₁ => ?_) fun _ _ x => x) (he _ _)
  obtain ⟨φ₁, a, g₁, ra, hb⟩ := h₁
  unfold boolT at hb
  split at hb
  · have := rep_bool ra; subst this
    exact wpAny_truthy_bool ⟨φ₁, g₁, hb⟩
  · exact hb.elim

def q_SE_cmp (F : ET) (H : ET) (T : CT) : ET := fun σ G => F σ fun a => H σ fun b => T a b fun c => G (.bool c)
theorem zae (F : ET) (H : ET) (T : CT) (σ : List Sl) (G : PV → Prop) : q_SE_cmp F H T σ G = (F σ fun a => H σ fun b => T a b fun c => G (.bool c)) := rfl
theorem SE.cmp {l r : Expr} {F H : ET} {op : CmpOp} {T : CT} (O : C.Ok d) (ok : CmpOk op T) (hl : SE C l F) (hr : SE C r H) (pos : Pos) (hm : behindInMarks op r = false := by rfl) :
    SE C (.Compare l [op] [r] pos) (q_SE_cmp F H T) := by
  intro φ V σ s G S R hF E
  refine wpAny_Compare1 (wpAny_mono (hl φ V σ s _ S R hF E) (fun va s₁ h₁ => ?_) fun _ _ x => x) hm
  obtain ⟨φ₁, a, g₁, ra, hF₁⟩ := h₁
  refine wpAny_mono (hr φ₁ V σ s₁ _ (S.grow g₁) (R.grow g₁) hF₁ E) (fun vb s₂ h₂ => ?_) fun _ _ x => x
  obtain ⟨φ₂, b, g₂, rb, hT⟩ := h₂
  have hu := O.room.2.2
  refine wpAny_mono (ok C.prog C.w C.A φ₂ s₂ a b va vb _ E (by lia) g₂.here (Rep.mono g₂.sub _ _ ra) rb hT) (fun v s₃ h₃ => ?_) fun _ _ x => x
  obtain ⟨rfl, c, rfl, hc⟩ := h₃
  exact ⟨φ₂, .bool c, g₁.trans g₂, by rw [Rep], hc⟩

def q_STr_cmp (F : ET) (H : ET) (T : CT) : BT := fun σ G => F σ fun a => H σ fun b => T a b G
theorem zaf (F : ET) (H : ET) (T : CT) (σ : List Sl) (G : Bool → Prop) : q_STr_cmp F H T σ G = (F σ fun a => H σ fun b => T a b G) := rfl
theorem STr.cmp {l r : Expr} {F H : ET} {op : CmpOp} {T : CT} (O : C.Ok d) (ok : CmpOk op T) (hl : SE C l F) (hr : SE C r H) (pos : Pos) (hm : behindInMarks op r = false := by rfl) :
    STr C (.Compare l [op] [r] pos) (q_STr_cmp F H T) := by
  intro φ V σ s G S R hF E
  refine wpAny_isTrue_Compare1 (wpAny_mono (hl φ V σ s _ S R hF E) (fun va s₁ h₁ => ?_) fun _ _ x => x) hm
  obtain ⟨φ₁, a, g₁, ra, hF₁⟩ := h₁
  refine wpAny_mono (hr φ₁ V σ s₁ _ (S.grow g₁) (R.grow g₁) hF₁ E) (fun vb s₂ h₂ => ?_) fun _ _ x => x
  obtain ⟨φ₂, b, g₂, rb, hT⟩ := h₂
  have hu := O.room.2.2
  refine wpAny_mono (ok C.prog C.w C.A φ₂ s₂ a b va vb _ E (by lia) g₂.here (Rep.mono g₂.sub _ _ ra) rb hT) (fun v s₃ h₃ => ?_) fun _ _ x => x
  obtain ⟨rfl, c, rfl, hc⟩ := h₃
  exact wpAny_truthy_bool ⟨φ₂, g₁.trans g₂, hc⟩

def q_STr_and (F : BT) (H : BT) : BT := fun σ G => F σ fun c => then' c (H σ fun c' => G c') (G false)
theorem zag (F : BT) (H : BT) (σ : List Sl) (G : Bool → Prop) : q_STr_and F H σ G = (F σ fun c => then' c (H σ fun c' => G c') (G false)) := rfl
theorem STr.and {x y : Expr} {F H : BT} (hx : STr C x F) (hy : STr C y H) (pos : Pos) : STr C (.BoolOp .And [x, y] pos) (q_STr_and F H) := by
  intro φ V σ s G S R hF E
  refine wpAny_isTrue_BoolOp (wpAny_allTrue_And_cons (wpAny_mono (hx φ V σ s _ S R hF E) (fun c s₁ h₁ => ?_) fun _ _ x => x))
  obtain ⟨φ₁, g₁, t⟩ := h₁
  cases c with
  | false => exact ⟨φ₁, g₁, t.2 rfl⟩
  | true =>
    refine wpAny_allTrue_And_cons (wpAny_mono (hy φ₁ V σ s₁ _ (S.grow g₁) (R.grow g₁) (t.1 rfl) E) (fun c s₂ h₂ => ?_) fun _ _ x => x)
    obtain ⟨φ₂, g₂, t₂⟩ := h₂
    cases c with
    | false => exact ⟨φ₂, g₁.trans g₂, t₂⟩
    | true => exact wpAny_allTrue_And_nil ⟨φ₂, g₁.trans g₂, t₂⟩

def q_STr_or (F : BT) (H : BT) : BT := fun σ G => F σ fun c => then' c (G true) (H σ fun c' => G c')
theorem zah (F : BT) (H : BT) (σ : List Sl) (G : Bool → Prop) : q_STr_or F H σ G = (F σ fun c => then' c (G true) (H σ fun c' => G c')) := rfl
theorem STr.or {x y : Expr} {F H : BT} (hx : STr C x F) (hy : STr C y H) (pos : Pos) : STr C (.BoolOp .Or [x, y] pos) (q_STr_or F H) := by
  intro φ V σ s G S R hF E
  refine wpAny_isTrue_BoolOp (wpAny_allTrue_Or_cons (wpAny_mono (hx φ V σ s _ S R hF E) (fun c s₁ h₁ => ?_) fun _ _ x => x))
  obtain ⟨φ₁, g₁, t⟩ := h₁
  cases c with
  | true => exact ⟨φ₁, g₁, t.1 rfl⟩
  | false =>
    refine wpAny_allTrue_Or_cons (wpAny_mono (hy φ₁ V σ s₁ _ (S.grow g₁) (R.grow g₁) (t.2 rfl) E) (fun c s₂ h₂ => ?_) fun _ _ x => x)
    obtain ⟨φ₂, g₂, t₂⟩ := h₂
    cases c with
    | true => exact ⟨φ₂, g₁.trans g₂, t₂⟩
    | false => exact wpAny_allTrue_Or_nil ⟨φ₂, g₁.trans g₂, t₂⟩

def q_SE_ifexp (F : BT) (H : ET) (K : ET) : ET := fun σ G => F σ fun c => then' c (H σ G) (K σ G)
theorem zai (F : BT) (H : ET) (K : ET) (σ : List Sl) (G : PV → Prop) : q_SE_ifexp F H K σ G = (F σ fun c => then' c (H σ G) (K σ G)) := rfl
theorem SE.ifexp {t b o : Expr} {F : BT} {H K : ET} (ht : STr C t F) (hb : SE C b H) (ho : SE C o K) (pos : Pos) : SE C (.IfExp t b o pos) (q_SE_ifexp F H K) := by
  intro φ V σ s G S R hF E
  refine wpAny_IfExp (wpAny_mono (ht φ V σ s _ S R hF E) (fun c s₁ h₁ => ?_) fun _ _ x => x)
  obtain ⟨φ₁, g₁, t₁⟩ := h₁
  cases c with
  | true =>
    refine wpAny_mono (hb φ₁ V σ s₁ _ (S.grow g₁) (R.grow g₁) (t₁.1 rfl) E) (fun v s₂ h₂ => ?_) fun _ _ x => x
    obtain ⟨φ₂, x, g₂, r, h⟩ := h₂
    exact ⟨φ₂, x, g₁.trans g₂, r, h⟩
  | false =>
    refine wpAny_mono (ho φ₁ V σ s₁ _ (S.grow g₁) (R.grow g₁) (t₁.2 rfl) E) (fun v s₂ h₂ => ?_) fun _ _ x => x
    obtain ⟨φ₂, x, g₂, r, h⟩ := h₂
    exact ⟨φ₂, x, g₁.trans g₂, r, h⟩

def q_SE_and2 (F : ET) (H : ET) : ET := fun σ G => F σ fun a => boolT a fun c => then' c (H σ G) (G (.bool false))
theorem zaj (F : ET) (H : ET) (σ : List Sl) (G : PV → Prop) : q_SE_and2 F H σ G = (F σ fun a => boolT a fun c => then' c (H σ G) (G (.bool false))) := rfl
theorem SE.and2 {x y : Expr} {F H : ET} (hx : SE C x F) (hy : SE C y H) (pos : Pos) : SE C (.BoolOp .And [x, y] pos) (q_SE_and2 F H) := by
  intro φ V σ s G S R hF E
  refine wpAny_And2 (wpAny_mono (hx φ V σ s _ S R hF E) (fun v s₁ h₁ => ?_) fun _ _ x => x)
  obtain ⟨φ₁, a, g₁, ra, hb⟩ := h₁
  unfold boolT at hb
  split at hb
  · rename_i c
    have := rep_bool ra; subst this
    refine wpAny_truthy_bool ?_
    cases c with
    | true =>
      refine wpAny_mono (hy φ₁ V σ s₁ _ (S.grow g₁) (R.grow g₁) (hb.1 rfl) E) (fun v s₂ h₂ => ?_) fun _ _ x => x
      obtain ⟨φ₂, x, g₂, r, h⟩ := h₂
      exact ⟨φ₂, x, g₁.trans g₂, r, h⟩
    | false => exact ⟨φ₁, .bool false, g₁, by rw [Rep], hb.2 rfl⟩
  · exact hb.elim

abbrev LT := List Sl → (List PV → Prop) → Prop
def SEs (C : Cx) (es : List Expr) (F : LT) : Prop :=
  ∀ φ V σ s G, St C φ → RS C.env C.ns φ V σ s.heap → F σ G → ∀ (pos : Pos) E,
    wpAny (model C.prog C.w) C.A (spliced (backTo pos (starEach es C.env))) (fun vs s' => ∃ φ' xs, Grow φ s φ' s' ∧ RepL φ' xs vs ∧ xs.length = es.length ∧ G xs) E s

def q_SEs_nil : LT := fun _ G => G []
theorem zak (σ : List Sl) (G : List PV → Prop) : q_SEs_nil σ G = (G []) := rfl
theorem SEs.nil : SEs C [] q_SEs_nil := by
  intro φ V σ s G S R hF pos E
  exact wpAny_items_nil ⟨φ, [], Grow.refl R.sub, by rw [RepL], rfl, hF⟩
def q_SEs_cons (F : ET) (H : LT) : LT := fun σ G => F σ fun a => H σ fun as => G (a :: as)
theorem zal (F : ET) (H : LT) (σ : List Sl) (G : List PV → Prop) : q_SEs_cons F H σ G = (F σ fun a => H σ fun as => G (a :: as)) := rfl
theorem SEs.cons {e : Expr} {rest : List Expr} {F : ET} {H : LT} (he : SE C e F) (hr : SEs C rest H) (hst : ∀ env, starEach (e :: rest) env = (false, eval e env) :: starEach rest env := by intro _; rfl) :
    SEs C (e :: rest) (q_SEs_cons F H) := by
  intro φ V σ s G S R hF pos E
  refine wpAny_items_cons (wpAny_mono (he φ V σ s _ S R hF E) (fun v s₁ h₁ => ?_) fun _ _ x => x) (hst _)
  obtain ⟨φ₁, a, g₁, ra, hF₁⟩ := h₁
  refine wpAny_mono (hr φ₁ V σ s₁ _ (S.grow g₁) (R.grow g₁) hF₁ pos E) (fun vs s₂ h₂ => ?_) fun _ _ x => x
  obtain ⟨φ₂, xs, g₂, rxs, hl, hG⟩ := h₂
  refine ⟨φ₂, a :: xs, g₁.trans g₂, ?_, by simp [hl], hG⟩
  rw [RepL]
  exact ⟨v, vs, rfl, Rep.mono g₂.sub _ _ ra, rxs⟩

def q_SE_tuple (F : LT) : ET := fun σ G => F σ fun xs => G (.tup xs)
theorem zam (F : LT) (σ : List Sl) (G : PV → Prop) : q_SE_tuple F σ G = (F σ fun xs => G (.tup xs)) := rfl
theorem SE.tuple {es : List Expr} {F : LT} (h : SEs C es F) (k : Nat) (pos : Pos) (hn : es.length ≤ 1000 := by decide) : SE C (.Tuple es k pos) (q_SE_tuple F) := by
  intro φ V σ s G S R hF E
  refine wpAny_Tuple_spliced (wpAny_mono (h φ V σ s _ S R hF pos E) (fun vs s₁ h₁ => ?_) fun _ _ x => x)
  obtain ⟨φ₁, xs, g₁, r, hl, hG⟩ := h₁
  have hlen := r.length
  refine ⟨by rw [sizeLine_eq]; lia, ?_⟩
  obtain ⟨φ₂, x, g₂, rx, hx⟩ := Gr.newTup (G := G) (n := 0) (vs := vs.toArray) (xs := xs) g₁.here (by simpa using r) (by lia) hG s₁.toks
  exact ⟨φ₂, x, g₁.trans g₂, rx, hx⟩

def intsOf : List PV → Option (List Int)
  | [] => some []
  | .int i :: r => (intsOf r).map (i :: ·)
  | _ => none
theorem intsOf_are {φ : Fz} : ∀ {xs : List PV} {L : List Int} {vs : List Value}, intsOf xs = some L → RepL φ xs vs → IntsAre vs L ∧ L.length = xs.length
  | [], L, vs, h, r => by
    cases h
    rw [RepL] at r; subst r
    exact ⟨.nil, rfl⟩
  | .int i :: xs, L, vs, h, r => by
    rw [RepL] at r
    obtain ⟨v, t, rfl, hv, ht⟩ := r
    obtain ⟨u, rfl⟩ := rep_int hv
    rw [intsOf] at h
    cases hL : intsOf xs with
    | none => rw [hL] at h; cases h
    | some L' =>
      rw [hL] at h
      cases h
      obtain ⟨a, b⟩ := intsOf_are hL ht
      exact ⟨.cons i u a, by simp [b]⟩
  | .none :: _, _, _, h, _ | .bool _ :: _, _, _, h, _ | .ints _ :: _, _, _, h, _ | .list _ :: _, _, _, h, _ | .tup _ :: _, _, _, h, _ | .fn _ :: _, _, _, h, _ => by simp [intsOf] at h

def intsT (xs : List PV) (G : List Int → Prop) : Prop := match intsOf xs with | some L => G L | none => False

def q_SE_listI (F : LT) : ET := fun σ G => F σ fun xs => intsT xs fun L => G (.ints L)
theorem zan (F : LT) (σ : List Sl) (G : PV → Prop) : q_SE_listI F σ G = (F σ fun xs => intsT xs fun L => G (.ints L)) := rfl
theorem SE.listI {es : List Expr} {F : LT} (h : SEs C es F) (pos : Pos) (hn : es.length ≤ 1000 := by decide) : SE C (.List es pos) (q_SE_listI F) := by
  intro φ V σ s G S R hF E
  refine wpAny_List_spliced (wpAny_mono (h φ V σ s _ S R hF pos E) (fun vs s₁ h₁ => ?_) fun _ _ x => x)
  obtain ⟨φ₁, xs, g₁, r, hl, hG⟩ := h₁
  have hlen := r.length
  refine ⟨by rw [sizeLine_eq]; lia, ?_⟩
  unfold intsT at hG
  split at hG
  · rename_i L hL
    obtain ⟨a, b⟩ := intsOf_are hL r
    obtain ⟨φ₂, x, g₂, rx, hx⟩ := Gr.newInts (G := G) (n := 0) (vs := vs.toArray) (L := L) g₁.here (by simpa using a) (by lia) hG s₁.toks
    exact ⟨φ₂, x, g₁.trans g₂, rx, hx⟩
  · exact hG.elim

def BRep (φ : Fz) (h : Heap) (p : PV) (v : Value) : Prop := ∃ a, v = .ref a ∧ ((∃ vs n, h.get? a = some (lobj vs n) ∧ Cont φ p vs) ∨ ∃ xs vs n, p = .tup xs ∧ h.get? a = some (tobj vs n) ∧ RepL φ xs vs.toList ∧ xs.length ≤ 1000000)
theorem BRep.grow {φ φ' : Fz} {s s' : Shared} {p : PV} {v : Value} (b : BRep φ s.heap p v) (g : Grow φ s φ' s') : BRep φ' s'.heap p v := by
  obtain ⟨a, rfl, h⟩ := b
  refine ⟨a, rfl, ?_⟩
  rcases h with ⟨vs, n, h, c⟩ | ⟨xs, vs, n, e, h, r, l⟩
  · exact .inl ⟨vs, n, (g.keep _ _ h).1, c.mono g.sub⟩
  · exact .inr ⟨xs, vs, n, e, (g.keep _ _ h).1, RepL.mono g.sub _ _ r, l⟩
def SB (C : Cx) (e : Expr) (F : ET) : Prop :=
  ∀ φ V σ s G, St C φ → RS C.env C.ns φ V σ s.heap → F σ G → ∀ E,
    wpAny (model C.prog C.w) C.A (eval e C.env) (fun v s' => ∃ φ' p, Grow φ s φ' s' ∧ BRep φ' s'.heap p v ∧ G p) E s

def seqT (p : PV) (G : PV → Prop) : Prop := match p with
  | .ints _ => G p
  | .list _ => G p
  | .tup _ => G p
  | _ => False
def q_SB_of (F : ET) : ET := fun σ G => F σ fun p => seqT p G
theorem zao (F : ET) (σ : List Sl) (G : PV → Prop) : q_SB_of F σ G = (F σ fun p => seqT p G) := rfl
theorem SB.of {e : Expr} {F : ET} (h : SE C e F) : SB C e (q_SB_of F) := by
  intro φ V σ s G S R hF E
  refine wpAny_mono (h φ V σ s _ S R hF E) (fun v s₁ h₁ => ?_) fun _ _ x => x
  obtain ⟨φ₁, p, g₁, r, hG⟩ := h₁
  refine ⟨φ₁, p, g₁, ?_⟩
  unfold seqT at hG
  split at hG
  · obtain ⟨a, vs, n, rfl, h1, c⟩ := rep_ints r
    exact ⟨⟨a, rfl, .inl ⟨vs, n, g₁.here _ _ h1, c⟩⟩, hG⟩
  · obtain ⟨a, vs, n, rfl, h1, c⟩ := rep_list r
    exact ⟨⟨a, rfl, .inl ⟨vs, n, g₁.here _ _ h1, c⟩⟩, hG⟩
  · obtain ⟨a, vs, n, rfl, h1, c⟩ := rep_tup r
    exact ⟨⟨a, rfl, .inr ⟨_, vs, n, rfl, g₁.here _ _ h1, c⟩⟩, hG⟩
  · exact hG.elim

def ownT (i : Nat) : ET := fun σ G => match sg σ i with | .own p => G p | _ => False
theorem SB.own (O : C.Ok d) (i : Nat) (x : Str) (pos : Pos) (hi : C.ns[i]? = some x) (hd : (x == ("__debug__" : Str)) = false := by decide) : SB C (.Name x pos) (ownT i) := by
  intro φ V σ s G S R hF E
  unfold ownT at hF
  split at hF
  · rename_i p hp
    obtain ⟨H, ha, vs, n, hv, c⟩ := R.owns i x hi p hp
    exact wpAny_Name (wpAny_held O hi H ⟨φ, p, Grow.refl R.sub, ⟨V i, rfl, .inl ⟨vs, n, hv, c⟩⟩, hF⟩) hd
  · exact hF.elim

def nthP : List PV → Nat → PV
  | [], _ => .none
  | x :: _, 0 => x
  | _ :: r, n + 1 => nthP r n
theorem nthP_get : ∀ {xs : List PV} {k : Nat}, k < xs.length → xs[k]? = some (nthP xs k)
  | x :: r, 0, _ => rfl
  | x :: r, n + 1, h => by
    rw [List.getElem?_cons_succ]
    exact nthP_get (xs := r) (k := n) (by simpa using h)

def tupG (G : PV → Prop) : List PV → Nat → Prop
  | [], _ => False
  | x :: _, 0 => G x
  | _ :: r, n + 1 => tupG G r n
theorem tupG_get {G : PV → Prop} : ∀ {xs : List PV} {k : Nat}, tupG G xs k → k < xs.length ∧ G (nthP xs k)
  | x :: r, 0, h => ⟨Nat.zero_lt_succ _, h⟩
  | x :: r, n + 1, h => ⟨Nat.succ_lt_succ (tupG_get (xs := r) h).1, (tupG_get (xs := r) h).2⟩
def tupI (xs : List PV) (k : Int) (G : PV → Prop) : Prop := match k with
  | .ofNat n => tupG G xs n
  | .negSucc _ => False
theorem tupI_get {xs : List PV} {k : Int} {G : PV → Prop} (h : tupI xs k G) : 0 ≤ k ∧ k < (xs.length : Int) ∧ G (nthP xs k.toNat) := by
  cases k with
  | ofNat n =>
    have := tupG_get (show tupG G xs n from h)
    exact ⟨Int.natCast_nonneg n, Int.ofNat_lt.mpr this.1, this.2⟩
  | negSucc n => exact h.elim
def itemT (b k : PV) (G : PV → Prop) : Prop := match k with
  | .int k => (match b with
    | .ints L => 0 ≤ k ∧ k < (L.length : Int) ∧ G (.int (L.getD k.toNat 0))
    | .list xs => 0 ≤ k ∧ k < (xs.length : Int) ∧ G (nthP xs k.toNat)
    | .tup xs => tupI xs k G
    | _ => False)
  | _ => False

theorem cont_item {φ : Fz} {L : List Int} {vs : Array Value} (c : IntsAre vs.toList L) {k : Int} (h0 : 0 ≤ k) (h1 : k < (L.length : Int)) : ∃ t, vs[k.toNat]? = some (.int (L.getD k.toNat 0) t) := by
  have hl := c.length
  simp only [Array.length_toList] at hl
  have hk : k.toNat < vs.size := by lia
  obtain ⟨t, e⟩ := c.int_at k.toNat vs[k.toNat] (by simp [hk])
  exact ⟨t, by rw [Array.getElem?_eq_getElem hk, e]⟩

def q_SE_item (F : ET) (H : ET) : ET := fun σ G => F σ fun p => H σ fun k => itemT p k G
theorem zap (F : ET) (H : ET) (σ : List Sl) (G : PV → Prop) : q_SE_item F H σ G = (F σ fun p => H σ fun k => itemT p k G) := rfl
theorem SE.item {b i : Expr} {F H : ET} (hb : SB C b F) (hi : SE C i H) (pos : Pos) (hs : ∀ o k, subscripted i false o k = operate [o, k] (getItem o k) := by intro _ _; rfl) :
    SE C (.Subscript b i pos) (q_SE_item F H) := by
  intro φ V σ s G S R hF E
  refine Subscript_ (wpAny_mono (hb φ V σ s _ S R hF E) (fun o s₁ h₁ => ?_) fun _ _ x => x)
  obtain ⟨φ₁, p, g₁, rp, hF₁⟩ := h₁
  refine wpAny_mono (hi φ₁ V σ s₁ _ (S.grow g₁) (R.grow g₁) hF₁ E) (fun kv s₂ h₂ => ?_) fun _ _ x => x
  obtain ⟨φ₂, k, g₂, rk, hT⟩ := h₂
  obtain ⟨a, rfl, hB⟩ := rp.grow g₂
  unfold itemT at hT
  split at hT
  · rename_i k
    obtain ⟨t, rfl⟩ := rep_int rk
    split at hT
    · rename_i L
      obtain ⟨h0, h1, hG⟩ := hT
      rcases hB with ⟨vs, n, hv, c⟩ | ⟨xs, vs, n, e, hv, r, l⟩
      · obtain ⟨u, eu⟩ := cont_item (φ := φ₂) c.1 h0 h1
        have hl : s₂.heap.IsList a vs := ⟨_, hv, rfl, n, rfl⟩
        have := c.2
        refine tail_any hl.typeIs slot_list_getitem.lookup (wpAny_getItem_list hl h0 (by lia) eu ?_) (hs _ _)
        exact ⟨φ₂, .int _, g₁.trans g₂, by rw [Rep]; exact ⟨_, rfl⟩, hG⟩
      · cases e
    · rename_i xs
      obtain ⟨h0, h1, hG⟩ := hT
      rcases hB with ⟨vs, n, hv, c⟩ | ⟨xs, vs, n, e, hv, r, l⟩
      · obtain ⟨v, ev, rv⟩ := c.1.get (i := k.toNat) (x := nthP xs k.toNat) (nthP_get (by lia))
        have hl : s₂.heap.IsList a vs := ⟨_, hv, rfl, n, rfl⟩
        have := c.2
        refine tail_any hl.typeIs slot_list_getitem.lookup (wpAny_getItem_list hl h0 (by lia) (by simpa using ev) ?_) (hs _ _)
        exact ⟨φ₂, _, g₁.trans g₂, rv, hG⟩
      · cases e
    · rename_i xs
      obtain ⟨h0, h1, hG⟩ := tupI_get hT
      rcases hB with ⟨vs, n, hv, c⟩ | ⟨xs, vs, n, e, hv, r, l⟩
      · exact c.elim
      · cases e
        obtain ⟨v, ev, rv⟩ := r.get (i := k.toNat) (x := nthP xs k.toNat) (nthP_get (by lia))
        have hl : IsTup s₂.heap a vs := ⟨_, hv, rfl, n, rfl⟩
        have hlen := r.length
        simp only [Array.length_toList] at hlen
        refine tail_any hl.typeIs slot_tuple_getitem.lookup (PyProof.Rows.getItem_tuple (j := k.toNat) hl (by lia) (by lia) ?_ (by simpa using ev) ?_) (hs _ _)
        · unfold seqIndex?
          rw [hlen]
          have : ¬ k < 0 := by lia
          simp [this, h0, h1]
        exact ⟨φ₂, _, g₁.trans g₂, rv, hG⟩
    · exact hT.elim
  · exact hT.elim
end

end Mine

open PySem PySem.Calls PyProof.Rows
set_option Elab.async false
namespace Mine

section
variable {C : Cx} {d : Nat}

theorem wpAny_bname (O : C.Ok d) {x : Str} {v : Value} {pos : Pos} {s : Shared} {φ : Fz} (S : St C φ) (hs : ∀ b o, φ b = some o → s.heap.get? b = some o) {Q : Value → Shared → Prop} {E : Value → Shared → Prop}
    (hk : C.env.kindOf x = some .globalImplicit) (hm : C.mg x = none) (hv : C.mb x = some v) (h : Q v s) (hd : (x == ("__debug__" : Str)) = false) :
    wpAny (model C.prog C.w) C.A (eval (.Name x pos) C.env) Q E s := by
  have kp : ∀ b o, C.h0.get? b = some o → s.heap.get? b = some o := fun b o e => hs _ _ (S _ _ e)
  exact Name_function_global O.kind hk (loadGlobal_builtin (by rw [O.glob]; exact O.hg.keeps kp) hm (by rw [O.built]; exact O.hb.keeps kp) hv h) hd
theorem wpAny_gname (O : C.Ok d) {x : Str} {v : Value} {pos : Pos} {s : Shared} {φ : Fz} (S : St C φ) (hs : ∀ b o, φ b = some o → s.heap.get? b = some o) {Q : Value → Shared → Prop} {E : Value → Shared → Prop}
    (hk : C.env.kindOf x = some .globalImplicit) (hm : C.mg x = some v) (h : Q v s) (hd : (x == ("__debug__" : Str)) = false) :
    wpAny (model C.prog C.w) C.A (eval (.Name x pos) C.env) Q E s := by
  have kp : ∀ b o, C.h0.get? b = some o → s.heap.get? b = some o := fun b o e => hs _ _ (S _ _ e)
  exact Name_function_global O.kind hk (loadGlobal_global (by rw [O.glob]; exact O.hg.keeps kp) hm h) hd

def q_SE_fn (a : Addr) : ET := fun _ G => G (.fn a)
theorem zaq (a : Addr) (σ : List Sl) (G : PV → Prop) : q_SE_fn a σ G = (G (.fn a)) := rfl
theorem SE.fn (O : C.Ok d) (x : Str) (a : Addr) (pos : Pos) (hk : C.env.kindOf x = some .globalImplicit) (hm : C.mg x = some (.ref a)) (hd : (x == ("__debug__" : Str)) = false := by decide) : SE C (.Name x pos) (q_SE_fn a) := by
  intro φ V σ s G S R hF E
  exact wpAny_gname O S R.sub hk hm ⟨φ, .fn a, Grow.refl R.sub, by rw [Rep], hF⟩ hd

def q_SE_neg (F : ET) : ET := fun σ G => F σ fun a => subT (.int 0) a G
theorem zar (F : ET) (σ : List Sl) (G : PV → Prop) : q_SE_neg F σ G = (F σ fun a => subT (.int 0) a G) := rfl
theorem SE.neg {e : Expr} {F : ET} (h : SE C e F) (pos : Pos) : SE C (.UnaryOp .USub e pos) (q_SE_neg F) := by
  intro φ V σ s G S R hF E
  refine wpAny_UnaryOp (wpAny_mono (h φ V σ s _ S R hF E) (fun v s₁ h₁ => ?_) fun _ _ x => x)
  obtain ⟨φ₁, a, g₁, ra, hb⟩ := h₁
  unfold subT at hb
  dsimp only at hb
  split at hb
  · obtain ⟨t, rfl⟩ := rep_int ra
    rw [Int.zero_sub] at hb
    refine PyProof.Rows.neg_int ?_
    exact ⟨φ₁, .int _, g₁.trans (Grow.tok g₁.here _), by rw [Rep]; exact ⟨_, rfl⟩, hb⟩
  · exact hb.elim

def lastT (b : PV) (G : PV → Prop) : Prop := match b with
  | .ints L => 0 < L.length ∧ G (.int (L.getD (L.length - 1) 0))
  | _ => False
def q_SE_last (F : ET) : ET := fun σ G => F σ fun p => lastT p G
theorem zas (F : ET) (σ : List Sl) (G : PV → Prop) : q_SE_last F σ G = (F σ fun p => lastT p G) := rfl
theorem SE.last {b : Expr} {F : ET} (hb : SB C b F) (k : Nat) (p1 p2 pos : Pos) : SE C (.Subscript b (.UnaryOp .USub (.Constant (.int 1) k p1) p2) pos) (q_SE_last F) := by
  intro φ V σ s G S R hF E
  refine Subscript_ (wpAny_mono (hb φ V σ s _ S R hF E) (fun o s₁ h₁ => ?_) fun _ _ x => x)
  obtain ⟨φ₁, p, g₁, rp, hT⟩ := h₁
  refine wpAny_UnaryOp (wpAny_Constant_int (PyProof.Rows.neg_int ?_))
  obtain ⟨a, rfl, hB⟩ := rp
  unfold lastT at hT
  split at hT
  · rename_i L
    obtain ⟨h0, hG⟩ := hT
    rcases hB with ⟨vs, n, hv, c⟩ | ⟨xs, vs, n, e, hv, r, l⟩
    · have hl : s₁.heap.IsList a vs := ⟨_, hv, rfl, n, rfl⟩
      have hlen := c.1.length
      simp only [Array.length_toList] at hlen
      obtain ⟨u, eu⟩ := cont_item (φ := φ₁) (k := (-1 + (vs.size : Int))) c.1 (by lia) (by lia)
      have e1 : (-1 + (vs.size : Int)).toNat = L.length - 1 := by lia
      rw [e1] at eu
      refine tail_any (s := { s₁ with toks := s₁.toks + 1 + 1 }) (Heap.IsList.typeIs (s := { s₁ with toks := s₁.toks + 1 + 1 }) hl) slot_list_getitem.lookup (wpAny_getItem_list_neg (s := { s₁ with toks := s₁.toks + 1 + 1 }) hl (by lia) (by lia) (by lia) (x := .int (L.getD (L.length - 1) 0) u) (by rw [e1]; exact eu) ?_) rfl
      exact ⟨φ₁, .int _, g₁.trans (Grow.tok g₁.here _), by rw [Rep]; exact ⟨_, rfl⟩, hG⟩
    · cases e
  · exact hT.elim

def OptE (C : Cx) (e : Option Expr) (F : List Sl → (Option Int → Prop) → Prop) : Prop :=
  ∀ φ V σ s G, St C φ → RS C.env C.ns φ V σ s.heap → F σ G → ∀ E,
    wpAny (model C.prog C.w) C.A (evalPart e C.env) (fun v s' => ∃ φ' k, Grow φ s φ' s' ∧ IsPart v k ∧ G k) E s
def partT (a : PV) (G : Option Int → Prop) : Prop := match a with | .int i => G (some i) | _ => False
def q_OptE_none : List Sl → (Option Int → Prop) → Prop := fun _ G => G Option.none
theorem zat (σ : List Sl) (G : Option Int → Prop) : q_OptE_none σ G = (G Option.none) := rfl
theorem OptE.none : OptE C Option.none q_OptE_none := by
  intro φ V σ s G S R hF E
  rw [evalPart_none]
  exact wpAny_pure ⟨φ, _, Grow.refl R.sub, .none, hF⟩
def q_OptE_some (F : ET) : List Sl → (Option Int → Prop) → Prop := fun σ G => F σ fun a => partT a G
theorem zau (F : ET) (σ : List Sl) (G : Option Int → Prop) : q_OptE_some F σ G = (F σ fun a => partT a G) := rfl
theorem OptE.some {e : Expr} {F : ET} (h : SE C e F) : OptE C (Option.some e) (q_OptE_some F) := by
  intro φ V σ s G S R hF E
  rw [evalPart_some]
  refine wpAny_mono (h φ V σ s _ S R hF E) (fun v s₁ h₁ => ?_) fun _ _ x => x
  obtain ⟨φ₁, a, g₁, ra, hb⟩ := h₁
  unfold partT at hb
  split at hb
  · obtain ⟨t, rfl⟩ := rep_int ra
    exact ⟨φ₁, _, g₁, .int _ _, hb⟩
  · exact hb.elim

def sliceT (b : PV) (lo hi : Option Int) (G : PV → Prop) : Prop := match b with
  | .ints L => G (.ints (pickNums L lo hi none))
  | _ => False
def q_SE_slice (F : ET) (H : List Sl → (Option Int → Prop) → Prop) (K : List Sl → (Option Int → Prop) → Prop) : ET := fun σ G => F σ fun q => H σ fun x => K σ fun y => sliceT q x y G
theorem zav (F : ET) (H : List Sl → (Option Int → Prop) → Prop) (K : List Sl → (Option Int → Prop) → Prop) (σ : List Sl) (G : PV → Prop) : q_SE_slice F H K σ G = (F σ fun q => H σ fun x => K σ fun y => sliceT q x y G) := rfl
theorem SE.slice {b : Expr} {lo hi : Option Expr} {F : ET} {H K : List Sl → (Option Int → Prop) → Prop} (hb : SB C b F) (hl : OptE C lo H) (hh : OptE C hi K) (p pos : Pos) :
    SE C (.Subscript b (.Slice lo hi none p) pos) (q_SE_slice F H K) := by
  intro φ V σ s G S R hF E
  refine Subscript_ (wpAny_mono (hb φ V σ s _ S R hF E) (fun o s₁ h₁ => ?_) fun _ _ x => x)
  obtain ⟨φ₁, q, g₁, rq, hF₁⟩ := h₁
  refine wpAny_Slice (wpAny_mono (hl φ₁ V σ s₁ _ (S.grow g₁) (R.grow g₁) hF₁ E) (fun lv s₂ h₂ => ?_) fun _ _ x => x)
  obtain ⟨φ₂, x, g₂, px, hF₂⟩ := h₂
  refine wpAny_mono (hh φ₂ V σ s₂ _ ((S.grow g₁).grow g₂) ((R.grow g₁).grow g₂) hF₂ E) (fun uv s₃ h₃ => ?_) fun _ _ x => x
  obtain ⟨φ₃, y, g₃, py, hT⟩ := h₃
  rw [evalPart_none]
  refine wpAny_pure ?_
  obtain ⟨a, rfl, hB⟩ := (rq.grow g₂).grow g₃
  unfold sliceT at hT
  split at hT
  · rename_i L
    rcases hB with ⟨vs, n, hv, c⟩ | ⟨xs, vs, n, e, hv, r, l⟩
    · have hlen := c.1.length
      simp only [Array.length_toList] at hlen
      have c2 := c.2
      have hl : s₃.heap.IsList a vs := ⟨_, hv, rfl, n, rfl⟩
      have hl' : (s₃.heap.push { cls := .type "slice", data := .fields #[lv, uv, .none] }).IsList a vs := hl.push _
      refine tail_any (T := "list") (s := { s₃ with heap := s₃.heap.push { cls := .type "slice", data := .fields #[lv, uv, .none] } }) hl'.typeIs slot_list_getitem.lookup
        (wpAny_getItem_list_slice hl' (Heap.IsSliceOf.new ..) px py .none (by simp) ?_ (by rw [sizeLine_eq]; lia)) rfl
      have g4 : Grow φ₃ s₃ φ₃ { s₃ with heap := s₃.heap.push { cls := .type "slice", data := .fields #[lv, uv, .none] }, toks := s₃.toks } := Grow.heap g₃.here (fun b o e => Heap.get?_push_of_some _ e) _
      have hp : (pickNums L x y none).length ≤ L.length := length_pickNums_le c.1 _ _ _
      obtain ⟨φ₅, z, g₅, rz, hz⟩ := Gr.newInts (s := { s₃ with heap := s₃.heap.push { cls := .type "slice", data := .fields #[lv, uv, .none] } }) (G := G) (n := 0) (vs := slicePick vs x y none) (L := pickNums L x y none) g4.here (by simpa using c.1.pick x y none) (by lia) hT s₃.toks
      exact ⟨φ₅, z, ((g₁.trans g₂).trans g₃).trans (g4.trans g₅), rz, hz⟩
    · cases e
  · exact hT.elim

theorem pick_all (L : List Int) : pickNums L none none none = L := by
  unfold pickNums sliceBounds
  simp only [Option.getD_none, show (1 : Int) > 0 by decide, if_true]
  have : sliceRange 0 (L.length : Int) 1 = (List.range (L.length - 0)).map (0 + ·) := sliceRange_one 0 L.length
  rw [this]
  have h2 := pick_run L.toArray 0 L.length
  simpa using h2
theorem pick_upto (L : List Int) (k : Int) (h : 0 ≤ k) : pickNums L none (some k) none = L.take k.toNat := by
  unfold pickNums sliceBounds
  simp only [Option.getD_none, show (1 : Int) > 0 by decide, if_true]
  obtain ⟨k, rfl⟩ := Int.eq_ofNat_of_zero_le h
  simp only [Int.not_lt.mpr h, if_false, Int.toNat_natCast]
  have e : max 0 (min (k : Int) (L.length : Int)) = ((min k L.length : Nat) : Int) := by
    rcases Nat.le_total k L.length with c | c
    · rw [Nat.min_eq_left c, Int.min_eq_left (Int.ofNat_le.mpr c)]; exact Int.max_eq_right h
    · rw [Nat.min_eq_right c, Int.min_eq_right (Int.ofNat_le.mpr c)]; exact Int.max_eq_right (Int.natCast_nonneg _)
  rw [e]
  have : sliceRange 0 ((min k L.length : Nat) : Int) 1 = (List.range (min k L.length - 0)).map (0 + ·) := sliceRange_one 0 _
  rw [this]
  have h2 := pick_run L.toArray 0 (min k L.length)
  simp only [Nat.sub_zero]
  rw [show (fun x => L[x]?) = (fun x => L.toArray[x]?) by funext i; simp]
  rw [h2]
  simp [List.take_eq_take_min]
theorem pick_run' (L : List Int) (x y : Int) (h0 : 0 ≤ x) (h1 : x ≤ y) (h2 : y ≤ L.length) : pickNums L (some x) (some y) none = (L.drop x.toNat).take (y - x).toNat := by
  unfold pickNums sliceBounds
  simp only [Option.getD_none, show (1 : Int) > 0 by decide, if_true]
  have h3 := Int.le_trans h0 h1
  simp only [Int.not_lt.mpr h0, Int.not_lt.mpr h3, if_false]
  obtain ⟨x, rfl⟩ := Int.eq_ofNat_of_zero_le h0
  obtain ⟨y, rfl⟩ := Int.eq_ofNat_of_zero_le h3
  have e : max 0 (min (x : Int) (L.length : Int)) = (x : Int) := by rw [Int.min_eq_left (Int.le_trans h1 h2)]; exact Int.max_eq_right h0
  have e' : max 0 (min (y : Int) (L.length : Int)) = (y : Int) := by rw [Int.min_eq_left h2]; exact Int.max_eq_right h3
  rw [e, e', sliceRange_one, show (fun x => L[x]?) = (fun x => L.toArray[x]?) by funext i; simp, pick_run L.toArray]
  rw [Int.toNat_sub, Int.toNat_natCast]

theorem wpAny_CallName {f : Str} {p pos : Pos} {args : List Expr} {M : Model} {A : Around} {env : Env} {Q : Value → Shared → Prop} {E : Value → Shared → Prop} {s : Shared}
    (h : wpAny M A (eval (.Name f p) env) (fun fv s₁ => wpAny M A (callWith pos fv [] (backTo pos (starEach args env)) []) Q E s₁) E s) : wpAny M A (eval (.Call (.Name f p) args [] pos) env) Q E s := by
  show wpAny M A (eval (.Name f p) env >>= fun fv => callWith pos fv [] (backTo pos (starEach args env)) (backToKw pos (keywordEach [] env))) Q E s
  exact wpAny_bind h

theorem wpAny_args {e : Expr} {rest : List Expr} {fv : Value} {pos : Pos} {M : Model} {A : Around} {env : Env} {Q : Args → Shared → Prop} {E : Value → Shared → Prop} {s : Shared}
    (hst : starEach (e :: rest) env = (false, eval e env) :: starEach rest env)
    (h : wpAny M A (spliced (backTo pos (starEach (e :: rest) env))) (fun vs s' => Q ⟨vs, []⟩ s') E s) : wpAny M A (evalArgs fv true (backTo pos (starEach (e :: rest) env)) []) Q E s := by
  rw [hst] at h ⊢
  exact evalArgs_plain (x := eval e env) (rest := backTo pos (starEach rest env)) h

def lenT (b : PV) (G : PV → Prop) : Prop := match b with
  | .ints L => G (.int (L.length : Int))
  | .list xs => G (.int (xs.length : Int))
  | .tup xs => G (.int (xs.length : Int))
  | _ => False

def q_SE_len (F : ET) : ET := fun σ G => F σ fun b => lenT b G
theorem zaw (F : ET) (σ : List Sl) (G : PV → Prop) : q_SE_len F σ G = (F σ fun b => lenT b G) := rfl
theorem SE.len (O : C.Ok d) {e : Expr} {F : ET} (he : SB C e F) (p pos : Pos) (hk : C.env.kindOf "len" = some .globalImplicit) (hm : C.mg "len" = none) (hv : C.mb "len" = some (.builtin "len"))
    (hst : ∀ env, starEach [e] env = [(false, eval e env)] := by intro _; rfl) :
    SE C (.Call (.Name "len" p) [e] [] pos) (q_SE_len F) := by
  intro φ V σ s G S R hF E
  refine wpAny_CallName (wpAny_bname O S R.sub hk hm hv ?_ (by decide))
  refine callWith_builtin (by rw [hst]; rfl) (wpAny_args (hst _) ?_)
  rw [hst]
  refine spliced_cons (wpAny_mono (he φ V σ s _ S R hF E) (fun v s₁ h₁ => ?_) fun _ _ x => x)
  obtain ⟨φ₁, b, g₁, rb, hT⟩ := h₁
  refine spliced_nil ?_
  obtain ⟨a, rfl, hB⟩ := rb
  show wpAny _ _ (call (.builtin "len") [.ref a]) _ _ s₁
  have fin : ∀ (n : Nat) (t t' : Nat), G (.int (n : Int)) → ∃ φ' x, Grow φ s φ' { s₁ with toks := t' } ∧ Rep φ' x (.int (n : Int) t) ∧ G x := fun n t t' g =>
    ⟨φ₁, .int _, g₁.trans (Grow.tok g₁.here _), by rw [Rep]; exact ⟨_, rfl⟩, g⟩
  unfold lenT at hT
  split at hT
  · rename_i L
    rcases hB with ⟨vs, n, hv, c⟩ | ⟨xs, vs, n, e, hv, r, l⟩
    · have hlen := c.1.length
      simp only [Array.length_toList] at hlen
      have c2 := c.2
      refine call_len_list (items := vs) ⟨_, hv, rfl, n, rfl⟩ (by lia) ?_
      rw [hlen]; exact fin _ _ _ hT
    · cases e
  · rename_i xs
    rcases hB with ⟨vs, n, hv, c⟩ | ⟨xs, vs, n, e, hv, r, l⟩
    · have hlen := c.1.length
      simp only [Array.length_toList] at hlen
      have c2 := c.2
      refine call_len_list (items := vs) ⟨_, hv, rfl, n, rfl⟩ (by lia) ?_
      rw [hlen]; exact fin _ _ _ hT
    · cases e
  · rename_i xs
    rcases hB with ⟨vs, n, hv, c⟩ | ⟨xs, vs, n, e, hv, r, l⟩
    · exact c.elim
    · cases e
      have hlen := r.length
      simp only [Array.length_toList] at hlen
      refine PyProof.Rows.len_tuple (items := vs) ⟨_, hv, rfl, n, rfl⟩ (by lia) ?_
      rw [hlen]; exact fin _ _ _ hT
  · exact hT.elim

def minT (a b : PV) (G : PV → Prop) : Prop := match a with | .int i => (match b with | .int j => G (.int (if j < i then j else i)) | _ => False) | _ => False
def q_SE_min (F : ET) (H : ET) : ET := fun σ G => F σ fun a => H σ fun b => minT a b G
theorem zax (F : ET) (H : ET) (σ : List Sl) (G : PV → Prop) : q_SE_min F H σ G = (F σ fun a => H σ fun b => minT a b G) := rfl
theorem SE.min (O : C.Ok d) {e f : Expr} {F H : ET} (he : SE C e F) (hf : SE C f H) (p pos : Pos) (hk : C.env.kindOf "min" = some .globalImplicit) (hm : C.mg "min" = none) (hv : C.mb "min" = some (.builtin "min"))
    (hst : ∀ env, starEach [e, f] env = [(false, eval e env), (false, eval f env)] := by intro _; rfl) :
    SE C (.Call (.Name "min" p) [e, f] [] pos) (q_SE_min F H) := by
  intro φ V σ s G S R hF E
  refine wpAny_CallName (wpAny_bname O S R.sub hk hm hv ?_ (by decide))
  refine callWith_builtin (by rw [hst]; rfl) ?_
  rw [hst]
  refine evalArgs_plain (x := eval e C.env) (rest := [(false, eval f C.env)]) (spliced_cons (wpAny_mono (he φ V σ s _ S R hF E) (fun va s₁ h₁ => ?_) fun _ _ x => x))
  obtain ⟨φ₁, a, g₁, ra, hF₁⟩ := h₁
  refine spliced_cons (wpAny_mono (hf φ₁ V σ s₁ _ (S.grow g₁) (R.grow g₁) hF₁ E) (fun vb s₂ h₂ => ?_) fun _ _ x => x)
  obtain ⟨φ₂, b, g₂, rb, hT⟩ := h₂
  refine spliced_nil ?_
  unfold minT at hT
  split at hT
  · split at hT
    · obtain ⟨t, rfl⟩ := rep_int ra
      obtain ⟨u, rfl⟩ := rep_int rb
      refine min_two_ints O.room.1 fun h' tk hk => ?_
      refine ⟨φ₂, .int _, (g₁.trans g₂).trans (Grow.heap g₂.here hk tk), ?_, hT⟩
      rw [Rep]
      split <;> exact ⟨_, rfl⟩
    · exact hT.elim
  · exact hT.elim

def absT (a : PV) (G : PV → Prop) : Prop := match a with | .int i => G (.int (if i < 0 then -i else i)) | _ => False
def q_SE_abs (F : ET) : ET := fun σ G => F σ fun a => absT a G
theorem zay (F : ET) (σ : List Sl) (G : PV → Prop) : q_SE_abs F σ G = (F σ fun a => absT a G) := rfl
theorem SE.abs (O : C.Ok d) {e : Expr} {F : ET} (he : SE C e F) (p pos : Pos) (hk : C.env.kindOf "abs" = some .globalImplicit) (hm : C.mg "abs" = none) (hv : C.mb "abs" = some (.builtin "abs"))
    (hst : ∀ env, starEach [e] env = [(false, eval e env)] := by intro _; rfl) :
    SE C (.Call (.Name "abs" p) [e] [] pos) (q_SE_abs F) := by
  intro φ V σ s G S R hF E
  refine wpAny_CallName (wpAny_bname O S R.sub hk hm hv ?_ (by decide))
  refine callWith_builtin (by rw [hst]; rfl) ?_
  rw [hst]
  refine evalArgs_plain (x := eval e C.env) (rest := []) (spliced_cons (wpAny_mono (he φ V σ s _ S R hF E) (fun va s₁ h₁ => ?_) fun _ _ x => x))
  obtain ⟨φ₁, a, g₁, ra, hT⟩ := h₁
  refine spliced_nil ?_
  unfold absT at hT
  split at hT
  · obtain ⟨t, rfl⟩ := rep_int ra
    refine PyProof.Rows.call_abs_int fun u tk => ?_
    exact ⟨φ₁, .int _, g₁.trans (Grow.tok g₁.here tk), by rw [Rep]; exact ⟨_, rfl⟩, hT⟩
  · exact hT.elim

def intT (a : PV) (G : PV → Prop) : Prop := match a with | .int i => G (.int i) | _ => False
def q_SE_toInt (F : ET) : ET := fun σ G => F σ fun a => intT a G
theorem zaz (F : ET) (σ : List Sl) (G : PV → Prop) : q_SE_toInt F σ G = (F σ fun a => intT a G) := rfl
theorem SE.toInt (O : C.Ok d) {e : Expr} {F : ET} (he : SE C e F) (p pos : Pos) (hk : C.env.kindOf "int" = some .globalImplicit) (hm : C.mg "int" = none) (hv : C.mb "int" = some (.type "int"))
    (hst : ∀ env, starEach [e] env = [(false, eval e env)] := by intro _; rfl) :
    SE C (.Call (.Name "int" p) [e] [] pos) (q_SE_toInt F) := by
  intro φ V σ s G S R hF E
  refine wpAny_CallName (wpAny_bname O S R.sub hk hm hv ?_ (by decide))
  refine PySem.callWith_type (by rw [hst]; rfl) ?_
  rw [hst]
  refine evalArgs_plain (x := eval e C.env) (rest := []) (spliced_cons (wpAny_mono (he φ V σ s _ S R hF E) (fun va s₁ h₁ => ?_) fun _ _ x => x))
  obtain ⟨φ₁, a, g₁, ra, hT⟩ := h₁
  refine spliced_nil ?_
  unfold intT at hT
  split at hT
  · obtain ⟨t, rfl⟩ := rep_int ra
    exact call_int_int ⟨φ₁, .int _, g₁, by rw [Rep]; exact ⟨_, rfl⟩, hT⟩
  · exact hT.elim

def sumT (a : PV) (G : PV → Prop) : Prop := match a with | .ints L => (∀ x ∈ L, -(2 ^ 40) ≤ x ∧ x ≤ 2 ^ 40) ∧ G (.int L.sum) | _ => False
def q_SE_sum (F : ET) : ET := fun σ G => F σ fun a => sumT a G
theorem zba (F : ET) (σ : List Sl) (G : PV → Prop) : q_SE_sum F σ G = (F σ fun a => sumT a G) := rfl
theorem SE.sum (O : C.Ok d) {e : Expr} {F : ET} (he : SE C e F) (p pos : Pos) (hk : C.env.kindOf "sum" = some .globalImplicit) (hm : C.mg "sum" = none) (hv : C.mb "sum" = some (.builtin "sum"))
    (hst : ∀ env, starEach [e] env = [(false, eval e env)] := by intro _; rfl) :
    SE C (.Call (.Name "sum" p) [e] [] pos) (q_SE_sum F) := by
  intro φ V σ s G S R hF E
  refine wpAny_CallName (wpAny_bname O S R.sub hk hm hv ?_ (by decide))
  refine callWith_builtin (by rw [hst]; rfl) ?_
  rw [hst]
  refine evalArgs_plain (x := eval e C.env) (rest := []) (spliced_cons (wpAny_mono (he φ V σ s _ S R hF E) (fun va s₁ h₁ => ?_) fun _ _ x => x))
  obtain ⟨φ₁, a, g₁, ra, hT⟩ := h₁
  refine spliced_nil ?_
  unfold sumT at hT
  split at hT
  · rename_i L
    obtain ⟨l, vs, n, rfl, hl, hi, hlen⟩ := rep_ints ra
    have hs : s₁.heap.IsList l vs := ⟨_, g₁.here _ _ hl, rfl, n, rfl⟩
    have e1 := hi.length
    simp only [Array.length_toList] at e1
    have lt : l < s₁.heap.objs.size := Heap.lt_size (g₁.here _ _ hl)
    have fits := sumFits_small hT.1 (by lia)
    refine call_sum_walk (wpAny_pyIter_list hs ?_)
    refine ⟨_, _, _, _, _, _, fun i => L.getD i 0, rfl, Walks.list (A := C.A.in1) O.room.1 s₁.heap.objs.size l (Nat.ne_of_lt lt) vs, ⟨⟨_, Heap.get?_push_size _ rfl, rfl, rfl⟩, hs.push _⟩, ?_, ?_, ?_, ?_⟩
    · intro b hb
      rw [Heap.size_push]
      simp only [List.mem_cons, List.not_mem_nil, or_false] at hb
      rcases hb with rfl | rfl
      · exact Nat.lt_succ_self _
      · exact Nat.lt_succ_of_lt lt
    · intro i v hv
      have hlt : i < vs.size := by
        rcases Nat.lt_or_ge i vs.size with h | h
        · exact h
        · rw [Array.getElem?_eq_none h] at hv; cases hv
      exact hi.int_at i v (by simpa using hv)
    · intro j hj
      rw [preSum_getD]
      exact fits j (by lia)
    · intro h' tk t' hk
      have hsum : preSum (fun i => L.getD i 0) vs.size = L.sum := by rw [preSum_getD, List.take_of_length_le (by lia)]
      rw [hsum]
      have g4 : Grow φ₁ s₁ φ₁ { s₁ with heap := h', toks := tk } := Grow.heap g₁.here (fun b o e => hk b o (by
        simp only [List.mem_cons, List.not_mem_nil, or_false]
        exact Nat.ne_of_lt (Heap.lt_size e)) (Heap.get?_push_of_some _ e)) tk
      exact ⟨φ₁, .int _, g₁.trans g4, by rw [Rep]; exact ⟨_, rfl⟩, hT.2⟩
  · exact hT.elim

def q_SE_bitlen (F : ET) : ET := fun σ G => F σ fun a => match a with | .int i => G (.int (Builtin.Int.intBits i)) | _ => False
theorem zbb (F : ET) (σ : List Sl) (G : PV → Prop) : q_SE_bitlen F σ G = (F σ fun a => match a with | .int i => G (.int (Builtin.Int.intBits i)) | _ => False) := rfl
theorem SE.bitlen {e : Expr} {F : ET} (he : SE C e F) (apos pos : Pos) (hb : ∀ env, attributeBase e "bit_length" env (eval e env) = eval e env := by intro _; rfl) (hline : (apos.endLine == pos.line) = true := by rfl) :
    SE C (.Call (.Attribute e "bit_length" apos) [] [] pos) (q_SE_bitlen F) := by
  intro φ V σ s G S R hF E
  refine wpAny_Call_method (T := "int") (id := "int.bit_length") (hb _) rfl hline PySem.F.plainAttrs_int PySem.F.slot_int_bit_length PySem.F.type_int_bit_length (wpAny_mono (he φ V σ s _ S R hF E) (fun v s₁ h₁ => ?_) fun _ _ x => x)
  obtain ⟨φ₁, a, g₁, ra, hT⟩ := h₁
  split at hT
  · obtain ⟨t, rfl⟩ := rep_int ra
    refine ⟨typeIs_int _ _ _, (fun a e => by cases e), ?_⟩
    refine callWith_builtin rfl (PySem.evalArgs_none ?_)
    exact PyProof.Rows.call_int_bit_length ⟨φ₁, .int _, g₁.trans (Grow.tok g₁.here _), by rw [Rep]; exact ⟨_, rfl⟩, hT⟩
  · exact hT.elim

abbrev PT := List PV → (PV → Prop) → Prop
def FnOk (prog : Program) (w : World) (h0 : Heap) (d : Nat) (a : Addr) (P : PT) : Prop :=
  (∃ o fd, h0.get? a = some o ∧ o.data = .func fd) ∧
  ∀ (A : Around) (φ : Fz) (s : Shared) (vs : List Value) (xs : List PV) (G : PV → Prop), Room d A → (∀ b o, h0.get? b = some o → φ b = some o) → (∀ b o, φ b = some o → s.heap.get? b = some o) → RepL φ xs vs → P xs G →
    ∀ E, wpAny (model prog w) A (call (.ref a) vs) (Gr φ s G) E s
theorem FnOk.mono {prog : Program} {w : World} {h0 : Heap} {d d' : Nat} {a : Addr} {P : PT} (h : FnOk prog w h0 d a P) (hd : d ≤ d') : FnOk prog w h0 d' a P :=
  ⟨h.1, fun A φ s vs xs G r => h.2 A φ s vs xs G ⟨r.1, by have := r.2.1; lia, by have := r.2.2; lia⟩⟩

theorem call_args (O : C.Ok d) {a : Addr} {P : PT} (hf : FnOk C.prog C.w C.h0 d a P) {e : Expr} {rest : List Expr} {F : LT} (hs : SEs C (e :: rest) F) {φ : Fz} {V : Nat → Addr} {σ : List Sl} {s : Shared} {G : PV → Prop} (S : St C φ) (R : RS C.env C.ns φ V σ s.heap)
    (hF : F σ fun xs => P xs G) (E : Value → Shared → Prop) (pos : Pos) (hst : starEach (e :: rest) C.env = (false, eval e C.env) :: starEach rest C.env) :
    wpAny (model C.prog C.w) C.A (callWith pos (.ref a) [] (backTo pos (starEach (e :: rest) C.env)) []) (Gr φ s G) E s := by
  obtain ⟨⟨o, fd, ho, hd⟩, hc⟩ := hf
  refine callWith_function (o := o) (fd := fd) (wpAny_args hst (wpAny_mono (hs φ V σ s _ S R hF pos E) (fun vs s₁ h₁ => ?_) fun _ _ x => x))
  obtain ⟨φ₁, xs, g₁, r, _, hP⟩ := h₁
  refine ⟨⟨g₁.here _ _ (g₁.sub _ _ (S _ _ ho)), hd⟩, ?_⟩
  refine wpAny_mono (hc C.A φ₁ s₁ vs xs G O.room (S.grow g₁) g₁.here r hP E) (fun v s₂ h₂ => ?_) fun _ _ x => x
  obtain ⟨φ₂, x, g₂, rx, hx⟩ := h₂
  exact ⟨φ₂, x, g₁.trans g₂, rx, hx⟩

def q_SE_call (P : PT) (F : LT) : ET := fun σ G => F σ fun xs => P xs G
theorem zbc (P : PT) (F : LT) (σ : List Sl) (G : PV → Prop) : q_SE_call P F σ G = (F σ fun xs => P xs G) := rfl
theorem SE.call (O : C.Ok d) {a : Addr} {P : PT} (hf : FnOk C.prog C.w C.h0 d a P) {e : Expr} {rest : List Expr} {F : LT} (x : Str) (hs : SEs C (e :: rest) F) (p pos : Pos) (hk : C.env.kindOf x = some .globalImplicit) (hm : C.mg x = some (.ref a))
    (hd : (x == ("__debug__" : Str)) = false := by decide) (hst : ∀ env, starEach (e :: rest) env = (false, eval e env) :: starEach rest env := by intro _; rfl) :
    SE C (.Call (.Name x p) (e :: rest) [] pos) (q_SE_call P F) := by
  intro φ V σ s G S R hF E
  exact wpAny_CallName (wpAny_gname O S R.sub hk hm (call_args O hf hs S R hF E pos (hst _)) hd)

def q_SE_callv (a : Addr) (P : PT) (F : LT) (i : Nat) : ET := fun σ G => sg σ i = .val (.fn a) ∧ F σ fun xs => P xs G
theorem zbd (a : Addr) (P : PT) (F : LT) (i : Nat) (σ : List Sl) (G : PV → Prop) : q_SE_callv a P F i σ G = (sg σ i = .val (.fn a) ∧ F σ fun xs => P xs G) := rfl
theorem SE.callv (O : C.Ok d) {a : Addr} {P : PT} (hf : FnOk C.prog C.w C.h0 d a P) {e : Expr} {rest : List Expr} {F : LT} (i : Nat) (x : Str) (hs : SEs C (e :: rest) F) (p pos : Pos) (hi : C.ns[i]? = some x)
    (hd : (x == ("__debug__" : Str)) = false := by decide) (hst : ∀ env, starEach (e :: rest) env = (false, eval e env) :: starEach rest env := by intro _; rfl) :
    SE C (.Call (.Name x p) (e :: rest) [] pos) (q_SE_callv a P F i) := by
  intro φ V σ s G S R hF E
  obtain ⟨v, H, r⟩ := R.vals i x hi _ hF.1
  rw [Rep] at r
  subst r
  exact wpAny_CallName (wpAny_Name (wpAny_held O hi H (call_args O hf hs S R hF.2 E pos (hst _))) hd)
end

end Mine

open PySem PySem.Calls PyProof.Rows
set_option Elab.async false
namespace Mine

structure GrowX (X : Addr → Prop) (φ : Fz) (s : Shared) (φ' : Fz) (s' : Shared) : Prop where
  same : ∃ h t, s' = { s with heap := h, toks := t }
  sub : ∀ b o, φ b = some o → φ' b = some o
  keep : ∀ b o, ¬ X b → s.heap.get? b = some o → s'.heap.get? b = some o ∧ φ' b = φ b

theorem Grow.toX {X : Addr → Prop} {φ φ' : Fz} {s s' : Shared} (g : Grow φ s φ' s') : GrowX X φ s φ' s' := ⟨g.same, g.sub, fun b o _ e => g.keep b o e⟩

structure Step (env : Env) (ns : List Str) (φ : Fz) (V : Nat → Addr) (σ : List Sl) (s : Shared) (φ' : Fz) (V' : Nat → Addr) (σ' : List Sl) (s' : Shared) : Prop where
  grow : GrowX (Vol env V σ) φ s φ' s'
  rs : RS env ns φ' V' σ' s'.heap
  vol : ∀ b, Vol env V' σ' b → Vol env V σ b ∨ s.heap.get? b = none
  v0 : V' 0 = V 0

theorem Step.of_grow {env : Env} {ns : List Str} {φ φ' : Fz} {V : Nat → Addr} {σ : List Sl} {s s' : Shared} (R : RS env ns φ V σ s.heap) (g : Grow φ s φ' s') : Step env ns φ V σ s φ' V σ s' := ⟨g.toX, R.grow g, fun _ h => .inl h, rfl⟩
theorem Step.refl {env : Env} {ns : List Str} {φ : Fz} {V : Nat → Addr} {σ : List Sl} {s : Shared} (R : RS env ns φ V σ s.heap) : Step env ns φ V σ s φ V σ s := .of_grow R (.refl R.sub)
theorem Step.trans {env : Env} {ns : List Str} {φ φ' φ'' : Fz} {V V' V'' : Nat → Addr} {σ σ' σ'' : List Sl} {s s' s'' : Shared} (a : Step env ns φ V σ s φ' V' σ' s') (b : Step env ns φ' V' σ' s' φ'' V'' σ'' s'') :
    Step env ns φ V σ s φ'' V'' σ'' s'' where
  grow := by
    refine ⟨?_, fun x o e => b.grow.sub _ _ (a.grow.sub _ _ e), fun x o hx e => ?_⟩
    · obtain ⟨h, t, rfl⟩ := a.grow.same
      obtain ⟨h2, t2, rfl⟩ := b.grow.same
      exact ⟨_, _, rfl⟩
    · obtain ⟨e1, e2⟩ := a.grow.keep x o hx e
      have hx' : ¬ Vol env V' σ' x := fun h => by
        rcases a.vol x h with h | h
        · exact hx h
        · rw [h] at e; cases e
      obtain ⟨e3, e4⟩ := b.grow.keep x o hx' e1
      exact ⟨e3, e4.trans e2⟩
  rs := b.rs
  v0 := b.v0.trans a.v0
  vol := fun x h => by
    rcases b.vol x h with h | h
    · exact a.vol x h
    · by_cases hx : Vol env V σ x
      · exact .inl hx
      · cases e : s.heap.get? x with
        | none => exact .inr rfl
        | some o =>
          have := (a.grow.keep x o hx e).1
          rw [h] at this; cases this
theorem St.step {C : Cx} {env : Env} {ns : List Str} {φ φ' : Fz} {V V' : Nat → Addr} {σ σ' : List Sl} {s s' : Shared} (S : St C φ) (a : Step env ns φ V σ s φ' V' σ' s') : St C φ' := fun b o e => a.grow.sub _ _ (S b o e)

theorem Held.sameBut {h h' : Heap} {env : Env} {x : Str} {v : Value} {a : Addr} (H : Held h env x v) (hs : Heap.SameBut a h h') (hL : a ≠ env.locals) (hc : ∀ c, env.cells.lookup x = some c → c ≠ a) : Held h' env x v := by
  unfold Held at H ⊢
  split at H
  · rename_i c hcx
    exact H.sameBut hs (hc c hcx)
  · obtain ⟨m, a1, b⟩ := H
    exact ⟨m, a1.sameBut hs hL.symm, b⟩

theorem RS.locals_some {env : Env} {ns : List Str} {φ : Fz} {V : Nat → Addr} {σ : List Sl} {h : Heap} (R : RS env ns φ V σ h) : ∃ o es ep, h.get? env.locals = some o ∧ o.data = .dict es ep := by
  obtain ⟨m, o, es, ep, ho, hd, _⟩ := R.nsx
  exact ⟨o, es, ep, ho, hd⟩
theorem RS.vol_some {env : Env} {ns : List Str} {φ : Fz} {V : Nat → Addr} {σ : List Sl} {h : Heap} (R : RS env ns φ V σ h) {b : Addr} (hb : Vol env V σ b) : ∃ o, h.get? b = some o := by
  rcases hb with rfl | ⟨x, hx⟩ | ⟨i, xs, hi, rfl⟩
  · obtain ⟨o, _, _, ho, _⟩ := R.locals_some; exact ⟨o, ho⟩
  · obtain ⟨_, v, o, ho, _⟩ := R.cel x b hx; exact ⟨o, ho⟩
  · have hlt : i < ns.length := by
      rcases Nat.lt_or_ge i ns.length with h | h
      · exact h
      · rw [sg_un _ _ (by rw [R.len]; exact h)] at hi; cases hi
    obtain ⟨_, _, vs, n, hv, _⟩ := R.owns i ns[i] (by simp [hlt]) xs hi
    exact ⟨_, hv⟩
theorem RS.vol_none {env : Env} {ns : List Str} {φ : Fz} {V : Nat → Addr} {σ : List Sl} {h : Heap} (R : RS env ns φ V σ h) {b : Addr} (hb : Vol env V σ b) : φ b = none := by
  rcases hb with rfl | ⟨x, hx⟩ | ⟨i, xs, hi, rfl⟩
  · exact R.loc
  · exact (R.cel x b hx).1
  · have hlt : i < ns.length := by
      rcases Nat.lt_or_ge i ns.length with h | h
      · exact h
      · rw [sg_un _ _ (by rw [R.len]; exact h)] at hi; cases hi
    exact (R.owns i ns[i] (by simp [hlt]) xs hi).2.1

def Put (X : Addr → Prop) (V : Nat → Addr) (σ : List Sl) (φ : Fz) (h : Heap) (i : Nat) (sl : Sl) (v : Value) : Prop := match sl with
  | .un => False
  | .val p => Rep φ p v
  | .own p => ∃ a vs n, v = .ref a ∧ φ a = none ∧ (∀ j xs, sg σ j = .own xs → V j ≠ a) ∧ h.get? a = some (lobj vs n) ∧ Cont φ p vs ∧ X a ∧ i ≠ 0
def newV (V : Nat → Addr) (i : Nat) (sl : Sl) (v : Value) : Nat → Addr := match sl with
  | .own _ => fun j => if j = i then (match v with | .ref a => a | _ => V j) else V j
  | _ => V
theorem newV_ne (V : Nat → Addr) (i : Nat) (sl : Sl) (v : Value) (j : Nat) (h : j ≠ i) : newV V i sl v j = V j := by
  unfold newV
  split
  · simp only [if_neg h]
  · rfl
theorem newV_eq (V : Nat → Addr) (i : Nat) (p : PV) (a : Addr) : newV V i (.own p) (.ref a) i = a := by simp [newV]

def Storable (C : Cx) (x : Str) : Prop := (C.env.cells.lookup x = none ∧ C.env.kindOf x = some .local) ∨ ∃ c, C.env.cells.lookup x = some c ∧ C.env.kindOf x = some .cell

section
variable {C : Cx} {d : Nat}

theorem store_slot (O : C.Ok d) {φ₀ φ : Fz} {V₀ V : Nat → Addr} {σ₀ σ : List Sl} {s₀ s : Shared} (T : Step C.env C.ns φ₀ V₀ σ₀ s₀ φ V σ s) {i : Nat} {x : Str} (hi : C.ns[i]? = some x) (hst : Storable C x) {sl : Sl} {v : Value}
    (P : Put (fun a => Vol C.env V₀ σ₀ a ∨ s₀.heap.get? a = none) V σ φ s.heap i sl v)
    {Q : Unit → Shared → Prop} {E : Value → Shared → Prop}
    (h : ∀ h' tk a, Heap.SameBut a s.heap h' → (a = C.env.locals ∨ ∃ y, C.env.cells.lookup y = some a) → Step C.env C.ns φ₀ V₀ σ₀ s₀ φ (newV V i sl v) (sp σ i sl) { s with heap := h', toks := tk } → Q () { s with heap := h', toks := tk }) :
    wpAny (model C.prog C.w) C.A (storeName C.env x v) Q E s := by
  have R := T.rs
  have hlt : i < C.ns.length := by
    rcases Nat.lt_or_ge i C.ns.length with h | h
    · exact h
    · rw [List.getElem?_eq_none h] at hi; cases hi
  have hσ : i < σ.length := by rw [R.len]; exact hlt
  -- the new frame from the new heap
  have fin : ∀ (a : Addr) (h' : Heap) (tk : Nat), Heap.SameBut a s.heap h' → (a = C.env.locals ∨ ∃ y, C.env.cells.lookup y = some a) → (∃ m, h'.Ns C.env.locals m) → (∀ y c, C.env.cells.lookup y = some c → ∃ w, h'.IsCell c w) →
      Held h' C.env x v → (∀ y w, y ≠ x → Held s.heap C.env y w → Held h' C.env y w) → Step C.env C.ns φ₀ V₀ σ₀ s₀ φ (newV V i sl v) (sp σ i sl) { s with heap := h', toks := tk } := by
    intro a h' tk hs ha hns hcel hx hy
    have hva : Vol C.env V σ a := by
      rcases ha with e | ⟨y, hy⟩
      · exact .inl e
      · exact .inr (.inl ⟨y, hy⟩)
    have φa : φ a = none := R.vol_none hva
    have keepφ : ∀ b o, φ b = some o → h'.get? b = some o := fun b o e => (hs.2 b (fun hb => by rw [hb, φa] at e; cases e)).trans (R.sub _ _ e)
    have alist : ∀ b vs n, s.heap.get? b = some (lobj vs n) → b ≠ a := by
      intro b vs n hb e
      subst e
      rcases ha with e | ⟨y, hy⟩
      · obtain ⟨o, es, ep, ho, hd⟩ := R.locals_some
        rw [← e, hb] at ho
        cases ho; cases hd
      · obtain ⟨_, w, o, ho, hd⟩ := R.cel y b hy
        rw [hb] at ho
        cases ho; cases hd
    have g0 : GrowX (Vol C.env V₀ σ₀) φ₀ s₀ φ { s with heap := h', toks := tk } := by
      refine ⟨?_, T.grow.sub, fun b o hb e => ?_⟩
      · obtain ⟨h2, t2, e⟩ := T.grow.same
        rw [e]; exact ⟨_, _, rfl⟩
      · obtain ⟨e1, e2⟩ := T.grow.keep b o hb e
        refine ⟨(hs.2 b (fun e' => ?_)).trans e1, e2⟩
        subst e'
        rcases T.vol b hva with hv | hv
        · exact hb hv
        · rw [hv] at e; cases e
    refine ⟨g0, ?_, ?_, ?_⟩
    rotate_left 2
    · by_cases hi0 : i = 0
      · unfold newV
        split
        · obtain ⟨_, _, _, _, _, _, _, _, _, hne⟩ := P
          exact absurd hi0 hne
        · exact T.v0
      · rw [newV_ne _ _ _ _ _ (Ne.symm hi0)]; exact T.v0
    · refine ⟨keepφ, by rw [sp_length, R.len], hns, R.loc, fun y c hc => ⟨(R.cel y c hc).1, hcel y c hc⟩, R.cinj, ?_, ?_, ?_⟩
      · intro j y hj p hp
        by_cases hij : i = j
        · subst hij
          rw [hi] at hj; cases hj
          rw [sg_sp_same _ _ _ hσ] at hp
          subst hp
          exact ⟨v, hx, P⟩
        · rw [sg_sp_ne _ _ _ _ hij] at hp
          obtain ⟨w, H, r⟩ := R.vals j y hj p hp
          exact ⟨w, hy y w (fun e => hij (O.inj i j x hi (e ▸ hj))) H, r⟩
      · intro j y hj p hp
        by_cases hij : i = j
        · subst hij
          rw [hi] at hj; cases hj
          rw [sg_sp_same _ _ _ hσ] at hp
          subst hp
          obtain ⟨b, vs, n, rfl, hb, hn, hv, c, _⟩ := P
          have e : newV V i (.own p) (.ref b) i = b := newV_eq ..
          rw [e]
          exact ⟨hx, hb, vs, n, (hs.2 b (alist _ _ _ hv)).trans hv, c⟩
        · rw [sg_sp_ne _ _ _ _ hij] at hp
          obtain ⟨H, hb, vs, n, hv, c⟩ := R.owns j y hj p hp
          have e : newV V i sl v j = V j := newV_ne _ _ _ _ _ (Ne.symm hij)
          rw [e]
          exact ⟨hy y _ (fun e => hij (O.inj i j x hi (e ▸ hj))) H, hb, vs, n, (hs.2 _ (alist _ _ _ hv)).trans hv, c⟩
      · intro j k xs ys hj hk e
        by_cases hij : i = j
        · by_cases hik : i = k
          · exact hij.symm.trans hik
          · subst hij
            rw [sg_sp_same _ _ _ hσ] at hj
            subst hj
            rw [sg_sp_ne _ _ _ _ hik] at hk
            obtain ⟨b, vs, n, rfl, hb, hn, hv, c⟩ := P
            rw [newV_eq, newV_ne _ _ _ _ _ (Ne.symm hik)] at e
            exact absurd e.symm (hn k ys hk)
        · by_cases hik : i = k
          · subst hik
            rw [sg_sp_same _ _ _ hσ] at hk
            subst hk
            rw [sg_sp_ne _ _ _ _ hij] at hj
            obtain ⟨b, vs, n, rfl, hb, hn, hv, c⟩ := P
            rw [newV_eq, newV_ne _ _ _ _ _ (Ne.symm hij)] at e
            exact absurd e (hn j xs hj)
          · rw [sg_sp_ne _ _ _ _ hij] at hj
            rw [sg_sp_ne _ _ _ _ hik] at hk
            rw [newV_ne _ _ _ _ _ (Ne.symm hij), newV_ne _ _ _ _ _ (Ne.symm hik)] at e
            exact R.oinj j k xs ys hj hk e
    · rintro b (hb | hb | ⟨j, xs, hj, hb⟩)
      · exact T.vol b (.inl hb)
      · exact T.vol b (.inr (.inl hb))
      · by_cases hij : i = j
        · subst hij
          rw [sg_sp_same _ _ _ hσ] at hj
          subst hj
          obtain ⟨c, vs, n, rfl, hc, hn, hv, _, hX⟩ := P
          rw [newV_eq] at hb
          subst hb
          exact hX.1
        · rw [sg_sp_ne _ _ _ _ hij] at hj
          rw [newV_ne _ _ _ _ _ (Ne.symm hij)] at hb
          exact T.vol b (.inr (.inr ⟨j, xs, hj, hb⟩))
  rcases hst with ⟨hc, hk⟩ | ⟨c, hc, hk⟩
  · obtain ⟨m, hm⟩ := R.nsx
    refine wpAny_storeName_local hk hm (fun h' hn' hs' => h h' _ C.env.locals hs' (.inl rfl) (fin C.env.locals h' _ hs' (.inl rfl) ⟨_, hn'⟩ ?_ ?_ ?_)) (by rw [O.kind]; rfl)
    · intro y c hy
      obtain ⟨_, w, o, ho, hd⟩ := R.cel y c hy
      refine ⟨w, Heap.IsCell.sameBut ⟨o, ho, hd⟩ hs' (fun e => ?_)⟩
      subst e
      obtain ⟨o', es, ep, ho', hd'⟩ := R.locals_some
      rw [ho] at ho'; cases ho'; rw [hd] at hd'; cases hd'
    · unfold Held
      rw [hc]
      exact ⟨_, hn', by simp⟩
    · intro y w hyx H
      unfold Held at H ⊢
      cases hl : C.env.cells.lookup y with
      | some c =>
        rw [hl] at H
        refine H.sameBut hs' (fun e => ?_)
        subst e
        obtain ⟨o', es, ep, ho', hd'⟩ := R.locals_some
        obtain ⟨o, ho, hd⟩ := H
        rw [ho] at ho'; cases ho'; rw [hd] at hd'; cases hd'
      | none =>
        rw [hl] at H
        obtain ⟨m', hm', hw⟩ := H
        refine ⟨_, hn', ?_⟩
        have e : m y = m' y := by
          obtain ⟨o1, es1, ep1, a1, b1, c1, d1⟩ := hm
          obtain ⟨o2, es2, ep2, a2, b2, c2, d2⟩ := hm'
          rw [a1] at a2; cases a2
          rw [b1] at b2; cases b2
          rw [← d1, ← d2]
        simp only [if_neg hyx, e, hw]
  · obtain ⟨_, w, hw⟩ := R.cel x c hc
    refine wpAny_storeName_cell O.kind hk hc hw fun h' hc' hs' => ?_
    have hLc : C.env.locals ≠ c := fun e => by
      obtain ⟨o', es, ep, ho', hd'⟩ := R.locals_some
      obtain ⟨o, ho, hd⟩ := hw
      rw [e, ho] at ho'; cases ho'; rw [hd] at hd'; cases hd'
    refine h h' s.toks c hs' (.inr ⟨x, hc⟩) (fin c h' s.toks hs' (.inr ⟨x, hc⟩) ?_ ?_ ?_ ?_)
    · obtain ⟨m, hm⟩ := R.nsx
      exact ⟨m, hm.sameBut hs' hLc⟩
    · intro y c' hy
      by_cases e : c' = c
      · subst e; exact ⟨_, hc'⟩
      · obtain ⟨_, w', hw'⟩ := R.cel y c' hy
        exact ⟨w', hw'.sameBut hs' e⟩
    · unfold Held; rw [hc]; exact hc'
    · intro y w' hyx H
      unfold Held at H ⊢
      cases hl : C.env.cells.lookup y with
      | some c' =>
        rw [hl] at H
        exact H.sameBut hs' (fun e => hyx (R.cinj y x c (e ▸ hl) hc))
      | none =>
        rw [hl] at H
        obtain ⟨m', hm', hw⟩ := H
        exact ⟨m', hm'.sameBut hs' hLc, hw⟩
end
end Mine

open PySem PySem.Calls PyProof.Rows
set_option Elab.async false
namespace Mine

inductive Oc where
  | next
  | ret (x : PV)
abbrev Tr := List Sl → (Oc → List Sl → Prop) → Prop

def Fin' (φ : Fz) (σ : List Sl) (G : Oc → List Sl → Prop) (f : Flow) : Prop := match f with
  | .next => G .next σ
  | .ret v => ∃ x, Rep φ x v ∧ G (.ret x) σ
  | _ => False
def After (C : Cx) (φ : Fz) (V : Nat → Addr) (σ : List Sl) (s : Shared) (G : Oc → List Sl → Prop) (f : Flow) (s' : Shared) : Prop :=
  ∃ φ' V' σ', Step C.env C.ns φ V σ s φ' V' σ' s' ∧ Fin' φ' σ' G f

def SS (C : Cx) (st : Stmt) (F : Tr) : Prop :=
  ∀ φ V σ s G, St C φ → RS C.env C.ns φ V σ s.heap → F σ G → ∀ E, wpAny (model C.prog C.w) C.A (exec st C.env) (After C φ V σ s G) E s
def SSs (C : Cx) (sts : List Stmt) (F : Tr) : Prop :=
  ∀ φ V σ s G, St C φ → RS C.env C.ns φ V σ s.heap → F σ G → ∀ E, wpAny (model C.prog C.w) C.A (execs sts C.env) (After C φ V σ s G) E s

def seqO (F2 : Tr) (G : Oc → List Sl → Prop) : Oc → List Sl → Prop := fun o σ' => match o with
  | .next => F2 σ' G
  | .ret x => G (.ret x) σ'

section
variable {C : Cx} {d : Nat}

theorem After.from {φ φ' : Fz} {V V' : Nat → Addr} {σ σ' : List Sl} {s s' : Shared} {G : Oc → List Sl → Prop} {f : Flow} {s'' : Shared} (a : Step C.env C.ns φ V σ s φ' V' σ' s') (b : After C φ' V' σ' s' G f s'') : After C φ V σ s G f s'' := by
  obtain ⟨φ₂, V₂, σ₂, st, h⟩ := b
  exact ⟨φ₂, V₂, σ₂, a.trans st, h⟩

def q_SSs_nil : Tr := fun σ G => G .next σ
theorem zbe (σ : List Sl) (G : Oc → List Sl → Prop) : q_SSs_nil σ G = (G .next σ) := rfl
theorem SSs.nil : SSs C [] q_SSs_nil := by
  intro φ V σ s G S R hF E
  exact wpAny_execs_nil ⟨φ, V, σ, .refl R, hF⟩
def q_SSs_cons (F1 : Tr) (F2 : Tr) : Tr := fun σ G => F1 σ (seqO F2 G)
theorem zbf (F1 : Tr) (F2 : Tr) (σ : List Sl) (G : Oc → List Sl → Prop) : q_SSs_cons F1 F2 σ G = (F1 σ (seqO F2 G)) := rfl
theorem SSs.cons {st : Stmt} {rest : List Stmt} {F1 F2 : Tr} (h1 : SS C st F1) (h2 : SSs C rest F2) : SSs C (st :: rest) (q_SSs_cons F1 F2) := by
  intro φ V σ s G S R hF E
  refine wpAny_execs_cons (wpAny_mono (h1 φ V σ s _ S R hF E) (fun f s₁ h₁ => ?_) fun _ _ x => x)
  obtain ⟨φ₁, V₁, σ₁, st₁, hf⟩ := h₁
  cases f with
  | next => exact wpAny_mono (h2 φ₁ V₁ σ₁ s₁ G (S.step st₁) st₁.rs hf E) (fun f s₂ h₂ => h₂.from st₁) fun _ _ x => x
  | ret v => exact ⟨φ₁, V₁, σ₁, st₁, hf⟩
  | brk => exact hf.elim
  | cont => exact hf.elim

def SO (C : Cx) (e : Expr) (F : ET) : Prop :=
  ∀ φ V σ s G, St C φ → RS C.env C.ns φ V σ s.heap → F σ G → ∀ E,
    wpAny (model C.prog C.w) C.A (eval e C.env) (fun v s' => ∃ φ' a vs n p, Grow φ s φ' s' ∧ v = .ref a ∧ φ' a = none ∧ s.heap.get? a = none ∧ s'.heap.get? a = some (lobj vs n) ∧ Cont φ' p vs ∧ G p) E s

theorem size_none (h : Heap) : h.get? h.objs.size = none := by
  cases e : h.get? h.objs.size with
  | none => rfl
  | some o => exact absurd (Heap.lt_size e) (Nat.lt_irrefl _)

theorem own_new {φ φ₁ : Fz} {s s₁ : Shared} {G : PV → Prop} {vs : Array Value} {p : PV} (g : Grow φ s φ₁ s₁) (c : Cont φ₁ p vs) (hG : G p) :
    ∃ φ' a ws n q, Grow φ s φ' { s₁ with heap := s₁.heap.push (lobj vs 0) } ∧ Value.ref s₁.heap.objs.size = .ref a ∧ φ' a = none ∧ s.heap.get? a = none ∧ (s₁.heap.push (lobj vs 0)).get? a = some (lobj ws n) ∧ Cont φ' q ws ∧ G q := by
  have hn := size_none s₁.heap
  have h1 : φ₁ s₁.heap.objs.size = none := by
    cases e : φ₁ s₁.heap.objs.size with
    | none => rfl
    | some o => rw [g.here _ _ e] at hn; cases hn
  have h2 : s.heap.get? s₁.heap.objs.size = none := by
    cases e : s.heap.get? s₁.heap.objs.size with
    | none => rfl
    | some o => rw [(g.keep _ _ e).1] at hn; cases hn
  exact ⟨φ₁, s₁.heap.objs.size, vs, 0, p, g.trans (Grow.heap g.here (fun b o e => Heap.get?_push_of_some _ e) _), rfl, h1, h2, Heap.get?_push_size _ rfl, c, hG⟩

def q_SO_listI (F : LT) : ET := fun σ G => F σ fun xs => intsT xs fun L => G (.ints L)
theorem zbg (F : LT) (σ : List Sl) (G : PV → Prop) : q_SO_listI F σ G = (F σ fun xs => intsT xs fun L => G (.ints L)) := rfl
theorem SO.listI {es : List Expr} {F : LT} (h : SEs C es F) (pos : Pos) (hn : es.length ≤ 1000 := by decide) : SO C (.List es pos) (q_SO_listI F) := by
  intro φ V σ s G S R hF E
  refine wpAny_List_spliced (wpAny_mono (h φ V σ s _ S R hF pos E) (fun vs s₁ h₁ => ?_) fun _ _ x => x)
  obtain ⟨φ₁, xs, g₁, r, hl, hG⟩ := h₁
  have hlen := r.length
  refine ⟨by rw [sizeLine_eq]; lia, ?_⟩
  unfold intsT at hG
  split at hG
  · rename_i L hL
    obtain ⟨a, b⟩ := intsOf_are hL r
    exact own_new (p := .ints L) g₁ ⟨by simpa using a, by lia⟩ hG
  · exact hG.elim
def q_SO_listP (F : LT) : ET := fun σ G => F σ fun xs => G (.list xs)
theorem zbh (F : LT) (σ : List Sl) (G : PV → Prop) : q_SO_listP F σ G = (F σ fun xs => G (.list xs)) := rfl
theorem SO.listP {es : List Expr} {F : LT} (h : SEs C es F) (pos : Pos) (hn : es.length ≤ 1000 := by decide) : SO C (.List es pos) (q_SO_listP F) := by
  intro φ V σ s G S R hF E
  refine wpAny_List_spliced (wpAny_mono (h φ V σ s _ S R hF pos E) (fun vs s₁ h₁ => ?_) fun _ _ x => x)
  obtain ⟨φ₁, xs, g₁, r, hl, hG⟩ := h₁
  have hlen := r.length
  refine ⟨by rw [sizeLine_eq]; lia, ?_⟩
  exact own_new (p := .list xs) g₁ ⟨by simpa using r, by lia⟩ hG

def repT (b : PV) (k : PV) (G : PV → Prop) : Prop := match b with
  | .ints xs => (match k with | .int j => xs.length * j.toNat ≤ 1000000 ∧ -1000000 ≤ j ∧ j ≤ 1000000 ∧ G (.ints (List.replicate j.toNat xs).flatten) | _ => False)
  | _ => False
def q_SO_mul (F : ET) (H : ET) : ET := fun σ G => F σ fun a => H σ fun b => repT a b G
theorem zbi (F : ET) (H : ET) (σ : List Sl) (G : PV → Prop) : q_SO_mul F H σ G = (F σ fun a => H σ fun b => repT a b G) := rfl
theorem SO.mul {l r : Expr} {F H : ET} (hl : SE C l F) (hr : SE C r H) (pos : Pos) : SO C (.BinOp l .Mult r pos) (q_SO_mul F H) := by
  intro φ V σ s G S R hF E
  refine wpAny_BinOp (wpAny_mono (hl φ V σ s _ S R hF E) (fun va s₁ h₁ => ?_) fun _ _ x => x)
  obtain ⟨φ₁, a, g₁, ra, hF₁⟩ := h₁
  refine wpAny_mono (hr φ₁ V σ s₁ _ (S.grow g₁) (R.grow g₁) hF₁ E) (fun vb s₂ h₂ => ?_) fun _ _ x => x
  obtain ⟨φ₂, b, g₂, rb, h⟩ := h₂
  have ra' := Rep.mono g₂.sub _ _ ra
  have hs := g₂.here
  unfold repT at h
  split at h
  · split at h
    · rename_i xs _ x
      obtain ⟨l, items, k, rfl, hl, rl, _⟩ := rep_ints ra'
      obtain ⟨u, rfl⟩ := rep_int rb
      obtain ⟨h1, h2, h3, h4⟩ := h
      have e1 := rl.length
      simp only [Array.length_toList] at e1
      refine wpAny_binaryOp_repeat_ref (T := "list") (U := "int") (by decide) ⟨_, hs _ _ hl, rfl⟩ (fun s' => typeIs_int s' x u) noFill_list_mul PySem.F.fills_int_mul PySem.F.slot_int_rmul repeat_list PySem.F.slot_int_index.lookup
        (call_meets PySem.F.slot_int_rmul (typeIs_int s₂ x u) PySem.F.entry_int_rmul (PySem.F.args_int_rmul_2 _ _) (int___rmul___int_list x u l items k)
          ⟨hs _ _ hl, rfl, ⟨_, hs _ _ hl, rfl⟩, call_meets PySem.F.slot_list_mul ⟨_, hs _ _ hl, rfl⟩ PySem.F.entry_list_mul (PySem.F.args_list_mul_2 _ _)
            (AutoListH.list___mul___list_int_3 l items k x u (by simp [Builtin.List.listFitsIndex]; lia) (by rw [e1]; lia) (by rw [e1]; simp [Builtin.List.listTooLong, sizeLine]; lia))
            ⟨hs _ _ hl, ?_⟩⟩)
      by_cases hem : items.isEmpty = true
      · rw [if_pos hem]
        have : xs = [] := by
          have : items.size = 0 := by simpa using hem
          rw [e1] at this
          exact List.length_eq_zero_iff.mp this
        subst this
        exact own_new (p := .ints _) (g₁.trans g₂) ⟨by simpa using IntsAre.nil, by simp⟩ h4
      · rw [if_neg hem]
        exact own_new (p := .ints _) (g₁.trans g₂) ⟨flat_rep rl _, by simp only [List.length_flatten, List.map_replicate, List.sum_replicate_nat]; rw [Nat.mul_comm]; exact h1⟩ h4
    · exact h.elim
  · exact h.elim
def catT (b : PV) (k : PV) (G : PV → Prop) : Prop := match b with
  | .ints xs => (match k with | .ints ys => xs.length + ys.length ≤ 1000000 ∧ G (.ints (xs ++ ys)) | _ => False)
  | _ => False
def q_SO_add (F : ET) (H : ET) : ET := fun σ G => F σ fun a => H σ fun b => catT a b G
theorem zbj (F : ET) (H : ET) (σ : List Sl) (G : PV → Prop) : q_SO_add F H σ G = (F σ fun a => H σ fun b => catT a b G) := rfl
theorem SO.add {l r : Expr} {F H : ET} (hl : SE C l F) (hr : SE C r H) (pos : Pos) : SO C (.BinOp l .Add r pos) (q_SO_add F H) := by
  intro φ V σ s G S R hF E
  refine wpAny_BinOp (wpAny_mono (hl φ V σ s _ S R hF E) (fun va s₁ h₁ => ?_) fun _ _ x => x)
  obtain ⟨φ₁, a, g₁, ra, hF₁⟩ := h₁
  refine wpAny_mono (hr φ₁ V σ s₁ _ (S.grow g₁) (R.grow g₁) hF₁ E) (fun vb s₂ h₂ => ?_) fun _ _ x => x
  obtain ⟨φ₂, b, g₂, rb, h⟩ := h₂
  have ra' := Rep.mono g₂.sub _ _ ra
  have hs := g₂.here
  unfold catT at h
  split at h
  · split at h
    · obtain ⟨l, vs, n, rfl, hl, rl, _⟩ := rep_ints ra'
      obtain ⟨l2, vs2, n2, rfl, hl2, rl2, _⟩ := rep_ints rb
      have e1 := rl.length
      have e2 := rl2.length
      simp only [Array.length_toList] at e1 e2
      refine P.add_list (hs _ _ hl) (hs _ _ hl2) ?_ (by have := h.1; rw [sizeLine_eq]; lia)
      exact own_new (p := .ints _) (g₁.trans g₂) ⟨by rw [Array.toList_append]; exact IntsAre.append rl rl2, by simpa using h.1⟩ h.2
    · exact h.elim
  · exact h.elim

def q_SS_assign (F : ET) (i : Nat) : Tr := fun σ G => F σ fun a => G .next (sp σ i (.val a))
theorem zbk (F : ET) (i : Nat) (σ : List Sl) (G : Oc → List Sl → Prop) : q_SS_assign F i σ G = (F σ fun a => G .next (sp σ i (.val a))) := rfl
theorem SS.assign (O : C.Ok d) {e : Expr} {F : ET} (i : Nat) (x : Str) (h : SE C e F) (p pos : Pos) (hi : C.ns[i]? = some x) (hst : Storable C x) (hsw : ∀ env, swapsWith e (some (.Name x p)) pos.line env = pure false := by intro _; rfl) :
    SS C (.Assign [.Name x p] e pos) (q_SS_assign F i) := by
  intro φ V σ s G S R hF E
  refine wpAny_Assign_Name (wpAny_mono (h φ V σ s _ S R hF E) (fun v s₁ h₁ => ?_) fun _ _ x => x) (hsw _)
  obtain ⟨φ₁, a, g₁, ra, hG⟩ := h₁
  exact store_slot O (Step.of_grow R g₁) hi hst (sl := .val a) ra fun h' tk b _ _ st => ⟨_, _, _, st, hG⟩
def q_SS_assignO (F : ET) (i : Nat) : Tr := fun σ G => F σ fun a => G .next (sp σ i (.own a))
theorem zbl (F : ET) (i : Nat) (σ : List Sl) (G : Oc → List Sl → Prop) : q_SS_assignO F i σ G = (F σ fun a => G .next (sp σ i (.own a))) := rfl
theorem SS.assignO (O : C.Ok d) {e : Expr} {F : ET} (i : Nat) (x : Str) (h : SO C e F) (p pos : Pos) (hi : C.ns[i]? = some x) (hst : Storable C x) (hne : i ≠ 0 := by decide) (hsw : ∀ env, swapsWith e (some (.Name x p)) pos.line env = pure false := by intro _; rfl) :
    SS C (.Assign [.Name x p] e pos) (q_SS_assignO F i) := by
  intro φ V σ s G S R hF E
  refine wpAny_Assign_Name (wpAny_mono (h φ V σ s _ S R hF E) (fun v s₁ h₁ => ?_) fun _ _ x => x) (hsw _)
  obtain ⟨φ₁, a, vs, n, q, g₁, rfl, ha, hs, hv, c, hG⟩ := h₁
  refine store_slot O (Step.of_grow R g₁) hi hst (sl := .own q) ⟨a, vs, n, rfl, ha, fun j xs hj e => ?_, hv, c, .inr hs, hne⟩ fun h' tk b _ _ st => ⟨_, _, _, st, hG⟩
  obtain ⟨o, ho⟩ := R.vol_some (b := V j) (.inr (.inr ⟨j, xs, hj, rfl⟩))
  rw [e, hs] at ho; cases ho

def q_SS_ret (F : ET) : Tr := fun σ G => F σ fun a => G (.ret a) σ
theorem zbm (F : ET) (σ : List Sl) (G : Oc → List Sl → Prop) : q_SS_ret F σ G = (F σ fun a => G (.ret a) σ) := rfl
theorem SS.ret {e : Expr} {F : ET} (h : SE C e F) (pos : Pos) : SS C (.Return (some e) pos) (q_SS_ret F) := by
  intro φ V σ s G S R hF E
  refine wpAny_Return_some (wpAny_mono (h φ V σ s _ S R hF E) (fun v s₁ h₁ => ?_) fun _ _ x => x)
  obtain ⟨φ₁, a, g₁, ra, hG⟩ := h₁
  exact ⟨φ₁, V, σ, .of_grow R g₁, a, ra, hG⟩

def q_SS_ite (F : BT) (H : Tr) (K : Tr) : Tr := fun σ G => F σ fun c => then' c (H σ G) (K σ G)
theorem zbn (F : BT) (H : Tr) (K : Tr) (σ : List Sl) (G : Oc → List Sl → Prop) : q_SS_ite F H K σ G = (F σ fun c => then' c (H σ G) (K σ G)) := rfl
theorem SS.ite {t : Expr} {b o : List Stmt} {F : BT} {H K : Tr} (ht : STr C t F) (hb : SSs C b H) (ho : SSs C o K) (pos : Pos) : SS C (.If t b o pos) (q_SS_ite F H K) := by
  intro φ V σ s G S R hF E
  refine wpAny_If (wpAny_mono (ht φ V σ s _ S R hF E) (fun c s₁ h₁ => ?_) fun _ _ x => x)
  obtain ⟨φ₁, g₁, t₁⟩ := h₁
  have st := Step.of_grow R g₁
  cases c with
  | true => exact wpAny_mono (hb φ₁ V σ s₁ _ (S.grow g₁) (R.grow g₁) (t₁.1 rfl) E) (fun f s₂ h₂ => h₂.from st) fun _ _ x => x
  | false => exact wpAny_mono (ho φ₁ V σ s₁ _ (S.grow g₁) (R.grow g₁) (t₁.2 rfl) E) (fun f s₂ h₂ => h₂.from st) fun _ _ x => x

def q_SS_guard (F : BT) : Tr := fun σ G => F σ fun c => c = false ∧ G .next σ
theorem zbo (F : BT) (σ : List Sl) (G : Oc → List Sl → Prop) : q_SS_guard F σ G = (F σ fun c => c = false ∧ G .next σ) := rfl
theorem SS.guard {t : Expr} {b : List Stmt} {F : BT} (ht : STr C t F) (pos : Pos) : SS C (.If t b [] pos) (q_SS_guard F) := by
  intro φ V σ s G S R hF E
  refine wpAny_If (wpAny_mono (ht φ V σ s _ S R hF E) (fun c s₁ h₁ => ?_) fun _ _ x => x)
  obtain ⟨φ₁, g₁, rfl, hG⟩ := h₁
  exact wpAny_execs_nil ⟨φ₁, V, σ, .of_grow R g₁, hG⟩

def q_SS_aug (F : ET) (T : PV → PV → (PV → Prop) → Prop) (i : Nat) : Tr := fun σ G => match sg σ i with
      | .val (.int n) => F σ fun b => (match b with | .int m => T (.int n) (.int m) fun r => G .next (sp σ i (.val r)) | _ => False)
      | _ => False
theorem zbp (F : ET) (T : PV → PV → (PV → Prop) → Prop) (i : Nat) (σ : List Sl) (G : Oc → List Sl → Prop) : q_SS_aug F T i σ G = (match sg σ i with
      | .val (.int n) => F σ fun b => (match b with | .int m => T (.int n) (.int m) fun r => G .next (sp σ i (.val r)) | _ => False)
      | _ => False) := rfl
theorem SS.aug (O : C.Ok d) {e : Expr} {F : ET} {op : Operator} {T : PV → PV → (PV → Prop) → Prop} (ok : InpOk op T) (i : Nat) (x : Str) (h : SE C e F) (p pos : Pos) (hi : C.ns[i]? = some x) (hst : Storable C x) :
    SS C (.AugAssign (.Name x p) op e pos) (q_SS_aug F T i) := by
  intro φ V σ s G S R hF E
  unfold q_SS_aug at hF
  split at hF
  · rename_i n hn
    obtain ⟨v, H, r⟩ := R.vals i x hi _ hn
    refine wpAny_AugAssign_Name (wpAny_held O hi H (wpAny_mono (h φ V σ s _ S R hF E) (fun vb s₁ h₁ => ?_) fun _ _ x => x))
    obtain ⟨φ₁, b, g₁, rb, hb⟩ := h₁
    split at hb
    · refine wpAny_mono (ok C.prog C.w C.A φ₁ s₁ _ _ _ _ _ E g₁.here (Rep.mono g₁.sub _ _ r) rb hb) (fun w s₂ h₂ => ?_) fun _ _ x => x
      obtain ⟨φ₂, y, g₂, ry, hG⟩ := h₂
      exact store_slot O (Step.of_grow R (g₁.trans g₂)) hi hst (sl := .val y) ry fun h' tk b _ _ st => ⟨_, _, _, st, hG⟩
    · exact hb.elim
  · exact hF.elim

theorem RS.freeze {env : Env} {ns : List Str} {φ : Fz} {V : Nat → Addr} {σ : List Sl} {s : Shared} (R : RS env ns φ V σ s.heap) {i : Nat} {p : PV} (hp : sg σ i = .own p) : ∃ φ', Step env ns φ V σ s φ' V (sp σ i (.val p)) s := by
  have hlt : i < ns.length := by
    rcases Nat.lt_or_ge i ns.length with h | h
    · exact h
    · rw [sg_un _ _ (by rw [R.len]; exact h)] at hp; cases hp
  have hσ : i < σ.length := by rw [R.len]; exact hlt
  obtain ⟨H, ha, vs, n, hv, c⟩ := R.owns i ns[i] (by simp [hlt]) p hp
  have sub : ∀ b o, φ b = some o → fzPut φ (V i) (lobj vs n) b = some o := fun b o e => by
    unfold fzPut
    rw [if_neg (fun h => by rw [h, ha] at e; cases e)]; exact e
  have ne : ∀ b, φ b = none → b ≠ V i → fzPut φ (V i) (lobj vs n) b = none := fun b hb hne => by unfold fzPut; rw [if_neg hne]; exact hb
  refine ⟨fzPut φ (V i) (lobj vs n), ⟨⟨_, _, rfl⟩, sub, fun b o hb e => ⟨e, ?_⟩⟩, ?_, ?_, rfl⟩
  · unfold fzPut
    rw [if_neg (fun h => hb (.inr (.inr ⟨i, p, hp, h.symm⟩)))]
  · refine ⟨fun b o e => ?_, by rw [sp_length, R.len], R.nsx, ne _ R.loc (fun e => ?_), fun x c' hc => ⟨ne _ (R.cel x c' hc).1 (fun e => ?_), (R.cel x c' hc).2⟩, R.cinj, ?_, ?_, ?_⟩
    · unfold fzPut at e
      by_cases hb : b = V i
      · rw [if_pos hb] at e; cases e; rw [hb]; exact hv
      · rw [if_neg hb] at e; exact R.sub _ _ e
    · obtain ⟨o, es, ep, ho, hd⟩ := R.locals_some
      rw [e, hv] at ho; cases ho; cases hd
    · obtain ⟨_, w, o, ho, hd⟩ := R.cel x c' hc
      rw [e, hv] at ho; cases ho; cases hd
    · intro j x hj q hq
      by_cases hij : i = j
      · subst hij
        rw [sg_sp_same _ _ _ hσ] at hq
        cases hq
        have : ns[i] = x := by simpa [hlt] using hj
        subst this
        exact ⟨_, H, (c.mono sub).rep (n := n) (by simp [fzPut])⟩
      · rw [sg_sp_ne _ _ _ _ hij] at hq
        obtain ⟨w, Hw, r⟩ := R.vals j x hj q hq
        exact ⟨w, Hw, Rep.mono sub _ _ r⟩
    · intro j x hj q hq
      by_cases hij : i = j
      · subst hij
        rw [sg_sp_same _ _ _ hσ] at hq
        cases hq
      · rw [sg_sp_ne _ _ _ _ hij] at hq
        obtain ⟨Hj, hb, ws, m, hw, c'⟩ := R.owns j x hj q hq
        exact ⟨Hj, ne _ hb (fun e => hij (R.oinj i j p q hp hq e.symm)), ws, m, hw, c'.mono sub⟩
    · intro j k xs ys hj hk e
      have hij : i ≠ j := by rintro rfl; rw [sg_sp_same _ _ _ hσ] at hj; cases hj
      have hik : i ≠ k := by rintro rfl; rw [sg_sp_same _ _ _ hσ] at hk; cases hk
      rw [sg_sp_ne _ _ _ _ hij] at hj
      rw [sg_sp_ne _ _ _ _ hik] at hk
      exact R.oinj j k xs ys hj hk e
  · rintro b (hb | hb | ⟨j, xs, hj, hb⟩)
    · exact .inl (.inl hb)
    · exact .inl (.inr (.inl hb))
    · have hij : i ≠ j := by rintro rfl; rw [sg_sp_same _ _ _ hσ] at hj; cases hj
      rw [sg_sp_ne _ _ _ _ hij] at hj
      exact .inl (.inr (.inr ⟨j, xs, hj, hb⟩))

def frzT (i : Nat) (F : Tr) : Tr := fun σ G => match sg σ i with | .own p => F (sp σ i (.val p)) G | _ => False
theorem SS.freeze {st : Stmt} {F : Tr} (i : Nat) (h : SS C st F) : SS C st (frzT i F) := by
  intro φ V σ s G S R hF E
  unfold frzT at hF
  split at hF
  · rename_i p hp
    obtain ⟨φ', T⟩ := R.freeze (s := s) hp
    exact wpAny_mono (h φ' V _ s G (S.step T) T.rs hF E) (fun f s₂ h₂ => h₂.from T) fun _ _ x => x
  · exact hF.elim
end
end Mine

open PySem PySem.Calls PyProof.Rows
set_option Elab.async false
namespace Mine

theorem sg_lt {σ : List Sl} {i : Nat} {p : PV} (h : sg σ i = .own p) : i < σ.length := by
  rcases Nat.lt_or_ge i σ.length with h' | h'
  · exact h'
  · rw [sg_un _ _ h'] at h; cases h

theorem RS.keepBut {env : Env} {ns : List Str} {φ : Fz} {V : Nat → Addr} {σ : List Sl} {h h' : Heap} (R : RS env ns φ V σ h) {X : Addr → Prop} (hk : ∀ b o, ¬ X b → h.get? b = some o → h'.get? b = some o)
    (hφ : ∀ b, X b → φ b = none) (hV : ∀ b, X b → ¬ Vol env V σ b) : RS env ns φ V σ h' := by
  have vk : ∀ b o, Vol env V σ b → h.get? b = some o → h'.get? b = some o := fun b o hb e => hk b o (fun hx => hV b hx hb) e
  have held : ∀ x v, Held h env x v → Held h' env x v := fun x v H => by
    unfold Held at H ⊢
    split at H
    · rename_i c hc
      obtain ⟨o, ho, hd⟩ := H
      exact ⟨o, vk _ _ (.inr (.inl ⟨x, hc⟩)) ho, hd⟩
    · obtain ⟨m, ⟨o, es, ep, ho, r⟩, hv⟩ := H
      exact ⟨m, ⟨o, es, ep, vk _ _ (.inl rfl) ho, r⟩, hv⟩
  refine ⟨fun b o e => hk b o (fun hx => by rw [hφ b hx] at e; cases e) (R.sub b o e), R.len, ?_, R.loc, fun x c hc => ⟨(R.cel x c hc).1, ?_⟩, R.cinj, fun i x hx p hp => ?_, fun i x hx p hp => ?_, R.oinj⟩
  · obtain ⟨m, o, es, ep, ho, r⟩ := R.nsx
    exact ⟨m, o, es, ep, vk _ _ (.inl rfl) ho, r⟩
  · obtain ⟨_, v, o, ho, hd⟩ := R.cel x c hc
    exact ⟨v, o, vk _ _ (.inr (.inl ⟨x, hc⟩)) ho, hd⟩
  · obtain ⟨v, H, r⟩ := R.vals i x hx p hp
    exact ⟨v, held _ _ H, r⟩
  · obtain ⟨H, ha, vs, n, hv, c⟩ := R.owns i x hx p hp
    exact ⟨held _ _ H, ha, vs, n, vk _ _ (.inr (.inr ⟨i, p, hp, rfl⟩)) hv, c⟩

theorem RS.ownUpd {env : Env} {ns : List Str} {φ : Fz} {V : Nat → Addr} {σ : List Sl} {s : Shared} (R : RS env ns φ V σ s.heap) {i : Nat} {p q : PV} (hp : sg σ i = .own p) {h' : Heap} {ws : Array Value} {m : Nat} (tk : Nat)
    (hs : Heap.SameBut (V i) s.heap h') (hv : h'.get? (V i) = some (lobj ws m)) (c : Cont φ q ws) : Step env ns φ V σ s φ V (sp σ i (.own q)) { s with heap := h', toks := tk } := by
  have hσ := sg_lt hp
  have hlt : i < ns.length := by rw [← R.len]; exact hσ
  have vi : Vol env V σ (V i) := .inr (.inr ⟨i, p, hp, rfl⟩)
  have φi := R.vol_none vi
  obtain ⟨_, _, vs, n, hold, _⟩ := R.owns i ns[i] (by simp [hlt]) p hp
  have hL : V i ≠ env.locals := fun e => by
    obtain ⟨o, es, ep, ho, hd⟩ := R.locals_some
    rw [← e, hold] at ho; cases ho; cases hd
  have hC : ∀ x c, env.cells.lookup x = some c → c ≠ V i := fun x c hc e => by
    obtain ⟨_, w, o, ho, hd⟩ := R.cel x c hc
    rw [e, hold] at ho; cases ho; cases hd
  have held : ∀ x v, Held s.heap env x v → Held h' env x v := fun x v H => H.sameBut hs hL (fun c hc => hC x c hc)
  refine ⟨⟨⟨_, _, rfl⟩, fun _ _ e => e, fun b o hb e => ⟨(hs.2 b (fun e' => hb (e' ▸ vi))).trans e, rfl⟩⟩, ?_, ?_, rfl⟩
  · refine ⟨fun b o e => (hs.2 b (fun e' => by rw [e', φi] at e; cases e)).trans (R.sub b o e), by rw [sp_length, R.len], ?_, R.loc, fun x c hc => ⟨(R.cel x c hc).1, ?_⟩, R.cinj, ?_, ?_, ?_⟩
    · obtain ⟨mm, hm⟩ := R.nsx
      exact ⟨mm, hm.sameBut hs hL.symm⟩
    · obtain ⟨_, v, hc'⟩ := R.cel x c hc
      exact ⟨v, hc'.sameBut hs (hC x c hc)⟩
    · intro j x hj r hr
      have hij : i ≠ j := by rintro rfl; rw [sg_sp_same _ _ _ hσ] at hr; cases hr
      rw [sg_sp_ne _ _ _ _ hij] at hr
      obtain ⟨v, H, rr⟩ := R.vals j x hj r hr
      exact ⟨v, held _ _ H, rr⟩
    · intro j x hj r hr
      by_cases hij : i = j
      · subst hij
        rw [sg_sp_same _ _ _ hσ] at hr
        cases hr
        obtain ⟨H, ha, _⟩ := R.owns i x hj p hp
        exact ⟨held _ _ H, ha, ws, m, hv, c⟩
      · rw [sg_sp_ne _ _ _ _ hij] at hr
        obtain ⟨H, ha, us, k, hu, cu⟩ := R.owns j x hj r hr
        exact ⟨held _ _ H, ha, us, k, (hs.2 _ (fun e => hij (R.oinj i j p r hp hr e.symm))).trans hu, cu⟩
    · intro j k xs ys hj hk e
      have aux : ∀ j xs, sg (sp σ i (.own q)) j = .own xs → ∃ ys, sg σ j = .own ys := fun j xs h => by
        by_cases hij : i = j
        · subst hij; exact ⟨p, hp⟩
        · rw [sg_sp_ne _ _ _ _ hij] at h; exact ⟨xs, h⟩
      obtain ⟨xs', h1⟩ := aux j xs hj
      obtain ⟨ys', h2⟩ := aux k ys hk
      exact R.oinj j k xs' ys' h1 h2 e
  · rintro b (hb | hb | ⟨j, xs, hj, hb⟩)
    · exact .inl (.inl hb)
    · exact .inl (.inr (.inl hb))
    · by_cases hij : i = j
      · subst hij; exact .inl (.inr (.inr ⟨i, p, hp, hb⟩))
      · rw [sg_sp_ne _ _ _ _ hij] at hj
        exact .inl (.inr (.inr ⟨j, xs, hj, hb⟩))

theorem setItem_exact {prog : Program} {w : World} {A : Around} {E : Value → Shared → Prop} {s : Shared} {l : Addr} {items : Array Value} {n : Nat} {k : Int} {t : Tok} {v : Value} {Q : Unit → Shared → Prop}
    (ho : s.heap.get? l = some (lobj items n)) (h0 : 0 ≤ k) (hfit : k < 2 ^ 63) (hn : k < items.size)
    (hQ : Q () { s with heap := s.heap.update l (Obj.mapSeq (·.setIfInBounds k.toNat v)) }) : wpAny (model prog w) A (setItem (.ref l) (.int k t) v) Q E s := by
  have hl : s.heap.IsList l items := ⟨_, ho, rfl, n, rfl⟩
  have hd : (lobj items n).data = .seq items n := rfl
  unfold setItem
  try with_reducible refine wpAny_holding ?_
  first | refine wpAny_bind (wpAny_pure ?_) | skip
  refine wpAny_bind (wpAny_sequenceKey hl.typeIs (by decide) ?_)
  refine wpAny_bind (wpAny_callSpecial?_slot (name := Str.ofString "__setitem__") hl.typeIs slot_list_setitem
    (wpAny_call_entry slot_list_setitem hl.typeIs entry_list_setitem ?_ (args_list_setitem _ _ _)))
  show wpAny _ _ (Builtin.List.listSubscript? (.int k t) >>= _) _ _ s
  refine wpAny_bind (wpAny_listSubscript_int (fitsIndex_of h0 hfit) ?_)
  clear hfit
  obtain ⟨j, rfl⟩ := Int.eq_ofNat_of_zero_le h0
  have hj : j < items.size := by lia
  have hx' : items[j]? = some items[j] := Array.getElem?_eq_getElem hj
  show wpAny _ _ ((seqItemAt l j >>= fun r => pure (r.map (j, ·))) >>= _) _ _ s
  refine wpAny_bind (wpAny_bind (wpAny_seqItemAt ho hd (wpAny_pure ?_)))
  rw [hx']
  show wpAny _ _ (setSeqItemAt l j v >>= _) _ _ s
  refine wpAny_bind (wpAny_setSeqItemAt ho hd ?_)
  first
    | exact wpAny_bind (wpAny_pure (wpAny_pure ⟨.none, rfl, wpAny_pure hQ⟩))
    | exact wpAny_pure ⟨.none, rfl, wpAny_pure hQ⟩

theorem set_obj (items : Array Value) (n : Nat) (k : Nat) (v : Value) : Obj.mapSeq (·.setIfInBounds k v) (lobj items n) = lobj (items.setIfInBounds k v) n := by
  simp [Obj.mapSeq]

theorem IntsAre.set {v : Int} {t : Tok} : ∀ (k : Nat) {vs : List Value} {ns : List Int}, IntsAre vs ns → IntsAre (vs.set k (.int v t)) (ns.set k v)
  | _, _, _, .nil => by simpa using IntsAre.nil
  | 0, _, _, .cons n u r => .cons v t r
  | k + 1, _, _, .cons n u r => .cons n u (IntsAre.set k r)

def setO (q k p : PV) (G : PV → Prop) : Prop := match q with
  | .ints L => (match k with
    | .int k => (match p with | .int v => 0 ≤ k ∧ k < (L.length : Int) ∧ G (.ints (L.set k.toNat v)) | _ => False)
    | _ => False)
  | .list xs => (match k with
    | .int k => 0 ≤ k ∧ k < (xs.length : Int) ∧ G (.list (xs.set k.toNat p))
    | _ => False)
  | _ => False

theorem upd_get {h : Heap} {a : Addr} {vs : Array Value} {n k : Nat} {v : Value} (hv : h.get? a = some (lobj vs n)) : (h.update a (Obj.mapSeq (·.setIfInBounds k v))).get? a = some (lobj (vs.setIfInBounds k v) n) := by
  rw [Heap.get?_update_self _ hv (by rw [set_obj]; rfl), set_obj]

section
variable {C : Cx} {d : Nat}

def q_SS_setitem (F : ET) (H : ET) (i : Nat) : Tr := fun σ G => match sg σ i with | .own r => (F σ fun a => H σ fun k => setO r k a fun q' => G .next (sp σ i (.own q'))) | _ => False
theorem zbq (F : ET) (H : ET) (i : Nat) (σ : List Sl) (G : Oc → List Sl → Prop) : q_SS_setitem F H i σ G = (match sg σ i with | .own r => (F σ fun a => H σ fun k => setO r k a fun q' => G .next (sp σ i (.own q'))) | _ => False) := rfl
theorem SS.setitem (O : C.Ok d) {e ie : Expr} {F H : ET} (i : Nat) (x : Str) (he : SE C e F) (hie : SE C ie H) (p q pos : Pos) (hi : C.ns[i]? = some x) (hd : (x == ("__debug__" : Str)) = false := by decide)
    (hsw : ∀ env, swapsWith e (some (.Subscript (.Name x p) ie q)) pos.line env = pure false := by intro _; rfl) :
    SS C (.Assign [.Subscript (.Name x p) ie q] e pos) (q_SS_setitem F H i) := by
  intro φ V σ s G S R hF E
  unfold q_SS_setitem at hF
  split at hF
  · rename_i r hc
    refine wpAny_Assign_Subscript (wpAny_mono (he φ V σ s _ S R hF E) (fun v s₁ h₁ => ?_) fun _ _ x => x) (hsw _)
    obtain ⟨φ₁, a, g₁, ra, hF₁⟩ := h₁
    have R₁ := R.grow g₁
    obtain ⟨Hx, hφ, vs, n, hv, c⟩ := R₁.owns i x hi r hc
    refine wpAny_Name (wpAny_held O hi Hx ?_) hd
    refine wpAny_mono (hie φ₁ V σ s₁ _ (S.grow g₁) R₁ hF₁ E) (fun kv s₂ h₂ => ?_) fun _ _ x => x
    obtain ⟨φ₂, k, g₂, rk, hT⟩ := h₂
    have R₂ := R₁.grow g₂
    have hv₂ := (g₂.keep _ _ hv).1
    have c₂ := c.mono g₂.sub
    have ra₂ := Rep.mono g₂.sub _ _ ra
    have st₀ := Step.of_grow R (g₁.trans g₂)
    unfold setO at hT
    split at hT
    · rename_i L
      split at hT
      · split at hT
        · rename_i z
          obtain ⟨h0, h1, hG⟩ := hT
          obtain ⟨t, rfl⟩ := rep_int rk
          obtain ⟨u, rfl⟩ := rep_int ra₂
          have hl := c₂.1.length
          simp only [Array.length_toList] at hl
          have hb := c₂.2
          refine setItem_exact hv₂ h0 (by lia) (by lia) ?_
          refine ⟨_, _, _, st₀.trans (R₂.ownUpd hc s₂.toks (Heap.SameBut.update ..) (upd_get hv₂) ?_), hG⟩
          exact ⟨by rw [Array.toList_setIfInBounds]; exact IntsAre.set _ c₂.1, by simpa using hb⟩
        · exact hT.elim
      · exact hT.elim
    · rename_i xs
      split at hT
      · obtain ⟨h0, h1, hG⟩ := hT
        obtain ⟨t, rfl⟩ := rep_int rk
        have hl := c₂.1.length
        simp only [Array.length_toList] at hl
        have hb := c₂.2
        refine setItem_exact hv₂ h0 (by lia) (by lia) ?_
        refine ⟨_, _, _, st₀.trans (R₂.ownUpd hc s₂.toks (Heap.SameBut.update ..) (upd_get hv₂) ?_), hG⟩
        exact ⟨by rw [Array.toList_setIfInBounds]; exact RepL.set ra₂ _ c₂.1, by simpa using hb⟩
      · exact hT.elim
    · exact hT.elim
  · exact hF.elim

def appO (q p : PV) (G : PV → Prop) : Prop := match q with
  | .ints L => (match p with | .int v => L.length < 1000000 ∧ G (.ints (L ++ [v])) | _ => False)
  | .list xs => xs.length < 1000000 ∧ G (.list (xs ++ [p]))
  | _ => False

def q_SS_append (F : ET) (i : Nat) : Tr := fun σ G => match sg σ i with | .own r => (F σ fun a => appO r a fun q' => G .next (sp σ i (.own q'))) | _ => False
theorem zbr (F : ET) (i : Nat) (σ : List Sl) (G : Oc → List Sl → Prop) : q_SS_append F i σ G = (match sg σ i with | .own r => (F σ fun a => appO r a fun q' => G .next (sp σ i (.own q'))) | _ => False) := rfl
theorem SS.append (O : C.Ok d) {e : Expr} {F : ET} (i : Nat) (x : Str) (he : SE C e F) (p apos cpos pos : Pos) (hi : C.ns[i]? = some x) (hd : (x == ("__debug__" : Str)) = false := by decide)
    (hline : (apos.endLine == cpos.line) = true := by rfl) (hst : ∀ env, starEach [e] env = [(false, eval e env)] := by intro _; rfl) :
    SS C (.Expr (.Call (.Attribute (.Name x p) "append" apos) [e] [] cpos) pos) (q_SS_append F i) := by
  intro φ V σ s G S R hF E
  unfold q_SS_append at hF
  split at hF
  · rename_i r hc
    obtain ⟨Hx, hφ, vs, n, hv, c⟩ := R.owns i x hi r hc
    refine wpAny_Expr ?_ (by unfold interactive; rw [O.kind]; rfl) rfl
    refine wpAny_Call_method (T := "list") (id := "list.append") rfl (by rw [hst]; rfl) hline PySem.F.plainAttrs_list PySem.F.slot_list_append type_list_append ?_
    refine wpAny_Name (wpAny_held O hi Hx ?_) hd
    refine ⟨⟨_, hv, rfl⟩, fun a e => ?_, ?_⟩
    · cases e; exact ⟨_, hv, rfl⟩
    rw [hst]
    refine callWith_builtin rfl (evalArgs_plain (x := eval e C.env) (rest := []) (spliced_cons (wpAny_mono (he φ V σ s _ S R hF E) (fun va s₁ h₁ => ?_) fun _ _ x => x)))
    obtain ⟨φ₁, a, g₁, ra, hT⟩ := h₁
    refine spliced_nil ?_
    have R₁ := R.grow g₁
    have hv₁ := (g₁.keep _ _ hv).1
    have c₁ := c.mono g₁.sub
    have st₀ := Step.of_grow R g₁
    show wpAny _ _ (call (.builtin "list.append") [.ref (V i), va]) _ _ s₁
    unfold appO at hT
    split at hT
    · rename_i L
      split at hT
      · rename_i z
        obtain ⟨t, rfl⟩ := rep_int ra
        have hl := c₁.1.length
        simp only [Array.length_toList] at hl
        refine wpAny_list_append_plain ⟨n, hv₁⟩ (fun h' hp hs => ?_) (by rw [sizeLine_eq]; have := hT.1; lia)
        obtain ⟨m, hm⟩ := hp
        exact ⟨_, _, _, st₀.trans (R₁.ownUpd (q := .ints (L ++ [z])) hc s₁.toks hs hm ⟨by rw [Array.toList_push]; exact IntsAre.append c₁.1 (.cons z t .nil), by have := hT.1; simp; lia⟩), hT.2⟩
      · exact hT.elim
    · rename_i xs
      have hl := c₁.1.length
      simp only [Array.length_toList] at hl
      refine wpAny_list_append_plain ⟨n, hv₁⟩ (fun h' hp hs => ?_) (by rw [sizeLine_eq]; have := hT.1; lia)
      obtain ⟨m, hm⟩ := hp
      exact ⟨_, _, _, st₀.trans (R₁.ownUpd (q := .list (xs ++ [a])) hc s₁.toks hs hm ⟨by rw [Array.toList_push]; exact RepL.append c₁.1 (by rw [RepL]; exact ⟨va, [], rfl, ra, by rw [RepL]⟩), by have := hT.1; simp; lia⟩), hT.2⟩
    · exact hT.elim
  · exact hF.elim

theorem vol_val {env : Env} {V : Nat → Addr} {σ : List Sl} {i : Nat} {x : PV} {v : Value} {b : Addr} (h : Vol env (newV V i (.val x) v) (sp σ i (.val x)) b) : Vol env V σ b := by
  rcases h with h | h | ⟨j, xs, hj, hb⟩
  · exact .inl h
  · exact .inr (.inl h)
  · by_cases hij : i = j
    · subst hij
      by_cases hσ : i < σ.length
      · rw [sg_sp_same _ _ _ hσ] at hj; cases hj
      · rw [sg_un _ _ (by rw [sp_length]; lia)] at hj; cases hj
    · rw [sg_sp_ne _ _ _ _ hij] at hj
      rw [newV_ne _ _ _ _ _ (Ne.symm hij)] at hb
      exact .inr (.inr ⟨j, xs, hj, hb⟩)

def forN (Fb : Tr) (i : Nat) : List PV → List Sl → (Oc → List Sl → Prop) → Prop
  | [], σ, G => G .next σ
  | x :: xs, σ, G => Fb (sp σ i (.val x)) fun o σ' => match o with | .next => forN Fb i xs σ' G | .ret r => G (.ret r) σ'

theorem Step.but {env : Env} {ns : List Str} {φ φ' : Fz} {V V' : Nat → Addr} {σ σ' : List Sl} {s s' : Shared} (T : Step env ns φ V σ s φ' V' σ' s') {wr : List Addr} {h₁ : Heap} {tk : Nat}
    (hk : ∀ b o, b ∉ wr → s'.heap.get? b = some o → h₁.get? b = some o) (h0 : ∀ b ∈ wr, s.heap.get? b = none) (hφ : ∀ b ∈ wr, φ' b = none) (hV : ∀ b ∈ wr, ¬ Vol env V' σ' b) : Step env ns φ V σ s φ' V' σ' { s' with heap := h₁, toks := tk } := by
  refine ⟨⟨?_, T.grow.sub, fun b o hb e => ?_⟩, T.rs.keepBut (X := fun b => b ∈ wr) hk hφ hV, T.vol, T.v0⟩
  · obtain ⟨h, t, e⟩ := T.grow.same
    rw [e]; exact ⟨_, _, rfl⟩
  · obtain ⟨e1, e2⟩ := T.grow.keep b o hb e
    exact ⟨hk b o (fun hm => by rw [h0 b hm] at e; cases e) e1, e2⟩

theorem for_walk (O : C.Ok d) {body : List Stmt} {Fb : Tr} (hb : SSs C body Fb) {i : Nat} {x : Str} {px : Pos} (hi : C.ns[i]? = some x) (hst : Storable C x)
    {I : Addr} {fp wr : List Addr} {n : Nat} {P : Nat → Value → Prop} {Sw : Nat → Heap → Prop} (W : Walks C.prog C.w C.A I fp wr n P Sw)
    {φ₀ φ : Fz} {V₀ V : Nat → Addr} {σ₀ σ : List Sl} {s₀ s : Shared} {G : Oc → List Sl → Prop} (S : St C φ₀) (T : Step C.env C.ns φ₀ V₀ σ₀ s₀ φ V σ s) {items : List PV} (hn : items.length = n)
    (hP : ∀ k v q, P k v → items[k]? = some q → Rep φ q v) (h0 : Sw 0 s.heap) (hw0 : ∀ b ∈ wr, s₀.heap.get? b = none) (hwφ : ∀ b ∈ wr, φ b = none) (hfV : ∀ b ∈ fp, ¬ Vol C.env V σ b) (hSe : ∀ j h, Sw j h → ∀ b ∈ fp, ∃ o, h.get? b = some o)
    (hF : forN Fb i items σ G) (E : Value → Shared → Prop) :
    codeAny (model C.prog C.w) C.A (.forLoop (.Name x px) (.ref I) body [] C.env) (fun r s' => match r with | .ok f => After C φ₀ V₀ σ₀ s₀ G f s' | .error e => cameBackBy (model C.prog C.w) C.A C.env E e s') s := by
  refine codeAny_forLoop_any
    (fun k s' => ∃ φ' V' σ' j, Step C.env C.ns φ₀ V₀ σ₀ s₀ φ' V' σ' s' ∧ (∀ b o, φ b = some o → φ' b = some o) ∧ Sw j s'.heap ∧ (∀ b ∈ wr, φ' b = none) ∧ (∀ b ∈ fp, ¬ Vol C.env V' σ' b) ∧
      forN Fb i (items.drop j) σ' G ∧ j ≤ n ∧ k = n + 1 - j) ?_ (n + 1) ⟨φ, V, σ, 0, T, fun _ _ e => e, h0, hwφ, hfV, by simpa using hF, Nat.zero_le _, rfl⟩
  rintro k s' ⟨φ', V', σ', j, T', sub', hSw, hwφ', hfV', hF', hj, rfl⟩
  by_cases hlt : j < n
  · refine W.item j _ _ _ hlt hSw fun v h₁ tk₁ hPv hSw₁ hk₁ => ?_
    have T₁ := T'.but (tk := tk₁) hk₁ hw0 hwφ' (fun b hb => hfV' b (W.sub b hb))
    have hfe₁ : ∀ b ∈ fp, ∃ o, h₁.get? b = some o := hSe _ _ hSw₁
    show wpAny _ _ (letOwnedTupleGo (.Name x px) (.ref I) v) _ _ _
    refine wpAny_pure ?_
    have hit : items[j]? = some items[j] := by simp [hn, hlt]
    have rq := Rep.mono sub' _ _ (hP j v _ hPv hit)
    refine wpAny_assign_Name (store_slot O T₁ hi hst (sl := .val items[j]) rq fun h₂ tk₂ a hs₂ ha T₂ => ?_)
    have hd : items.drop j = items[j] :: items.drop (j + 1) := by
      rw [List.drop_eq_getElem_cons (by lia)]
    rw [hd] at hF'
    have hane : ∀ b ∈ fp, b ≠ a := fun b hb e => hfV' b hb (by
      subst e
      rcases ha with e | ⟨y, hy⟩
      · exact .inl e
      · exact .inr (.inl ⟨y, hy⟩))
    have hSw₂ : Sw (j + 1) h₂ := W.frame _ _ _ hSw₁ fun b hb o e => (hs₂.2 b (hane b hb)).trans e
    refine wpAny_mono (hb φ' _ _ _ _ (S.step T₂) T₂.rs hF' _) (fun f s₃ h₃ => ?_) fun _ _ x => x
    obtain ⟨φ₃, V₃, σ₃, T₃, hf⟩ := h₃
    cases f with
    | next =>
      have keep : ∀ b ∈ fp, ∀ o, h₂.get? b = some o → s₃.heap.get? b = some o ∧ φ₃ b = φ' b := fun b hb o e => T₃.grow.keep b o (fun hv => hfV' b hb (vol_val hv)) e
      have hfe₂ : ∀ b ∈ fp, ∃ o, h₂.get? b = some o := fun b hb => by
        obtain ⟨o, ho⟩ := hfe₁ b hb
        exact ⟨o, (hs₂.2 b (hane b hb)).trans ho⟩
      refine ⟨n + 1 - (j + 1), by lia, φ₃, V₃, σ₃, j + 1, T₂.trans T₃, fun b o e => T₃.grow.sub _ _ (sub' _ _ e), ?_, ?_, ?_, hf, hlt, rfl⟩
      · exact W.frame _ _ _ hSw₂ fun b hb o e => (keep b hb o e).1
      · intro b hb
        obtain ⟨o, ho⟩ := hfe₂ b (W.sub b hb)
        exact ((keep b (W.sub b hb) o ho).2).trans (hwφ' b hb)
      · intro b hb hv
        rcases T₃.vol b hv with hv | hv
        · exact hfV' b hb (vol_val hv)
        · obtain ⟨o, ho⟩ := hfe₂ b hb
          have hv' : h₂.get? b = none := hv
          rw [ho] at hv'; cases hv'
    | ret w => exact ⟨φ₃, V₃, σ₃, T₂.trans T₃, hf⟩
    | brk => exact hf.elim
    | cont => exact hf.elim
  · have hin : j = n := by lia
    subst hin
    refine W.done _ _ _ hSw fun h₁ tk₁ hk₁ => wpAny_execs_nil ?_
    have T₁ := T'.but (tk := tk₁) hk₁ hw0 hwφ' (fun b hb => hfV' b (W.sub b hb))
    rw [← hn, List.drop_length] at hF'
    exact ⟨φ', V', σ', T₁, hF'⟩

def itemsT (p : PV) (K : List PV → Prop) : Prop := match p with
  | .ints L => K (L.map .int)
  | .list xs => K xs
  | _ => False

def q_SS_forL (F : ET) (Fb : Tr) (i : Nat) : Tr := fun σ G => F σ fun q => itemsT q fun items => forN Fb i items σ G
theorem zbs (F : ET) (Fb : Tr) (i : Nat) (σ : List Sl) (G : Oc → List Sl → Prop) : q_SS_forL F Fb i σ G = (F σ fun q => itemsT q fun items => forN Fb i items σ G) := rfl
theorem SS.forL (O : C.Ok d) {it : Expr} {body : List Stmt} {F : ET} {Fb : Tr} (i : Nat) (x : Str) (hit : SE C it F) (hb : SSs C body Fb) (p pos : Pos) (hi : C.ns[i]? = some x) (hst : Storable C x)
    (hf : ∀ env v, foldedSetIterable it env v = pure v := by intro _ _; rfl) :
    SS C (.For (.Name x p) it body [] pos) (q_SS_forL F Fb i) := by
  intro φ V σ s G S R hF E
  refine wpAny_For (wpAny_mono (hit φ V σ s _ S R hF E) (fun v s₁ h₁ => ?_) fun _ _ x => x) (hf _)
  obtain ⟨φ₁, q, g₁, rq, hI⟩ := h₁
  have T := Step.of_grow R g₁
  have R₁ := T.rs
  have core : ∀ (a : Addr) (vs : Array Value) (n : Nat) (items : List PV), φ₁ a = some (lobj vs n) → items.length = vs.size → (∀ (k : Nat) (v : Value) (q : PV), vs[k]? = some v → items[k]? = some q → Rep φ₁ q v) → forN Fb i items σ G →
      wpAny (model C.prog C.w) C.A (pyIter (.ref a)) (fun it s₂ => codeAny (model C.prog C.w) C.A (.forLoop (.Name x p) it body [] C.env) (fun r s' => match r with | .ok f => After C φ V σ s G f s' | .error e => cameBackBy (model C.prog C.w) C.A C.env E e s') s₂) E s₁ := by
    intro a vs n items ha hlen hrep hN
    have hl : s₁.heap.IsList a vs := ⟨_, g₁.here _ _ ha, rfl, n, rfl⟩
    have alt : a < s₁.heap.objs.size := Heap.lt_size (g₁.here _ _ ha)
    have hIn := size_none s₁.heap
    have hIφ : φ₁ s₁.heap.objs.size = none := by
      cases e : φ₁ s₁.heap.objs.size with
      | none => rfl
      | some o => rw [g₁.here _ _ e] at hIn; cases hIn
    refine wpAny_pyIter_list hl ?_
    have g₂ : Grow φ₁ s₁ φ₁ { s₁ with heap := s₁.heap.push { cls := .type "list_iterator", data := .fields #[.ref a, .int 0 0] } } := Grow.heap g₁.here (fun b o e => Heap.get?_push_of_some _ e) _
    refine for_walk O hb hi hst (Walks.list O.room.1 s₁.heap.objs.size a (Nat.ne_of_lt alt) vs) S (T.trans (Step.of_grow R₁ g₂)) hlen (fun k v q hk hq => hrep k v q hk hq) ⟨⟨_, Heap.get?_push_size _ rfl, rfl, rfl⟩, hl.push _⟩ ?_ ?_ ?_ ?_ hN E
    · intro b hb
      simp only [List.mem_cons, List.not_mem_nil, or_false] at hb
      subst hb
      cases e : s.heap.get? s₁.heap.objs.size with
      | none => rfl
      | some o => rw [(g₁.keep _ _ e).1] at hIn; cases hIn
    · intro b hb
      simp only [List.mem_cons, List.not_mem_nil, or_false] at hb
      subst hb
      exact hIφ
    · intro b hb hv
      simp only [List.mem_cons, List.not_mem_nil, or_false] at hb
      rcases hb with rfl | rfl
      · obtain ⟨o, ho⟩ := R₁.vol_some hv
        rw [hIn] at ho; cases ho
      · rw [R₁.vol_none hv] at ha; cases ha
    · rintro j h ⟨⟨o, ho, _⟩, ⟨o', ho', _⟩⟩ b hb
      simp only [List.mem_cons, List.not_mem_nil, or_false] at hb
      rcases hb with rfl | rfl
      · exact ⟨o, ho⟩
      · exact ⟨o', ho'⟩
  unfold itemsT at hI
  split at hI
  · rename_i L
    obtain ⟨a, vs, n, rfl, ha, hi', hl⟩ := rep_ints rq
    have hlen := hi'.length
    simp only [Array.length_toList] at hlen
    refine core a vs n _ ha (by simp [hlen]) (fun k v q hk hq => ?_) hI
    rw [List.getElem?_map] at hq
    cases e : L[k]? with
    | none => rw [e] at hq; cases hq
    | some z =>
      rw [e] at hq
      cases hq
      obtain ⟨t, et⟩ := hi'.get k z e
      rw [show vs[k]? = some (.int z t) by simpa using et] at hk
      cases hk
      rw [Rep]; exact ⟨t, rfl⟩
  · rename_i xs
    obtain ⟨a, vs, n, rfl, ha, hr, hl⟩ := rep_list rq
    have hlen := hr.length
    simp only [Array.length_toList] at hlen
    refine core a vs n _ ha (by lia) (fun k v q hk hq => ?_) hI
    obtain ⟨v', e, r⟩ := hr.get hq
    rw [show vs[k]? = some v' by simpa using e] at hk
    cases hk
    exact r
  · exact hI.elim

def rangeL (a b c : Int) : List Int := (List.range (Builtin.Range.rangeSize a b c).toNat).map fun (k : Nat) => a + (k : Int) * c

theorem for_range (O : C.Ok d) {body : List Stmt} {Fb : Tr} {i : Nat} {x : Str} (hb : SSs C body Fb) (p : Pos) (hi : C.ns[i]? = some x) (hst : Storable C x)
    {φ φ₁ : Fz} {V : Nat → Addr} {σ : List Sl} {s s₁ : Shared} {G : Oc → List Sl → Prop} (S : St C φ) (R : RS C.env C.ns φ V σ s.heap) (g₁ : Grow φ s φ₁ s₁) {r : Addr} {a b c : Int} {t u v : Tok} (hr : IsRange s₁.heap r a b c t u v)
    (hsmall : Builtin.Range.small a b c = true) (hsz : 0 ≤ Builtin.Range.rangeSize a b c) (hF : forN Fb i ((rangeL a b c).map .int) σ G) (E : Value → Shared → Prop) :
    wpAny (model C.prog C.w) C.A (pyIter (.ref r)) (fun it s₂ => codeAny (model C.prog C.w) C.A (.forLoop (.Name x p) it body [] C.env) (fun r s' => match r with | .ok f => After C φ V σ s G f s' | .error e => cameBackBy (model C.prog C.w) C.A C.env E e s') s₂) E s₁ := by
  have T := Step.of_grow R g₁
  have R₁ := T.rs
  have hIn := size_none s₁.heap
  have hIφ : φ₁ s₁.heap.objs.size = none := by
    cases e : φ₁ s₁.heap.objs.size with
    | none => rfl
    | some o => rw [g₁.here _ _ e] at hIn; cases hIn
  refine wpAny_pyIter_range hr hsmall ?_
  have g₂ : Grow φ₁ s₁ φ₁ { s₁ with heap := s₁.heap.push { cls := .type "range_iterator", data := .fields #[rawInt a, rawInt (Builtin.Range.rangeSize a b c), rawInt c] } } := Grow.heap g₁.here (fun b o e => Heap.get?_push_of_some _ e) _
  refine for_walk O hb hi hst (Walks.range O.room.1 s₁.heap.objs.size a c (Builtin.Range.rangeSize a b c).toNat) S (T.trans (Step.of_grow R₁ g₂)) (items := (rangeL a b c).map .int) (by simp [rangeL]) (fun k w q hk hq => ?_) ?_ ?_ ?_ ?_ ?_ hF E
  · obtain ⟨tk, rfl⟩ := hk
    rw [List.getElem?_map] at hq
    unfold rangeL at hq
    rw [List.getElem?_map] at hq
    cases e : (List.range (Builtin.Range.rangeSize a b c).toNat)[k]? with
    | none => rw [e] at hq; cases hq
    | some z =>
      rw [e] at hq
      cases hq
      have : z = k := by
        have := List.getElem?_eq_some_iff.mp e
        obtain ⟨_, h⟩ := this
        simpa using h.symm
      subst this
      rw [Rep]; exact ⟨tk, rfl⟩
  · have e1 : a + ((0 : Nat) : Int) * c = a := by simp
    have e2 : (((Builtin.Range.rangeSize a b c).toNat : Nat) : Int) - ((0 : Nat) : Int) = Builtin.Range.rangeSize a b c := by lia
    show IsRangeIter _ _ _ _ _
    rw [e1, e2]
    exact Heap.get?_push_size _ rfl
  · intro b hb
    simp only [List.mem_cons, List.not_mem_nil, or_false] at hb
    subst hb
    cases e : s.heap.get? s₁.heap.objs.size with
    | none => rfl
    | some o => rw [(g₁.keep _ _ e).1] at hIn; cases hIn
  · intro b hb
    simp only [List.mem_cons, List.not_mem_nil, or_false] at hb
    subst hb
    exact hIφ
  · intro b hb hv
    simp only [List.mem_cons, List.not_mem_nil, or_false] at hb
    subst hb
    obtain ⟨o, ho⟩ := R₁.vol_some hv
    rw [hIn] at ho; cases ho
  · intro j h ho b hb
    simp only [List.mem_cons, List.not_mem_nil, or_false] at hb
    subst hb
    exact ⟨_, ho⟩

def range1T (a : PV) (K : List PV → Prop) : Prop := match a with | .int n => -1000000 ≤ n ∧ n ≤ 1000000 ∧ K ((List.range n.toNat).map fun (k : Nat) => PV.int (k : Int)) | _ => False
def range2T (a b : PV) (K : List PV → Prop) : Prop := match a with | .int m => (match b with | .int n => -1000000 ≤ m ∧ m ≤ 1000000 ∧ -1000000 ≤ n ∧ n ≤ 1000000 ∧ K ((List.range (n - m).toNat).map fun (k : Nat) => PV.int (m + (k : Int))) | _ => False) | _ => False
def rangeDT (a : PV) (K : List PV → Prop) : Prop := match a with | .int n => -1 ≤ n ∧ n ≤ 1000000 ∧ K ((List.range (n + 1).toNat).map fun (k : Nat) => PV.int (n - (k : Int))) | _ => False

theorem rangeSize_one' (a b : Int) : Builtin.Range.rangeSize a b 1 = if a < b then b - a else 0 := rangeSize_one a b
theorem rangeL_one (a b : Int) : (rangeL a b 1).map PV.int = (List.range (b - a).toNat).map fun (k : Nat) => PV.int (a + (k : Int)) := by
  unfold rangeL
  rw [rangeSize_one, List.map_map]
  have : (if a < b then b - a else 0).toNat = (b - a).toNat := by split <;> lia
  rw [this]
  apply List.map_congr_left
  intro k _
  simp

def q_SS_forR1 (F : ET) (Fb : Tr) (i : Nat) : Tr := fun σ G => F σ fun a => range1T a fun items => forN Fb i items σ G
theorem zbt (F : ET) (Fb : Tr) (i : Nat) (σ : List Sl) (G : Oc → List Sl → Prop) : q_SS_forR1 F Fb i σ G = (F σ fun a => range1T a fun items => forN Fb i items σ G) := rfl
theorem SS.forR1 (O : C.Ok d) {e : Expr} {body : List Stmt} {F : ET} {Fb : Tr} (i : Nat) (x : Str) (he : SE C e F) (hb : SSs C body Fb) (p rp cpos pos : Pos) (hi : C.ns[i]? = some x) (hst : Storable C x)
    (hk : C.env.kindOf "range" = some .globalImplicit) (hm : C.mg "range" = none) (hv : C.mb "range" = some (.type "range")) (hse : ∀ env, starEach [e] env = [(false, eval e env)] := by intro _; rfl) :
    SS C (.For (.Name x p) (.Call (.Name "range" rp) [e] [] cpos) body [] pos) (q_SS_forR1 F Fb i) := by
  intro φ V σ s G S R hF E
  refine wpAny_For ?_ (fun _ => rfl)
  refine wpAny_CallName (wpAny_bname O S R.sub hk hm hv ?_ (by decide))
  refine PySem.callWith_type (by rw [hse]; rfl) ?_
  rw [hse]
  refine evalArgs_plain (x := eval e C.env) (rest := []) (spliced_cons (wpAny_mono (he φ V σ s _ S R hF E) (fun va s₁ h₁ => ?_) fun _ _ x => x))
  obtain ⟨φ₁, a, g₁, ra, hT⟩ := h₁
  refine spliced_nil ?_
  unfold range1T at hT
  split at hT
  · rename_i n
    obtain ⟨h1, h2, hK⟩ := hT
    obtain ⟨t, rfl⟩ := rep_int ra
    refine call_range_1 ?_
    have g₂ := Grow.heap g₁.here (s := s₁) (h' := s₁.heap.push { cls := .type "range", data := .fields #[.int 0 s₁.toks, .int n t, .int 1 (s₁.toks + 1)] }) (fun b o e => Heap.get?_push_of_some _ e) (s₁.toks + 1 + 1)
    refine for_range O hb p hi hst S R (g₁.trans g₂) (IsRange.new ..) (small_one (by lia) (by lia) (by lia) (by lia)) (by rw [rangeSize_one]; split <;> lia) ?_ E
    rw [rangeL_one]
    simpa using hK
  · exact hT.elim

def q_SS_forR2 (F : ET) (H : ET) (Fb : Tr) (i : Nat) : Tr := fun σ G => F σ fun a => H σ fun b => range2T a b fun items => forN Fb i items σ G
theorem zbu (F : ET) (H : ET) (Fb : Tr) (i : Nat) (σ : List Sl) (G : Oc → List Sl → Prop) : q_SS_forR2 F H Fb i σ G = (F σ fun a => H σ fun b => range2T a b fun items => forN Fb i items σ G) := rfl
theorem SS.forR2 (O : C.Ok d) {e f : Expr} {body : List Stmt} {F H : ET} {Fb : Tr} (i : Nat) (x : Str) (he : SE C e F) (hf : SE C f H) (hb : SSs C body Fb) (p rp cpos pos : Pos) (hi : C.ns[i]? = some x) (hst : Storable C x)
    (hk : C.env.kindOf "range" = some .globalImplicit) (hm : C.mg "range" = none) (hv : C.mb "range" = some (.type "range")) (hse : ∀ env, starEach [e, f] env = [(false, eval e env), (false, eval f env)] := by intro _; rfl) :
    SS C (.For (.Name x p) (.Call (.Name "range" rp) [e, f] [] cpos) body [] pos) (q_SS_forR2 F H Fb i) := by
  intro φ V σ s G S R hF E
  refine wpAny_For ?_ (fun _ => rfl)
  refine wpAny_CallName (wpAny_bname O S R.sub hk hm hv ?_ (by decide))
  refine PySem.callWith_type (by rw [hse]; rfl) ?_
  rw [hse]
  refine evalArgs_plain (x := eval e C.env) (rest := [(false, eval f C.env)]) (spliced_cons (wpAny_mono (he φ V σ s _ S R hF E) (fun va s₁ h₁ => ?_) fun _ _ x => x))
  obtain ⟨φ₁, a, g₁, ra, hF₁⟩ := h₁
  refine spliced_cons (wpAny_mono (hf φ₁ V σ s₁ _ (S.grow g₁) (R.grow g₁) hF₁ E) (fun vb s₂ h₂ => ?_) fun _ _ x => x)
  obtain ⟨φ₂, b, g₂, rb, hT⟩ := h₂
  refine spliced_nil ?_
  unfold range2T at hT
  split at hT
  · split at hT
    · rename_i m _ n
      obtain ⟨h1, h2, h3, h4, hK⟩ := hT
      obtain ⟨t, rfl⟩ := rep_int ra
      obtain ⟨u, rfl⟩ := rep_int rb
      refine call_range_2 ?_
      have g₃ := Grow.heap g₂.here (s := s₂) (h' := s₂.heap.push { cls := .type "range", data := .fields #[.int m t, .int n u, .int 1 s₂.toks] }) (fun b o e => Heap.get?_push_of_some _ e) (s₂.toks + 1)
      refine for_range O hb p hi hst S R ((g₁.trans g₂).trans g₃) (IsRange.new ..) (small_one (by lia) (by lia) (by lia) (by lia)) (by rw [rangeSize_one]; split <;> lia) ?_ E
      rw [rangeL_one]
      exact hK
    · exact hT.elim
  · exact hT.elim

theorem rangeSize_down (a : Int) : Builtin.Range.rangeSize a (-1) (-1) = if a > -1 then a + 1 else 0 := by
  unfold Builtin.Range.rangeSize
  simp only [show ¬ ((-1 : Int) > 0) by decide, if_false]
  split
  · have : (a - -1 - 1) / - -1 = a := by simp
    rw [this]
  · rfl
def q_SS_forRD (F : ET) (Fb : Tr) (i : Nat) : Tr := fun σ G => F σ fun a => rangeDT a fun items => forN Fb i items σ G
theorem zbv (F : ET) (Fb : Tr) (i : Nat) (σ : List Sl) (G : Oc → List Sl → Prop) : q_SS_forRD F Fb i σ G = (F σ fun a => rangeDT a fun items => forN Fb i items σ G) := rfl
theorem SS.forRD (O : C.Ok d) {e : Expr} {body : List Stmt} {F : ET} {Fb : Tr} (i : Nat) (x : Str) (he : SE C e F) (hb : SSs C body Fb) (k1 k2 : Nat) (p rp p1 p2 p3 p4 cpos pos : Pos) (hi : C.ns[i]? = some x) (hst : Storable C x)
    (hk : C.env.kindOf "range" = some .globalImplicit) (hm : C.mg "range" = none) (hv : C.mb "range" = some (.type "range"))
    (hse : ∀ env f g, starEach [e, .UnaryOp .USub f p1, .UnaryOp .USub g p2] env = [(false, eval e env), (false, eval (.UnaryOp .USub f p1) env), (false, eval (.UnaryOp .USub g p2) env)] := by intro _ _ _; rfl) :
    SS C (.For (.Name x p) (.Call (.Name "range" rp) [e, .UnaryOp .USub (.Constant (.int 1) k1 p3) p1, .UnaryOp .USub (.Constant (.int 1) k2 p4) p2] [] cpos) body [] pos) (q_SS_forRD F Fb i) := by
  intro φ V σ s G S R hF E
  refine wpAny_For ?_ (fun _ => rfl)
  refine wpAny_CallName (wpAny_bname O S R.sub hk hm hv ?_ (by decide))
  refine PySem.callWith_type (by rw [hse]; rfl) ?_
  rw [hse]
  refine evalArgs_plain (x := eval e C.env) (rest := [(false, eval (.UnaryOp .USub (.Constant (.int 1) k1 p3) p1) C.env), (false, eval (.UnaryOp .USub (.Constant (.int 1) k2 p4) p2) C.env)]) (spliced_cons (wpAny_mono (he φ V σ s _ S R hF E) (fun va s₁ h₁ => ?_) fun _ _ x => x))
  obtain ⟨φ₁, a, g₁, ra, hT⟩ := h₁
  refine spliced_cons (wpAny_UnaryOp (wpAny_Constant_int (PyProof.Rows.neg_int ?_)))
  refine spliced_cons (wpAny_UnaryOp (wpAny_Constant_int (PyProof.Rows.neg_int ?_)))
  refine spliced_nil ?_
  unfold rangeDT at hT
  split at hT
  · rename_i n
    obtain ⟨h1, h2, hK⟩ := hT
    obtain ⟨t, rfl⟩ := rep_int ra
    refine call_range_3 (by decide) ?_ (Or.inl (PyProof.noPylong_small (by decide)))
    have g₂ := Grow.heap g₁.here (s := s₁) (h' := s₁.heap.push { cls := .type "range", data := .fields #[.int n t, .int (-1) (s₁.toks + 1), .int (-1) (s₁.toks + 1 + 1 + 1)] }) (fun b o e => Heap.get?_push_of_some _ e) (s₁.toks + 1 + 1 + 1 + 1)
    have hsz : Builtin.Range.rangeSize n (-1) (-1) = n + 1 := by rw [rangeSize_down]; split <;> lia
    refine for_range O hb p hi hst S R (g₁.trans g₂) (IsRange.new ..) ?_ (by rw [hsz]; lia) ?_ E
    · unfold Builtin.Range.small
      rw [hsz]
      simp only [Builtin.Range.rangeFitsLong, Bool.and_eq_true, Bool.or_eq_true, decide_eq_true_eq, beq_iff_eq, show ¬ ((-1 : Int) > 0) by decide, if_false]
      lia
    · have e : (rangeL n (-1) (-1)).map PV.int = (List.range (n + 1).toNat).map fun (k : Nat) => PV.int (n - (k : Int)) := by
        unfold rangeL
        rw [hsz, List.map_map]
        apply List.map_congr_left
        intro k _
        show PV.int (n + (k : Int) * -1) = PV.int (n - (k : Int))
        congr 1; lia
      rw [e]; exact hK
  · exact hT.elim
end
end Mine

open PySem PySem.Calls PyProof.Rows
set_option Elab.async false
namespace Mine

structure It where
  i : Nat
  x : Str
  sl : Sl
  v : Value

def Apart (a b : It) : Prop := match a.sl, b.sl with
  | .own _, .own _ => a.v ≠ b.v
  | _, _ => True
theorem Apart.symm {a b : It} (h : Apart a b) : Apart b a := by
  unfold Apart at h ⊢
  split at h
  · rename_i h1 h2
    rw [h1, h2]; exact h.symm
  · rename_i h1
    split
    · rename_i h2 h3
      exact absurd h2 (by intro e; exact h1 _ _ h3 e)
    · trivial

def putAll (σ : List Sl) : List (Nat × Sl) → List Sl
  | [] => σ
  | (i, t) :: r => putAll (sp σ i t) r

section
variable {C : Cx} {d : Nat}

theorem store_all (O : C.Ok d) {φ₀ φ : Fz} {V₀ : Nat → Addr} {σ₀ : List Sl} {s₀ : Shared} {E : Value → Shared → Prop} : ∀ (its : List It) (fs : List (Value → Sem Unit)) {V : Nat → Addr} {σ : List Sl} {s : Shared} {Q : Unit → Shared → Prop},
    fs.length = its.length → (∀ (k : Nat) (it : It) (f : Value → Sem Unit), its[k]? = some it → fs[k]? = some f → ∀ (Q : Unit → Shared → Prop) (s : Shared), wpAny (model C.prog C.w) C.A (storeName C.env it.x it.v) Q E s → wpAny (model C.prog C.w) C.A (f it.v) Q E s) →
    Step C.env C.ns φ₀ V₀ σ₀ s₀ φ V σ s → (∀ it ∈ its, C.ns[it.i]? = some it.x ∧ Storable C it.x ∧ Put (fun a => Vol C.env V₀ σ₀ a ∨ s₀.heap.get? a = none) V σ φ s.heap it.i it.sl it.v) → its.Pairwise Apart →
    (∀ V' s', Step C.env C.ns φ₀ V₀ σ₀ s₀ φ V' (putAll σ (its.map fun it => (it.i, it.sl))) s' → (∀ b o, b ≠ C.env.locals → (∀ y, C.env.cells.lookup y ≠ some b) → s.heap.get? b = some o → s'.heap.get? b = some o) →
      ((∀ it ∈ its, ∃ p, it.sl = .val p) → ∀ b, Vol C.env V' (putAll σ (its.map fun it => (it.i, it.sl))) b → Vol C.env V σ b) → Q () s') →
    wpAny (model C.prog C.w) C.A (assignInOrder fs (its.map (·.v))) Q E s
  | [], fs, V, σ, s, Q, hl, hf, T, hg, hp, h => by
    have : fs = [] := List.length_eq_zero_iff.mp hl
    subst this
    exact wpAny_pure (h V s T (fun _ _ _ _ e => e) (fun _ _ hb => hb))
  | it :: its, fs, V, σ, s, Q, hl, hf, T, hg, hp, h => by
    obtain ⟨f, fr, rfl⟩ : ∃ f fr, fs = f :: fr := by
      cases fs with
      | nil => cases hl
      | cons f fr => exact ⟨f, fr, rfl⟩
    obtain ⟨h1, h2, h3⟩ := hg it (.head _)
    obtain ⟨p1, p2⟩ := List.pairwise_cons.mp hp
    show wpAny _ _ (do holding (its.map (·.v)) (f it.v); assignInOrder fr (its.map (·.v))) Q E s
    refine wpAny_bind (wpAny_holding (hf 0 it f rfl rfl _ _ (store_slot O T h1 h2 h3 fun h' tk a hs ha T' => ?_)))
    have alist : ∀ b vs n, s.heap.get? b = some (lobj vs n) → b ≠ a := by
      intro b vs n hb e
      subst e
      rcases ha with e | ⟨y, hy⟩
      · obtain ⟨o, es, ep, ho, hd⟩ := T.rs.locals_some
        rw [← e, hb] at ho
        cases ho; cases hd
      · obtain ⟨_, w, o, ho, hd⟩ := T.rs.cel y b hy
        rw [hb] at ho
        cases ho; cases hd
    refine store_all O its fr (by simpa using hl) (fun k jt g hk hg' => hf (k + 1) jt g hk hg') T' (fun jt hj => ?_) p2 fun V' s' T'' hk hv => h V' s' T'' (fun b o hL hC e => hk b o hL hC ((hs.2 b (fun e' => by
      subst e'
      rcases ha with e' | ⟨y, hy⟩
      · exact hL e'
      · exact hC y hy)).trans e)) (fun hvals b hb => ?_)
    · obtain ⟨q1, q2, q3⟩ := hg jt (.tail _ hj)
      refine ⟨q1, q2, ?_⟩
      unfold Put at q3 ⊢
      split at q3
      · exact q3.elim
      · exact q3
      · rename_i q hq
        obtain ⟨b, vs, n, hbv, hb, hn, hv, c, hX⟩ := q3
        refine ⟨b, vs, n, hbv, hb, fun j xs hj' e => ?_, (hs.2 b (alist _ _ _ hv)).trans hv, c, hX⟩
        by_cases hij : it.i = j
        · subst hij
          have hσ := sg_lt hj'
          rw [sp_length] at hσ
          rw [sg_sp_same _ _ _ hσ] at hj'
          have ap := p1 jt hj
          unfold Apart at ap
          rw [hj', hq] at ap
          dsimp only at ap
          unfold Put at h3
          rw [hj'] at h3
          obtain ⟨b', _, _, hb', _⟩ := h3
          rw [hb', hbv] at ap
          rw [hj', hb', newV_eq] at e
          exact ap (by rw [e])
        · rw [sg_sp_ne _ _ _ _ hij] at hj'
          rw [newV_ne _ _ _ _ _ (Ne.symm hij)] at e
          exact hn j xs hj' e
    · obtain ⟨p, hp'⟩ := hvals it (.head _)
      have := hv (fun jt hj => hvals jt (.tail _ hj)) b hb
      rw [hp'] at this
      exact vol_val this

abbrev RT := List Sl → (List Sl → Prop) → Prop
def RepR (φ : Fz) (h0 h : Heap) : List Sl → List Value → Prop
  | [], vs => vs = []
  | .un :: _, _ => False
  | .val p :: r, vs => ∃ v t, vs = v :: t ∧ Rep φ p v ∧ RepR φ h0 h r t
  | .own p :: r, vs => ∃ a ws n t, vs = .ref a :: t ∧ φ a = none ∧ h0.get? a = none ∧ h.get? a = some (lobj ws n) ∧ Cont φ p ws ∧ RepR φ h0 h r t
def ownCount : List Sl → Nat
  | [] => 0
  | .own _ :: r => ownCount r + 1
  | _ :: r => ownCount r

theorem RepR.grow {φ φ' : Fz} {h0 : Heap} {s s' : Shared} (g : Grow φ s φ' s') : ∀ (sls : List Sl) (vs : List Value), RepR φ h0 s.heap sls vs → RepR φ' h0 s'.heap sls vs
  | [], vs, h => h
  | .un :: _, _, h => h.elim
  | .val p :: r, vs, ⟨v, t, e, hr, ht⟩ => ⟨v, t, e, Rep.mono g.sub _ _ hr, RepR.grow g r t ht⟩
  | .own p :: r, vs, ⟨a, ws, n, t, e, ha, h0, hv, c, ht⟩ => ⟨a, ws, n, t, e, ((g.keep _ _ hv).2).trans ha, h0, (g.keep _ _ hv).1, c.mono g.sub, RepR.grow g r t ht⟩
theorem RepR.start {φ φ' φ'' : Fz} {s s1 : Shared} {h : Heap} (g : Grow φ' s φ'' s1) : ∀ (sls : List Sl) (vs : List Value), RepR φ s1.heap h sls vs → RepR φ s.heap h sls vs
  | [], vs, h => h
  | .un :: _, _, h => h.elim
  | .val p :: r, vs, ⟨v, t, e, hr, ht⟩ => ⟨v, t, e, hr, RepR.start g r t ht⟩
  | .own p :: r, vs, ⟨a, ws, n, t, e, ha, h0, hv, c, ht⟩ => ⟨a, ws, n, t, e, ha, (by
      cases e' : s.heap.get? a with
      | none => rfl
      | some o => rw [(g.keep _ _ e').1] at h0; cases h0), hv, c, RepR.start g r t ht⟩
theorem RepR.length {φ : Fz} {h0 h : Heap} : ∀ (sls : List Sl) (vs : List Value), RepR φ h0 h sls vs → vs.length = sls.length
  | [], vs, h => by rw [show vs = [] from h]; rfl
  | .un :: _, _, h => h.elim
  | .val p :: r, vs, ⟨v, t, e, hr, ht⟩ => by rw [e]; simp [RepR.length r t ht]
  | .own p :: r, vs, ⟨a, ws, n, t, e, ha, h0, hv, c, ht⟩ => by rw [e]; simp [RepR.length r t ht]

def SR (C : Cx) (es : List Expr) (F : RT) : Prop :=
  ∀ φ V σ s G, St C φ → RS C.env C.ns φ V σ s.heap → F σ G → ∀ (pos : Pos) E,
    wpAny (model C.prog C.w) C.A (spliced (backTo pos (starEach es C.env))) (fun vs s' => ∃ φ' sls, Grow φ s φ' s' ∧ RepR φ' s.heap s'.heap sls vs ∧ sls.length = es.length ∧ G sls) E s
def q_SR_nil : RT := fun _ G => G []
theorem zbw (σ : List Sl) (G : List Sl → Prop) : q_SR_nil σ G = (G []) := rfl
theorem SR.nil : SR C [] q_SR_nil := by
  intro φ V σ s G S R hF pos E
  exact wpAny_items_nil ⟨φ, [], Grow.refl R.sub, rfl, rfl, hF⟩
def q_SR_val (F : ET) (H : RT) : RT := fun σ G => F σ fun a => H σ fun as => G (.val a :: as)
theorem zbx (F : ET) (H : RT) (σ : List Sl) (G : List Sl → Prop) : q_SR_val F H σ G = (F σ fun a => H σ fun as => G (.val a :: as)) := rfl
theorem SR.val {e : Expr} {rest : List Expr} {F : ET} {H : RT} (he : SE C e F) (hr : SR C rest H) (hst : ∀ env, starEach (e :: rest) env = (false, eval e env) :: starEach rest env := by intro _; rfl) :
    SR C (e :: rest) (q_SR_val F H) := by
  intro φ V σ s G S R hF pos E
  refine wpAny_items_cons (wpAny_mono (he φ V σ s _ S R hF E) (fun v s₁ h₁ => ?_) fun _ _ x => x) (hst _)
  obtain ⟨φ₁, a, g₁, ra, hF₁⟩ := h₁
  refine wpAny_mono (hr φ₁ V σ s₁ _ (S.grow g₁) (R.grow g₁) hF₁ pos E) (fun vs s₂ h₂ => ?_) fun _ _ x => x
  obtain ⟨φ₂, sls, g₂, rr, hl, hG⟩ := h₂
  exact ⟨φ₂, .val a :: sls, g₁.trans g₂, ⟨v, vs, rfl, Rep.mono g₂.sub _ _ ra, rr.start g₁⟩, by simp [hl], hG⟩
def q_SR_own (F : ET) (H : RT) : RT := fun σ G => F σ fun a => H σ fun as => G (.own a :: as)
theorem zby (F : ET) (H : RT) (σ : List Sl) (G : List Sl → Prop) : q_SR_own F H σ G = (F σ fun a => H σ fun as => G (.own a :: as)) := rfl
theorem SR.own {e : Expr} {rest : List Expr} {F : ET} {H : RT} (he : SO C e F) (hr : SR C rest H) (hst : ∀ env, starEach (e :: rest) env = (false, eval e env) :: starEach rest env := by intro _; rfl) :
    SR C (e :: rest) (q_SR_own F H) := by
  intro φ V σ s G S R hF pos E
  refine wpAny_items_cons (wpAny_mono (he φ V σ s _ S R hF E) (fun v s₁ h₁ => ?_) fun _ _ x => x) (hst _)
  obtain ⟨φ₁, a, ws, n, p, g₁, rfl, ha, h0, hv, c, hF₁⟩ := h₁
  refine wpAny_mono (hr φ₁ V σ s₁ _ (S.grow g₁) (R.grow g₁) hF₁ pos E) (fun vs s₂ h₂ => ?_) fun _ _ x => x
  obtain ⟨φ₂, sls, g₂, rr, hl, hG⟩ := h₂
  exact ⟨φ₂, .own p :: sls, g₁.trans g₂, ⟨a, ws, n, vs, rfl, ((g₂.keep _ _ hv).2).trans ha, h0, (g₂.keep _ _ hv).1, c.mono g₂.sub, rr.start g₁⟩, by simp [hl], hG⟩

abbrev Nm := Nat × Str × Pos
def tnames (nms : List Nm) : List Expr := nms.map fun n => .Name n.2.1 n.2.2
def nmOk (C : Cx) (nms : List Nm) : Prop := ∀ n ∈ nms, C.ns[n.1]? = some n.2.1 ∧ Storable C n.2.1

theorem assignEach_tnames (env : Env) : ∀ nms : List Nm, assignEach (tnames nms) env = nms.map fun n => (false, assign (.Name n.2.1 n.2.2) env)
  | [] => rfl
  | n :: r => by
    show (false, assign (.Name n.2.1 n.2.2) env) :: assignEach (tnames r) env = _
    rw [assignEach_tnames env r]; rfl
theorem assignEach_star (env : Env) (nms : List Nm) : (assignEach (tnames nms) env).findIdx? (·.1) = none := by
  rw [assignEach_tnames, List.findIdx?_eq_none_iff]
  intro x hx
  obtain ⟨n, _, rfl⟩ := List.mem_map.mp hx
  rfl

def mkIts : List Nm → List Sl → List Value → List It
  | n :: nms, sl :: sls, v :: vs => ⟨n.1, n.2.1, sl, v⟩ :: mkIts nms sls vs
  | _, _, _ => []
def zipS : List Nm → List Sl → List (Nat × Sl)
  | n :: nms, sl :: sls => (n.1, sl) :: zipS nms sls
  | _, _ => []

theorem mkIts_v : ∀ (nms : List Nm) (sls : List Sl) (vs : List Value), nms.length = vs.length → sls.length = vs.length → (mkIts nms sls vs).map (·.v) = vs
  | [], _, [], _, _ => rfl
  | n :: nms, sl :: sls, v :: vs, h1, h2 => by
    show v :: (mkIts nms sls vs).map (·.v) = _
    rw [mkIts_v nms sls vs (by simpa using h1) (by simpa using h2)]
  | [], _, _ :: _, h, _ => by cases h
  | _ :: _, _, [], h, _ => by cases h
  | _ :: _, [], _ :: _, _, h => by cases h
theorem mkIts_s : ∀ (nms : List Nm) (sls : List Sl) (vs : List Value), nms.length = vs.length → sls.length = vs.length → (mkIts nms sls vs).map (fun it => (it.i, it.sl)) = zipS nms sls
  | [], sls, [], _, _ => by cases sls <;> rfl
  | n :: nms, sl :: sls, v :: vs, h1, h2 => by
    show (n.1, sl) :: (mkIts nms sls vs).map (fun it => (it.i, it.sl)) = (n.1, sl) :: zipS nms sls
    rw [mkIts_s nms sls vs (by simpa using h1) (by simpa using h2)]
  | [], _, _ :: _, h, _ => by cases h
  | _ :: _, _, [], h, _ => by cases h
  | _ :: _, [], _ :: _, _, h => by cases h
theorem mkIts_len : ∀ (nms : List Nm) (sls : List Sl) (vs : List Value), nms.length = vs.length → sls.length = vs.length → (mkIts nms sls vs).length = nms.length
  | [], sls, [], _, _ => by cases sls <;> rfl
  | n :: nms, sl :: sls, v :: vs, h1, h2 => by
    show (mkIts nms sls vs).length + 1 = _
    rw [mkIts_len nms sls vs (by simpa using h1) (by simpa using h2)]; rfl
  | [], _, _ :: _, h, _ => by cases h
  | _ :: _, _, [], h, _ => by cases h
  | _ :: _, [], _ :: _, _, h => by cases h
theorem mkIts_x : ∀ (nms : List Nm) (sls : List Sl) (vs : List Value) (k : Nat) (it : It), (mkIts nms sls vs)[k]? = some it → ∃ n, nms[k]? = some n ∧ it.x = n.2.1 ∧ it.i = n.1
  | [], sls, vs, k, it, h => by cases sls <;> cases vs <;> simp [mkIts] at h
  | n :: nms, sls, vs, k, it, h => by
    cases sls with
    | nil => simp [mkIts] at h
    | cons sl sls =>
      cases vs with
      | nil => simp [mkIts] at h
      | cons v vs =>
        cases k with
        | zero => simp [mkIts] at h; subst h; exact ⟨n, rfl, rfl, rfl⟩
        | succ k =>
          obtain ⟨m, hm, a, b⟩ := mkIts_x nms sls vs k it (by simpa [mkIts] using h)
          exact ⟨m, by simpa using hm, a, b⟩

def own0 : List Nm → List Sl → Prop
  | n :: nms, .own _ :: sls => n.1 ≠ 0 ∧ own0 nms sls
  | _ :: nms, _ :: sls => own0 nms sls
  | _, _ => True
theorem mkIts_good {φ : Fz} {h0 h : Heap} {X : Addr → Prop} {V : Nat → Addr} {σ : List Sl} (hfr : ∀ a, h0.get? a = none → X a ∧ ∀ j xs, sg σ j = .own xs → V j ≠ a) :
    ∀ (nms : List Nm) (sls : List Sl) (vs : List Value), own0 nms sls → RepR φ h0 h sls vs → ∀ it ∈ mkIts nms sls vs, Put X V σ φ h it.i it.sl it.v
  | [], sls, vs, _, _, it, hit => by cases sls <;> cases vs <;> simp [mkIts] at hit
  | n :: nms, [], vs, _, _, it, hit => by cases vs <;> simp [mkIts] at hit
  | n :: nms, .un :: sls, vs, _, h, it, hit => h.elim
  | n :: nms, .val p :: sls, vs, o, h, it, hit => by
    obtain ⟨v, t, rfl, hr, ht⟩ := h
    rcases List.mem_cons.mp hit with rfl | hit
    · exact hr
    · exact mkIts_good hfr nms sls t o ht it hit
  | n :: nms, .own p :: sls, vs, o, h, it, hit => by
    obtain ⟨a, ws, m, t, rfl, ha, h0, hv, c, ht⟩ := h
    rcases List.mem_cons.mp hit with rfl | hit
    · exact ⟨a, ws, m, rfl, ha, (hfr a h0).2, hv, c, (hfr a h0).1, o.1⟩
    · exact mkIts_good hfr nms sls t o.2 ht it hit

theorem mkIts_noOwn : ∀ (nms : List Nm) (sls : List Sl) (vs : List Value), ownCount sls = 0 → ∀ it ∈ mkIts nms sls vs, ∀ p, it.sl ≠ .own p
  | [], sls, vs, _, it, hit => by cases sls <;> cases vs <;> simp [mkIts] at hit
  | n :: nms, [], vs, _, it, hit => by cases vs <;> simp [mkIts] at hit
  | n :: nms, sl :: sls, [], h, it, hit => by simp [mkIts] at hit
  | n :: nms, sl :: sls, v :: vs, h, it, hit => by
    rcases List.mem_cons.mp hit with rfl | hit
    · intro p e
      dsimp only at e
      rw [e] at h; simp [ownCount] at h
    · have : ownCount sls = 0 := by cases sl <;> simp [ownCount] at h <;> exact h
      exact mkIts_noOwn nms sls vs this it hit
theorem mkIts_apart : ∀ (nms : List Nm) (sls : List Sl) (vs : List Value), ownCount sls ≤ 1 → (mkIts nms sls vs).Pairwise Apart
  | [], sls, vs, _ => by cases sls <;> cases vs <;> exact .nil
  | n :: nms, [], vs, _ => by cases vs <;> exact .nil
  | n :: nms, sl :: sls, [], h => .nil
  | n :: nms, sl :: sls, v :: vs, h => by
    refine List.pairwise_cons.mpr ⟨fun it hit => ?_, ?_⟩
    · unfold Apart
      split
      · rename_i p q h1 h2
        dsimp only at h1
        rw [h1] at h
        have : ownCount sls = 0 := by simp [ownCount] at h; lia
        exact absurd h2 (mkIts_noOwn nms sls vs this it hit q)
      · trivial
    · refine mkIts_apart nms sls vs ?_
      cases sl <;> simp [ownCount] at h <;> lia

theorem fresh_ok {env : Env} {ns : List Str} {φ : Fz} {V : Nat → Addr} {σ : List Sl} {s : Shared} (R : RS env ns φ V σ s.heap) : ∀ a, s.heap.get? a = none → (Vol env V σ a ∨ s.heap.get? a = none) ∧ ∀ j xs, sg σ j = .own xs → V j ≠ a := fun a ha =>
  ⟨.inr ha, fun j xs hj e => by
    obtain ⟨o, ho⟩ := R.vol_some (b := V j) (.inr (.inr ⟨j, xs, hj, rfl⟩))
    rw [e, ha] at ho; cases ho⟩

theorem extBut_grow {φ : Fz} {s : Shared} (hs : ∀ b o, φ b = some o → s.heap.get? b = some o) {h' : Heap} (he : Heap.ExtBut s.heap.objs.size s.heap h') : Grow φ s φ { s with heap := h' } :=
  Grow.heap hs (fun b o e => he b o (Nat.ne_of_lt (Heap.lt_size e)) e) _

def q_SS_assignT (F : RT) (nms : List Nm) : Tr := fun σ G => F σ fun sls => ownCount sls ≤ 1 ∧ own0 nms sls ∧ G .next (putAll σ (zipS nms sls))
theorem zbz (F : RT) (nms : List Nm) (σ : List Sl) (G : Oc → List Sl → Prop) : q_SS_assignT F nms σ G = (F σ fun sls => ownCount sls ≤ 1 ∧ own0 nms sls ∧ G .next (putAll σ (zipS nms sls))) := rfl
theorem SS.assignT (O : C.Ok d) {es : List Expr} {F : RT} (nms : List Nm) {ts : List Expr} (h : SR C es F) (k1 k2 : Nat) (tp vp pos : Pos) (hn : nmOk C nms) (hts : ts = tnames nms := by rfl) (hlen : es.length = nms.length := by rfl) (hle : es.length ≤ 1000 := by decide)
    (hsw : swapsWithSole [.Tuple ts k1 tp] (.Tuple es k2 vp) pos.line C.env = pure false := by rfl) (hw : swappedStores [.Tuple ts k1 tp] (.Tuple es k2 vp) C.env = pure none := by rfl) :
    SS C (.Assign [.Tuple ts k1 tp] (.Tuple es k2 vp) pos) (q_SS_assignT F nms) := by
  subst hts
  intro φ V σ s G S R hF E
  refine PyProof.Rows.Assign_Tuple ?_ hsw hw
  refine wpAny_Tuple_spliced (wpAny_mono (h φ V σ s _ S R hF vp E) (fun vs s₁ h₁ => ?_) fun _ _ x => x)
  obtain ⟨φ₁, sls, g₁, rr, hl, h1, ho0, hG⟩ := h₁
  have hvl := rr.length
  refine ⟨by rw [sizeLine_eq]; lia, ?_⟩
  have g₂ : Grow φ₁ s₁ φ₁ { s₁ with heap := s₁.heap.push { cls := .type "tuple", data := .seq vs.toArray } } := Grow.heap g₁.here (fun b o e => Heap.get?_push_of_some _ e) _
  refine wpAny_assign_Tuple O.room.1 (items := vs.toArray) ⟨_, Heap.get?_push_size _ rfl, rfl, 0, rfl⟩ (by rw [assignEach_tnames]; simp; lia) (assignEach_star _ _) fun h' he => ?_
  have g₃ := g₁.trans (g₂.trans (extBut_grow g₂.here he))
  have rr₃ := (rr.grow g₂).grow (extBut_grow g₂.here he)
  have T := Step.of_grow R g₃
  rw [show vs.toArray.toList = (mkIts nms sls vs).map (·.v) from (mkIts_v nms sls vs (by lia) (by lia)).symm]
  refine store_all O (mkIts nms sls vs) _ ?_ ?_ T ?_ (mkIts_apart nms sls vs h1) fun V' s' T' _ _ => ?_
  · rw [assignEach_tnames, mkIts_len nms sls vs (by lia) (by lia)]; simp
  · intro k it f hk hf Q s hq
    obtain ⟨n, hn', e1, e2⟩ := mkIts_x nms sls vs k it hk
    rw [assignEach_tnames] at hf
    simp only [List.map_map, List.getElem?_map, hn', Option.map_some, Option.some.injEq] at hf
    subst hf
    rw [e1] at hq
    exact wpAny_assign_Name hq
  · intro it hit
    obtain ⟨k, hk⟩ := List.getElem?_of_mem hit
    obtain ⟨n, hn', e1, e2⟩ := mkIts_x nms sls vs k it hk
    have := hn n (List.mem_of_getElem? hn')
    exact ⟨by rw [e1, e2]; exact this.1, by rw [e1]; exact this.2, mkIts_good (fresh_ok R) nms sls vs ho0 rr₃ it hit⟩
  · rw [mkIts_s nms sls vs (by lia) (by lia)] at T'
    exact ⟨_, _, _, T', hG⟩

def q_SS_assignTS (F : RT) (nms : List Nm) : Tr := fun σ G => F σ fun sls => ownCount sls ≤ 1 ∧ own0 nms sls ∧ G .next (putAll σ (zipS nms sls).reverse)
theorem zca (F : RT) (nms : List Nm) (σ : List Sl) (G : Oc → List Sl → Prop) : q_SS_assignTS F nms σ G = (F σ fun sls => ownCount sls ≤ 1 ∧ own0 nms sls ∧ G .next (putAll σ (zipS nms sls).reverse)) := rfl
theorem SS.assignTS (O : C.Ok d) {es : List Expr} {F : RT} (nms : List Nm) {ts : List Expr} (h : SR C es F) (k1 k2 : Nat) (tp vp pos : Pos) (hn : nmOk C nms) (hlen : es.length = nms.length := by rfl) (hle : es.length ≤ 1000 := by decide)
    (hsw : swapsWithSole [.Tuple ts k1 tp] (.Tuple es k2 vp) pos.line C.env = pure false := by rfl) (hw : swappedStores [.Tuple ts k1 tp] (.Tuple es k2 vp) C.env = pure (some (nms.map (·.2.1))) := by rfl) :
    SS C (.Assign [.Tuple ts k1 tp] (.Tuple es k2 vp) pos) (q_SS_assignTS F nms) := by
  intro φ V σ s G S R hF E
  refine PyProof.Rows.Assign_Tuple_swapped ?_ hsw hw
  refine wpAny_Tuple_spliced (wpAny_mono (h φ V σ s _ S R hF vp E) (fun vs s₁ h₁ => ?_) fun _ _ x => x)
  obtain ⟨φ₁, sls, g₁, rr, hl, h1, ho0, hG⟩ := h₁
  have hvl := rr.length
  refine ⟨by rw [sizeLine_eq]; lia, ?_⟩
  have g₂ : Grow φ₁ s₁ φ₁ { s₁ with heap := s₁.heap.push { cls := .type "tuple", data := .seq vs.toArray } } := Grow.heap g₁.here (fun b o e => Heap.get?_push_of_some _ e) _
  have hsz : (nms.map (·.2.1)).length = vs.toArray.size := by simp; lia
  rw [hsz]
  refine wpAny_unpackItems_tuple O.room.1 (items := vs.toArray) ⟨_, Heap.get?_push_size _ rfl, rfl, 0, rfl⟩ fun h' he => ?_
  have g₃ := g₁.trans (g₂.trans (extBut_grow g₂.here he))
  have rr₃ := (rr.grow g₂).grow (extBut_grow g₂.here he)
  have T := Step.of_grow R g₃
  rw [show vs.toArray.toList.reverse = (mkIts nms sls vs).reverse.map (·.v) by rw [List.map_reverse, mkIts_v nms sls vs (by lia) (by lia)]]
  refine store_all O (mkIts nms sls vs).reverse _ ?_ ?_ T ?_ ?_ fun V' s' T' _ _ => ?_
  · rw [List.length_reverse, mkIts_len nms sls vs (by lia) (by lia)]; simp
  · intro k it f hk hf Q s hq
    have hk2 : k < (mkIts nms sls vs).length := by
      have := (List.getElem?_eq_some_iff.mp hk).1
      simpa using this
    rw [List.getElem?_reverse hk2] at hk
    obtain ⟨n, hn', e1, e2⟩ := mkIts_x nms sls vs _ it hk
    rw [mkIts_len nms sls vs (by lia) (by lia)] at hn' hk2
    rw [← List.map_reverse, List.map_map, List.getElem?_map, List.getElem?_reverse hk2, hn'] at hf
    simp only [Option.map_some, Option.some.injEq] at hf
    subst hf
    rw [e1] at hq
    exact wpAny_bindName hq
  · intro it hit
    rw [List.mem_reverse] at hit
    obtain ⟨k, hk⟩ := List.getElem?_of_mem hit
    obtain ⟨n, hn', e1, e2⟩ := mkIts_x nms sls vs k it hk
    have := hn n (List.mem_of_getElem? hn')
    exact ⟨by rw [e1, e2]; exact this.1, by rw [e1]; exact this.2, mkIts_good (fresh_ok R) nms sls vs ho0 rr₃ it hit⟩
  · rw [List.pairwise_reverse]
    exact (mkIts_apart nms sls vs h1).imp Apart.symm
  · rw [List.map_reverse, mkIts_s nms sls vs (by lia) (by lia)] at T'
    exact ⟨_, _, _, T', hG⟩

theorem repR_vals {φ : Fz} {h0 h : Heap} : ∀ (xs : List PV) (vs : List Value), RepL φ xs vs → RepR φ h0 h (xs.map .val) vs
  | [], vs, r => by rw [RepL] at r; exact r
  | x :: xs, vs, r => by
    rw [RepL] at r
    obtain ⟨v, t, e, hv, ht⟩ := r
    exact ⟨v, t, e, hv, repR_vals xs t ht⟩
theorem ownCount_vals : ∀ xs : List PV, ownCount (xs.map .val) = 0
  | [] => rfl
  | x :: xs => ownCount_vals xs

theorem own0_vals : ∀ (nms : List Nm) (xs : List PV), own0 nms (xs.map .val)
  | [], _ => trivial
  | _ :: _, [] => trivial
  | _ :: nms, _ :: xs => own0_vals nms xs

def q_SS_assignU (F : ET) (nms : List Nm) : Tr := fun σ G => F σ fun q => match q with | .tup xs => xs.length = nms.length ∧ G .next (putAll σ (zipS nms (xs.map .val))) | _ => False
theorem zcb (F : ET) (nms : List Nm) (σ : List Sl) (G : Oc → List Sl → Prop) : q_SS_assignU F nms σ G = (F σ fun q => match q with | .tup xs => xs.length = nms.length ∧ G .next (putAll σ (zipS nms (xs.map .val))) | _ => False) := rfl
theorem SS.assignU (O : C.Ok d) {e : Expr} {F : ET} (nms : List Nm) {ts : List Expr} (h : SE C e F) (k1 : Nat) (tp pos : Pos) (hn : nmOk C nms) (hts : ts = tnames nms := by rfl)
    (hsw : swapsWithSole [.Tuple ts k1 tp] e pos.line C.env = pure false := by rfl) (hw : swappedStores [.Tuple ts k1 tp] e C.env = pure none := by rfl) :
    SS C (.Assign [.Tuple ts k1 tp] e pos) (q_SS_assignU F nms) := by
  subst hts
  intro φ V σ s G S R hF E
  refine PyProof.Rows.Assign_Tuple (wpAny_mono (h φ V σ s _ S R hF E) (fun v s₁ h₁ => ?_) fun _ _ x => x) hsw hw
  obtain ⟨φ₁, q, g₁, rq, hq⟩ := h₁
  split at hq
  · rename_i xs
    obtain ⟨hl, hG⟩ := hq
    obtain ⟨a, vs, n, rfl, ha, hr, _⟩ := rep_tup rq
    have hvl := hr.length
    simp only [Array.length_toList] at hvl
    refine wpAny_assign_Tuple O.room.1 (items := vs) ⟨_, g₁.here _ _ ha, rfl, n, rfl⟩ (by rw [assignEach_tnames]; simp; lia) (assignEach_star _ _) fun h' he => ?_
    have g₃ := g₁.trans (extBut_grow g₁.here he)
    have rr₃ : RepR φ₁ s.heap h' (xs.map .val) vs.toList := repR_vals xs _ hr
    have T := Step.of_grow R g₃
    have l1 : nms.length = vs.toList.length := by simp; lia
    have l2 : (xs.map Sl.val).length = vs.toList.length := by simp; lia
    rw [show vs.toList = (mkIts nms (xs.map .val) vs.toList).map (·.v) from (mkIts_v nms _ _ l1 l2).symm]
    refine store_all O (mkIts nms (xs.map .val) vs.toList) _ ?_ ?_ T ?_ (mkIts_apart nms _ _ (by rw [ownCount_vals]; lia)) fun V' s' T' _ _ => ?_
    · rw [assignEach_tnames, mkIts_len nms _ _ l1 l2]; simp
    · intro k it f hk hf Q s hq
      obtain ⟨n, hn', e1, e2⟩ := mkIts_x nms _ _ k it hk
      rw [assignEach_tnames] at hf
      simp only [List.map_map, List.getElem?_map, hn', Option.map_some, Option.some.injEq] at hf
      subst hf
      rw [e1] at hq
      exact wpAny_assign_Name hq
    · intro it hit
      obtain ⟨k, hk⟩ := List.getElem?_of_mem hit
      obtain ⟨n, hn', e1, e2⟩ := mkIts_x nms _ _ k it hk
      have := hn n (List.mem_of_getElem? hn')
      exact ⟨by rw [e1, e2]; exact this.1, by rw [e1]; exact this.2, mkIts_good (fresh_ok R) nms _ _ (own0_vals nms xs) rr₃ it hit⟩
    · rw [mkIts_s nms _ _ l1 l2] at T'
      exact ⟨_, _, _, T', hG⟩
  · exact hq.elim
end
end Mine

open PySem PySem.Calls PyProof.Rows
set_option Elab.async false
namespace Mine

theorem rep_int_mk (φ : Fz) (i : Int) (t : Tok) : Rep φ (.int i) (.int i t) := by rw [Rep]; exact ⟨t, rfl⟩

section
variable {C : Cx} {d : Nat}

def whN (Ft : BT) (Fb : Tr) : Nat → List Sl → (Oc → List Sl → Prop) → Prop
  | 0, _, _ => False
  | n + 1, σ, G => Ft σ fun c => then' c (Fb σ fun o σ' => match o with | .next => whN Ft Fb n σ' G | .ret r => G (.ret r) σ') (G .next σ)

def q_SS_while (Ft : BT) (Fb : Tr) : Tr := fun σ G => ∃ n, whN Ft Fb n σ G
theorem zcc (Ft : BT) (Fb : Tr) (σ : List Sl) (G : Oc → List Sl → Prop) : q_SS_while Ft Fb σ G = (∃ n, whN Ft Fb n σ G) := rfl
theorem SS.while (O : C.Ok d) {t : Expr} {body : List Stmt} {Ft : BT} {Fb : Tr} (ht : STr C t Ft) (hb : SSs C body Fb) (pos : Pos) :
    SS C (.While t body [] pos) (q_SS_while Ft Fb) := by
  intro φ V σ s G S R hF E
  obtain ⟨n, hn⟩ := hF
  refine wpAny_While ?_
  refine codeAny_whileLoop (fun k s' => ∃ φ' V' σ', Step C.env C.ns φ V σ s φ' V' σ' s' ∧ whN Ft Fb k σ' G) ?_ n ⟨φ, V, σ, .refl R, hn⟩
  rintro k s' ⟨φ', V', σ', T, hw⟩
  cases k with
  | zero => exact hw.elim
  | succ k =>
    refine wpAny_mono (ht φ' V' σ' s' _ (S.step T) T.rs hw _) (fun c s₂ h₂ => ?_) fun _ _ x => x
    obtain ⟨φ₂, g₂, t₂⟩ := h₂
    have T₂ := T.trans (Step.of_grow T.rs g₂)
    cases c with
    | true =>
      simp only [if_true]
      refine wpAny_mono (hb φ₂ V' σ' s₂ _ (S.step T₂) T₂.rs (t₂.1 rfl) _) (fun f s₃ h₃ => ?_) fun _ _ x => x
      obtain ⟨φ₃, V₃, σ₃, T₃, hf⟩ := h₃
      cases f with
      | next => exact ⟨k, Nat.lt_succ_self _, φ₃, V₃, σ₃, T₂.trans T₃, hf⟩
      | ret v => exact ⟨φ₃, V₃, σ₃, T₂.trans T₃, hf⟩
      | brk => exact hf.elim
      | cont => exact hf.elim
    | false =>
      simp only [Bool.false_eq_true, if_false]
      exact wpAny_execs_nil ⟨φ₂, V', σ', T₂, t₂.2 rfl⟩

def enN (Fb : Tr) (i j : Nat) : Nat → List Int → List Sl → (Oc → List Sl → Prop) → Prop
  | _, [], σ, G => G .next σ
  | k, z :: zs, σ, G => Fb (sp (sp σ i (.val (.int (k : Int)))) j (.val (.int z))) fun o σ' => match o with | .next => enN Fb i j (k + 1) zs σ' G | .ret r => G (.ret r) σ'

def enumT (p : PV) (K : List Int → Prop) : Prop := match p with | .ints L => K L | _ => False
def q_SS_forE (F : ET) (Fb : Tr) (nm1 : Nm) (nm2 : Nm) : Tr := fun σ G => F σ fun a => enumT a fun L => enN Fb nm1.1 nm2.1 0 L σ G
theorem zcd (F : ET) (Fb : Tr) (nm1 : Nm) (nm2 : Nm) (σ : List Sl) (G : Oc → List Sl → Prop) : q_SS_forE F Fb nm1 nm2 σ G = (F σ fun a => enumT a fun L => enN Fb nm1.1 nm2.1 0 L σ G) := rfl
theorem SS.forE (O : C.Ok d) {e : Expr} {body : List Stmt} {F : ET} {Fb : Tr} (nm1 nm2 : Nm) {ts : List Expr} (he : SE C e F) (hb : SSs C body Fb) (k1 : Nat) (tp rp cpos pos : Pos) (hn : nmOk C [nm1, nm2]) (hts : ts = tnames [nm1, nm2] := by rfl)
    (hk : C.env.kindOf "enumerate" = some .globalImplicit) (hm : C.mg "enumerate" = none) (hv : C.mb "enumerate" = some (.type "enumerate")) (hse : ∀ env, starEach [e] env = [(false, eval e env)] := by intro _; rfl) :
    SS C (.For (.Tuple ts k1 tp) (.Call (.Name "enumerate" rp) [e] [] cpos) body [] pos) (q_SS_forE F Fb nm1 nm2) := by
  subst hts
  intro φ V σ s G S R hF E
  refine wpAny_For ?_ (fun _ => rfl)
  refine wpAny_CallName (wpAny_bname O S R.sub hk hm hv ?_ (by decide))
  refine PySem.callWith_type (by rw [hse]; rfl) ?_
  rw [hse]
  refine evalArgs_plain (x := eval e C.env) (rest := []) (spliced_cons (wpAny_mono (he φ V σ s _ S R hF E) (fun va s₁ h₁ => ?_) fun _ _ x => x))
  obtain ⟨φ₁, a, g₁, ra, hT⟩ := h₁
  refine spliced_nil ?_
  unfold enumT at hT
  split at hT
  · rename_i L
    obtain ⟨l, vs, n, rfl, ha, hi, hlen⟩ := rep_ints ra
    have e1 := hi.length
    simp only [Array.length_toList] at e1
    have hl : s₁.heap.IsList l vs := ⟨_, g₁.here _ _ ha, rfl, n, rfl⟩
    have llt : l < s₁.heap.objs.size := Heap.lt_size (g₁.here _ _ ha)
    refine call_enumerate_list hl fun h' he' hit' hsz hk' => ?_
    generalize hz : s₁.heap.objs.size = z at *
    refine wpAny_pyIter_enum (s := { s₁ with heap := h' }) he' ?_
    have g₂ : Grow φ₁ s₁ φ₁ { s₁ with heap := h' } := Grow.heap g₁.here hk' _
    have T₀ : Step C.env C.ns φ V σ s φ₁ V σ { s₁ with heap := h' } := Step.of_grow R (g₁.trans g₂)
    have R₂ := T₀.rs
    have W := WalksT.enumerate (prog := C.prog) (w := C.w) O.room.1 (z + 1) z l (Nat.succ_ne_self z) (Nat.ne_of_lt (Nat.lt_succ_of_lt llt)) (Nat.ne_of_lt llt) vs
    have none₁ : ∀ b, z ≤ b → s₁.heap.get? b = none := fun b hb => by
      cases e : s₁.heap.get? b with
      | none => rfl
      | some o => exact absurd (Heap.lt_size e) (by rw [hz]; exact Nat.not_lt.mpr hb)
    have noneφ : ∀ b, z ≤ b → φ₁ b = none := fun b hb => by
      cases e : φ₁ b with
      | none => rfl
      | some o => have := g₁.here _ _ e; rw [none₁ b hb] at this; cases this
    have none₀ : ∀ b, z ≤ b → s.heap.get? b = none := fun b hb => by
      cases e : s.heap.get? b with
      | none => rfl
      | some o => have := (g₁.keep _ _ e).1; rw [none₁ b hb] at this; cases this
    have wr_ge : ∀ b ∈ [z + 1, z], z ≤ b := fun b hb => by
      simp only [List.mem_cons, List.not_mem_nil, or_false] at hb
      rcases hb with rfl | rfl
      · exact Nat.le_succ _
      · exact Nat.le_refl _
    have Swe : ∀ (j : Nat) (h : Heap), ((∃ old, IsEnum h (z + 1) z (j : Int) old) ∧ h.IsListIter z l j ∧ h.IsList l vs) → ∀ b ∈ [z + 1, z, l], ∃ o, h.get? b = some o := by
      rintro j h ⟨⟨old, h1⟩, ⟨o2, h2, _⟩, ⟨o3, h3, _⟩⟩ b hb
      simp only [List.mem_cons, List.not_mem_nil, or_false] at hb
      rcases hb with rfl | rfl | rfl
      · exact ⟨_, h1⟩
      · exact ⟨_, h2⟩
      · exact ⟨_, h3⟩
    have Vfp : ∀ b ∈ [z + 1, z, l], ¬ Vol C.env V σ b := fun b hb hv => by
      have Rs : RS C.env C.ns φ₁ V σ s₁.heap := (Step.of_grow R g₁).rs
      simp only [List.mem_cons, List.not_mem_nil, or_false] at hb
      rcases hb with rfl | rfl | rfl
      · obtain ⟨o, ho⟩ := Rs.vol_some hv
        rw [none₁ _ (Nat.le_succ _)] at ho; cases ho
      · obtain ⟨o, ho⟩ := Rs.vol_some hv
        rw [none₁ _ (Nat.le_refl _)] at ho; cases ho
      · rw [Rs.vol_none hv] at ha; cases ha
    have key := codeAny_forLoop_any (prog := C.prog) (w := C.w) (A := C.A) (env := C.env) (R := fun r s' => match r with | .ok f => After C φ V σ s G f s' | .error e => cameBackBy (model C.prog C.w) C.A C.env E e s')
      (target := .Tuple (tnames [nm1, nm2]) k1 tp) (it := .ref (z + 1)) (body := body) (orelse := []) (s := { s₁ with heap := h' })
      (fun k s' => ∃ (φ' : Fz) (V' : Nat → Addr) (σ' : List Sl) (j : Nat), Step C.env C.ns φ V σ s φ' V' σ' s' ∧ ((∃ old, IsEnum s'.heap (z + 1) z (j : Int) old) ∧ s'.heap.IsListIter z l j ∧ s'.heap.IsList l vs) ∧ (∀ b ∈ [z + 1, z], φ' b = none) ∧ (∀ b ∈ [z + 1, z, l], ¬ Vol C.env V' σ' b) ∧
        enN Fb nm1.1 nm2.1 j (L.drop j) σ' G ∧ j ≤ vs.size ∧ k = vs.size + 1 - j)
    refine key ?_ (vs.size + 1) ⟨φ₁, V, σ, 0, T₀, ⟨⟨_, he'⟩, hit', hl.at fun o e => hk' _ _ e⟩, fun b hb => noneφ b (wr_ge b hb), Vfp, by simpa using hT, Nat.zero_le _, rfl⟩
    rintro k s' ⟨φ', V', σ', j, T', hSw, hwφ', hfV', hF', hj, rfl⟩
    have hw0 : ∀ b ∈ [z + 1, z], s.heap.get? b = none := fun b hb => none₀ b (wr_ge b hb)
    have hwV : ∀ b ∈ [z + 1, z], ¬ Vol C.env V' σ' b := fun b hb => hfV' b (W.sub b hb)
    by_cases hlt : j < vs.size
    · refine W.item j _ _ _ hlt hSw fun T vals h₁ tk₁ hP hTs hTup hMid hk₁ => ?_
      have T₁ := T'.but (tk := tk₁) hk₁ hw0 hwφ' hwV
      refine W.go _ _ _ j T _ _ _ hMid fun h₂ hSw₂ hk₂ => ?_
      have T₂ := T₁.but (tk := tk₁) hk₂ hw0 hwφ' hwV
      have hTup₂ : h₂.IsTuple T vals := hTup.at fun o e => hk₂ T o (W.apart j T h₁ hMid) e
      obtain ⟨t, x, hx, rfl⟩ := hP
      obtain ⟨u, rfl⟩ : ∃ u, x = .int (L.getD j 0) u := hi.int_at j x (by simpa using hx)
      refine wpAny_assign_Tuple (s := { s' with heap := h₂, toks := tk₁ }) O.room.1 hTup₂ rfl rfl fun h₃ he₃ => ?_
      have g₃ := extBut_grow (s := { s' with heap := h₂, toks := tk₁ }) T₂.rs.sub he₃
      have T₃ := T₂.trans (Step.of_grow T₂.rs g₃)
      have hSw₃ := W.frame _ _ _ hSw₂ fun b hb o e => (g₃.keep b o e).1
      refine store_all O [⟨nm1.1, nm1.2.1, .val (.int (j : Int)), .int (j : Int) t⟩, ⟨nm2.1, nm2.2.1, .val (.int (L.getD j 0)), .int (L.getD j 0) u⟩] _ rfl ?_ T₃ ?_ ?_ fun V₄ s₄ T₄ hk₄ hv₄ => ?_
      · intro k it f hk hf Q s hq
        match k, hk, hf with
        | 0, hk, hf => cases hk; cases hf; exact wpAny_assign_Name hq
        | 1, hk, hf => cases hk; cases hf; exact wpAny_assign_Name hq
        | k + 2, hk, hf => simp at hk
      · intro it hit
        simp only [List.mem_cons, List.not_mem_nil, or_false] at hit
        rcases hit with rfl | rfl
        · exact ⟨(hn nm1 (by simp)).1, (hn nm1 (by simp)).2, rep_int_mk φ' (j : Int) t⟩
        · exact ⟨(hn nm2 (by simp)).1, (hn nm2 (by simp)).2, rep_int_mk φ' (L.getD j 0) u⟩
      · exact List.pairwise_cons.mpr ⟨fun _ _ => trivial, List.pairwise_cons.mpr ⟨(fun _ h => nomatch h), List.Pairwise.nil⟩⟩
      have hd : L.drop j = L.getD j 0 :: L.drop (j + 1) := by
        rw [List.drop_eq_getElem_cons (by lia)]
        simp [show j < L.length by lia]
      rw [hd] at hF'
      have hvv : ∀ b, Vol C.env V₄ (sp (sp σ' nm1.1 (.val (.int (j : Int)))) nm2.1 (.val (.int (L.getD j 0)))) b → Vol C.env V' σ' b := hv₄ (fun it hit => by
        simp only [List.mem_cons, List.not_mem_nil, or_false] at hit
        rcases hit with rfl | rfl
        · exact ⟨_, rfl⟩
        · exact ⟨_, rfl⟩)
      have fpc : ∀ b ∈ [z + 1, z, l], b ≠ C.env.locals ∧ ∀ y, C.env.cells.lookup y ≠ some b := fun b hb => ⟨fun e => hfV' b hb (.inl e), fun y e => hfV' b hb (.inr (.inl ⟨y, e⟩))⟩
      have hSw₄ := W.frame _ _ s₄.heap hSw₃ fun b hb o e => hk₄ b o (fpc b hb).1 (fpc b hb).2 e
      refine wpAny_mono (hb φ' V₄ _ s₄ _ (S.step T₄) T₄.rs hF' _) (fun f s₅ h₅ => ?_) fun _ _ x => x
      obtain ⟨φ₅, V₅, σ₅, T₅, hf⟩ := h₅
      cases f with
      | next =>
        have keep : ∀ b ∈ [z + 1, z, l], ∀ o, s₄.heap.get? b = some o → s₅.heap.get? b = some o ∧ φ₅ b = φ' b := fun b hb o e => T₅.grow.keep b o (fun hv => hfV' b hb (hvv b hv)) e
        refine ⟨vs.size + 1 - (j + 1), by lia, φ₅, V₅, σ₅, j + 1, T₄.trans T₅, ?_, ?_, ?_, hf, hlt, rfl⟩
        · exact W.frame _ _ _ hSw₄ fun b hb o e => (keep b hb o e).1
        · intro b hb
          obtain ⟨o, ho⟩ := Swe _ _ hSw₄ b (W.sub b hb)
          exact ((keep b (W.sub b hb) o ho).2).trans (hwφ' b hb)
        · intro b hb hv
          rcases T₅.vol b hv with hv | hv
          · exact hfV' b hb (hvv b hv)
          · obtain ⟨o, ho⟩ := Swe _ _ hSw₄ b hb
            rw [ho] at hv; cases hv
      | ret w => exact ⟨φ₅, V₅, σ₅, T₄.trans T₅, hf⟩
      | brk => exact hf.elim
      | cont => exact hf.elim
    · have hin : j = vs.size := by lia
      subst hin
      refine W.done _ _ _ hSw fun h₁ tk₁ hk₁ => wpAny_execs_nil ?_
      have T₁ := T'.but (tk := tk₁) hk₁ hw0 hwφ' hwV
      rw [e1, List.drop_length] at hF'
      exact ⟨φ', V', σ', T₁, hF'⟩
  · exact hT.elim

abbrev PM := PV → List PV → (PV → PV → Prop) → Prop
def FnOkM (prog : Program) (w : World) (h0 : Heap) (d : Nat) (a : Addr) (P : PM) : Prop :=
  (∃ o fd, h0.get? a = some o ∧ o.data = .func fd) ∧
  ∀ (A : Around) (φ : Fz) (s : Shared) (l : Addr) (ws : Array Value) (n : Nat) (p : PV) (vs : List Value) (xs : List PV) (G : PV → PV → Prop), Room d A → (∀ b o, h0.get? b = some o → φ b = some o) → (∀ b o, φ b = some o → s.heap.get? b = some o) →
    φ l = none → s.heap.get? l = some (lobj ws n) → Cont φ p ws → RepL φ xs vs → P p xs G →
    ∀ E, wpAny (model prog w) A (call (.ref a) (.ref l :: vs)) (fun v s' => ∃ φ' r q us m, GrowX (· = l) φ s φ' s' ∧ (∀ b o, φ' b = some o → s'.heap.get? b = some o) ∧ φ' l = none ∧ s'.heap.get? l = some (lobj us m) ∧ Cont φ' q us ∧ Rep φ' r v ∧ G r q) E s
theorem FnOkM.mono {prog : Program} {w : World} {h0 : Heap} {d d' : Nat} {a : Addr} {P : PM} (h : FnOkM prog w h0 d a P) (hd : d ≤ d') : FnOkM prog w h0 d' a P :=
  ⟨h.1, fun A φ s l ws n p vs xs G r => h.2 A φ s l ws n p vs xs G ⟨r.1, by have := r.2.1; lia, by have := r.2.2; lia⟩⟩

abbrev MT := List Sl → (PV → List Sl → Prop) → Prop
def SM (C : Cx) (e : Expr) (F : MT) : Prop :=
  ∀ φ V σ s G, St C φ → RS C.env C.ns φ V σ s.heap → F σ G → ∀ E,
    wpAny (model C.prog C.w) C.A (eval e C.env) (fun v s' => ∃ φ' V' σ' x, Step C.env C.ns φ V σ s φ' V' σ' s' ∧ Rep φ' x v ∧ G x σ') E s

theorem RS.growBut {env : Env} {ns : List Str} {φ φ' : Fz} {V : Nat → Addr} {σ : List Sl} {s s' : Shared} (R : RS env ns φ V σ s.heap) {i : Nat} {p q : PV} (hp : sg σ i = .own p) {us : Array Value} {m : Nat}
    (g : GrowX (· = V i) φ s φ' s') (hh : ∀ b o, φ' b = some o → s'.heap.get? b = some o) (hn : φ' (V i) = none) (hv : s'.heap.get? (V i) = some (lobj us m)) (c : Cont φ' q us) : Step env ns φ V σ s φ' V (sp σ i (.own q)) s' := by
  have hσ := sg_lt hp
  have hlt : i < ns.length := by rw [← R.len]; exact hσ
  have vi : Vol env V σ (V i) := .inr (.inr ⟨i, p, hp, rfl⟩)
  obtain ⟨_, _, vs, n, hold, _⟩ := R.owns i ns[i] (by simp [hlt]) p hp
  have hL : env.locals ≠ V i := fun e => by
    obtain ⟨o, es, ep, ho, hd⟩ := R.locals_some
    rw [e, hold] at ho; cases ho; cases hd
  have hC : ∀ x c, env.cells.lookup x = some c → c ≠ V i := fun x c hc e => by
    obtain ⟨_, w, o, ho, hd⟩ := R.cel x c hc
    rw [e, hold] at ho; cases ho; cases hd
  have held : ∀ x v, Held s.heap env x v → Held s'.heap env x v := fun x v H => by
    unfold Held at H ⊢
    split at H
    · rename_i c hc
      obtain ⟨o, ho, hd⟩ := H
      exact ⟨o, (g.keep _ _ (hC _ _ hc) ho).1, hd⟩
    · obtain ⟨mm, ⟨o, es, ep, ho, r⟩, hv⟩ := H
      exact ⟨mm, ⟨o, es, ep, (g.keep _ _ hL ho).1, r⟩, hv⟩
  refine ⟨⟨g.same, g.sub, fun b o hb e => g.keep b o (fun e' => hb (by rw [e']; exact vi)) e⟩, ?_, ?_, rfl⟩
  · refine ⟨hh, by rw [sp_length, R.len], ?_, ?_, fun x c hc => ?_, R.cinj, ?_, ?_, ?_⟩
    · obtain ⟨mm, o, es, ep, ho, r⟩ := R.nsx
      exact ⟨mm, o, es, ep, (g.keep _ _ hL ho).1, r⟩
    · obtain ⟨o, es, ep, ho, hd⟩ := R.locals_some
      exact ((g.keep _ _ hL ho).2).trans R.loc
    · obtain ⟨h1, v, o, ho, hd⟩ := R.cel x c hc
      exact ⟨((g.keep _ _ (hC _ _ hc) ho).2).trans h1, v, o, (g.keep _ _ (hC _ _ hc) ho).1, hd⟩
    · intro j x hj r hr
      have hij : i ≠ j := by rintro rfl; rw [sg_sp_same _ _ _ hσ] at hr; cases hr
      rw [sg_sp_ne _ _ _ _ hij] at hr
      obtain ⟨v, H, rr⟩ := R.vals j x hj r hr
      exact ⟨v, held _ _ H, Rep.mono g.sub _ _ rr⟩
    · intro j x hj r hr
      by_cases hij : i = j
      · subst hij
        rw [sg_sp_same _ _ _ hσ] at hr
        cases hr
        obtain ⟨H, ha, _⟩ := R.owns i x hj p hp
        exact ⟨held _ _ H, hn, us, m, hv, c⟩
      · rw [sg_sp_ne _ _ _ _ hij] at hr
        obtain ⟨H, ha, ts, k, hu, cu⟩ := R.owns j x hj r hr
        have hne : V j ≠ V i := fun e => hij (R.oinj i j p r hp hr e.symm)
        exact ⟨held _ _ H, ((g.keep _ _ hne hu).2).trans ha, ts, k, (g.keep _ _ hne hu).1, cu.mono g.sub⟩
    · intro j k xs ys hj hk e
      have aux : ∀ j xs, sg (sp σ i (.own q)) j = .own xs → ∃ ys, sg σ j = .own ys := fun j xs h => by
        by_cases hij : i = j
        · subst hij; exact ⟨p, hp⟩
        · rw [sg_sp_ne _ _ _ _ hij] at h; exact ⟨xs, h⟩
      obtain ⟨xs', h1⟩ := aux j xs hj
      obtain ⟨ys', h2⟩ := aux k ys hk
      exact R.oinj j k xs' ys' h1 h2 e
  · rintro b (hb | hb | ⟨j, xs, hj, hb⟩)
    · exact .inl (.inl hb)
    · exact .inl (.inr (.inl hb))
    · by_cases hij : i = j
      · subst hij; exact .inl (.inr (.inr ⟨i, p, hp, hb⟩))
      · rw [sg_sp_ne _ _ _ _ hij] at hj
        exact .inl (.inr (.inr ⟨j, xs, hj, hb⟩))

def q_SM_call (P : PM) (F : LT) (i : Nat) : MT := fun σ G => match sg σ i with | .own q => (F σ fun xs => P q xs fun r q' => G r (sp σ i (.own q'))) | _ => False
theorem zce (P : PM) (F : LT) (i : Nat) (σ : List Sl) (G : PV → List Sl → Prop) : q_SM_call P F i σ G = (match sg σ i with | .own q => (F σ fun xs => P q xs fun r q' => G r (sp σ i (.own q'))) | _ => False) := rfl
theorem SM.call (O : C.Ok d) {a : Addr} {P : PM} (hf : FnOkM C.prog C.w C.h0 d a P) {rest : List Expr} {F : LT} (i : Nat) (x f : Str) (hs : SEs C rest F) (p fp pos : Pos) (hi : C.ns[i]? = some x) (hk : C.env.kindOf f = some .globalImplicit) (hm : C.mg f = some (.ref a))
    (hd : (x == ("__debug__" : Str)) = false := by decide) (hdf : (f == ("__debug__" : Str)) = false := by decide) :
    SM C (.Call (.Name f fp) (.Name x p :: rest) [] pos) (q_SM_call P F i) := by
  intro φ V σ s G S R hF E
  unfold q_SM_call at hF
  split at hF
  · rename_i q hq
    obtain ⟨⟨o, fd, ho, hdat⟩, hc⟩ := hf
    refine wpAny_CallName (wpAny_gname O S R.sub hk hm ?_ hdf)
    obtain ⟨Hx, hφ, vs, n, hv, c⟩ := R.owns i x hi q hq
    refine callWith_function (o := o) (fd := fd) (wpAny_args rfl (wpAny_items_cons (wpAny_Name (wpAny_held O hi Hx ?_) hd)))
    refine wpAny_mono (hs φ V σ s _ S R hF pos E) (fun us s₁ h₁ => ?_) fun _ _ x => x
    obtain ⟨φ₁, xs, g₁, r, _, hP⟩ := h₁
    refine ⟨⟨g₁.here _ _ (g₁.sub _ _ (S _ _ ho)), hdat⟩, ?_⟩
    have R₁ := R.grow g₁
    refine wpAny_mono (hc C.A φ₁ s₁ (V i) vs n q us xs _ O.room (S.grow g₁) g₁.here (((g₁.keep _ _ hv).2).trans hφ) (g₁.keep _ _ hv).1 (c.mono g₁.sub) r hP E) (fun v s₂ h₂ => ?_) fun _ _ x => x
    obtain ⟨φ₂, r₂, q₂, us₂, m₂, g₂, hh₂, hn₂, hv₂, c₂, rr₂, hG⟩ := h₂
    exact ⟨φ₂, V, _, r₂, (Step.of_grow R g₁).trans (R₁.growBut hq g₂ hh₂ hn₂ hv₂ c₂), rr₂, hG⟩
  · exact hF.elim

def q_SM_add (F : MT) (z : Int) : MT := fun σ G => F σ fun b σ' => addT (.int z) b fun r => G r σ'
theorem zcf (F : MT) (z : Int) (σ : List Sl) (G : PV → List Sl → Prop) : q_SM_add F z σ G = (F σ fun b σ' => addT (.int z) b fun r => G r σ') := rfl
theorem SM.add {e : Expr} {F : MT} (z : Int) (k : Nat) (zp : Pos) (h : SM C e F) (pos : Pos) : SM C (.BinOp (.Constant (.int z) k zp) .Add e pos) (q_SM_add F z) := by
  intro φ V σ s G S R hF E
  refine wpAny_BinOp (wpAny_Constant_int ?_)
  have g₀ := Grow.tok R.sub (s.toks + 1)
  refine wpAny_mono (h φ V σ { s with toks := s.toks + 1 } _ S (R.grow g₀) hF E) (fun v s₁ h₁ => ?_) fun _ _ x => x
  obtain ⟨φ₁, V₁, σ₁, x, T, rx, hT⟩ := h₁
  refine wpAny_mono (add_ok C.prog C.w C.A φ₁ s₁ (.int z) x _ _ _ E T.rs.sub (rep_int_mk _ _ _) rx hT) (fun w s₂ h₂ => ?_) fun _ _ x => x
  obtain ⟨φ₂, y, g₂, ry, hG⟩ := h₂
  exact ⟨φ₂, V₁, σ₁, y, ((Step.of_grow R g₀).trans T).trans (Step.of_grow T.rs g₂), ry, hG⟩

def q_SS_assignM (F : MT) (i : Nat) : Tr := fun σ G => F σ fun a σ' => G .next (sp σ' i (.val a))
theorem zcg (F : MT) (i : Nat) (σ : List Sl) (G : Oc → List Sl → Prop) : q_SS_assignM F i σ G = (F σ fun a σ' => G .next (sp σ' i (.val a))) := rfl
theorem SS.assignM (O : C.Ok d) {e : Expr} {F : MT} (i : Nat) (x : Str) (h : SM C e F) (p pos : Pos) (hi : C.ns[i]? = some x) (hst : Storable C x) (hsw : ∀ env, swapsWith e (some (.Name x p)) pos.line env = pure false := by intro _; rfl) :
    SS C (.Assign [.Name x p] e pos) (q_SS_assignM F i) := by
  intro φ V σ s G S R hF E
  refine wpAny_Assign_Name (wpAny_mono (h φ V σ s _ S R hF E) (fun v s₁ h₁ => ?_) fun _ _ x => x) (hsw _)
  obtain ⟨φ₁, V₁, σ₁, a, T, ra, hG⟩ := h₁
  exact store_slot O T hi hst (sl := .val a) ra fun h' tk b _ _ st => ⟨_, _, _, st, hG⟩

def noneT (a : PV) (G : Prop) : Prop := match a with | .none => G | _ => False
def q_SS_exprM (F : MT) : Tr := fun σ G => F σ fun a σ' => noneT a (G .next σ')
theorem zch (F : MT) (σ : List Sl) (G : Oc → List Sl → Prop) : q_SS_exprM F σ G = (F σ fun a σ' => noneT a (G .next σ')) := rfl
theorem SS.exprM (O : C.Ok d) {e : Expr} {F : MT} (h : SM C e F) (pos : Pos) (hs : ∀ env, swapsWith e none pos.line env = pure false := by intro _; rfl) : SS C (.Expr e pos) (q_SS_exprM F) := by
  intro φ V σ s G S R hF E
  refine wpAny_Expr (wpAny_mono (h φ V σ s _ S R hF E) (fun v s₁ h₁ => ?_) fun _ _ x => x) (by unfold interactive; rw [O.kind]; rfl) (hs _)
  obtain ⟨φ₁, V₁, σ₁, a, T, ra, hG⟩ := h₁
  unfold noneT at hG
  split at hG
  · rw [Rep] at ra
    subst ra
    exact ⟨φ₁, V₁, σ₁, T, hG⟩
  · exact hG.elim

def q_SS_iteM (F : MT) (H : Tr) (K : Tr) (z : Int) : Tr := fun σ G => F σ fun a σ' => eqT a (.int z) fun c => then' c (H σ' G) (K σ' G)
theorem zci (F : MT) (H : Tr) (K : Tr) (z : Int) (σ : List Sl) (G : Oc → List Sl → Prop) : q_SS_iteM F H K z σ G = (F σ fun a σ' => eqT a (.int z) fun c => then' c (H σ' G) (K σ' G)) := rfl
theorem SS.iteM (O : C.Ok d) {e : Expr} {F : MT} {H K : Tr} {b o : List Stmt} (z : Int) (k : Nat) (zp tp pos : Pos) (h : SM C e F) (hb : SSs C b H) (ho : SSs C o K) :
    SS C (.If (.Compare e [.Eq] [.Constant (.int z) k zp] tp) b o pos) (q_SS_iteM F H K z) := by
  intro φ V σ s G S R hF E
  refine wpAny_If (wpAny_isTrue_Compare1 (wpAny_mono (h φ V σ s _ S R hF E) (fun v s₁ h₁ => wpAny_Constant_int ?_) fun _ _ x => x) rfl)
  obtain ⟨φ₁, V₁, σ₁, a, T, ra, hT⟩ := h₁
  have hu := O.room.2.2
  have g₂ := Grow.tok T.rs.sub (s₁.toks + 1)
  refine wpAny_mono (eq_ok C.prog C.w C.A φ₁ { s₁ with toks := s₁.toks + 1 } a (.int z) _ _ _ E (by lia) T.rs.sub ra (rep_int_mk _ _ _) hT) (fun w s₂ h₂ => ?_) fun _ _ x => x
  obtain ⟨rfl, c, rfl, t⟩ := h₂
  have T₂ := T.trans (Step.of_grow T.rs g₂)
  refine wpAny_truthy_bool ?_
  cases c with
  | true => exact wpAny_mono (hb φ₁ V₁ σ₁ _ _ (S.step T₂) T₂.rs (t.1 rfl) E) (fun f s₃ h₃ => h₃.from T₂) fun _ _ x => x
  | false => exact wpAny_mono (ho φ₁ V₁ σ₁ _ _ (S.step T₂) T₂.rs (t.2 rfl) E) (fun f s₃ h₃ => h₃.from T₂) fun _ _ x => x
end
end Mine

open PySem PySem.Calls PyProof.Rows
set_option Elab.async false
namespace Mine

structure Stat (h0 : Heap) (mg mb : Str → Option Value) : Prop where
  hg : h0.Ns mainGlobals mg
  hb : h0.Ns builtinsNs mb
  nolimit : h0.NoLimit
  len : mg "len" = none ∧ mb "len" = some (.builtin "len")
  range : mg "range" = none ∧ mb "range" = some (.type "range")
  enum : mg "enumerate" = none ∧ mb "enumerate" = some (.type "enumerate")
  min : mg "min" = none ∧ mb "min" = some (.builtin "min")
  abs : mg "abs" = none ∧ mb "abs" = some (.builtin "abs")
  int : mg "int" = none ∧ mb "int" = some (.type "int")
  sum : mg "sum" = none ∧ mb "sum" = some (.builtin "sum")

structure FnAt (h0 : Heap) (mg : Str → Option Value) (x : Str) (params : Arguments) (body : List Stmt) (scope : Scope) (a : Addr) : Prop where
  gname : mg x = some (.ref a)
  obj : ∃ o pm cd doc, h0.get? a = some o ∧ o.data = .func (docDef x params body scope pm cd doc) ∧ h0.CodeRec cd x

abbrev fnCx (prog : Program) (w : World) (h0 : Heap) (mg mb : Str → Option Value) (A : Around) (x : Str) (scope : Scope) (L a : Addr) (cd : Value) (ns : List Str) : Cx :=
  ⟨prog, w, h0, mg, mb, A.deeper (envOf x scope L a cd), envOf x scope L a cd, ns⟩

def endT (G : PV → Prop) : Oc → List Sl → Prop := fun o _ => match o with
  | .ret r => G r
  | .next => G .none
def endM (G : PV → PV → Prop) : Oc → List Sl → Prop := fun o σ => match sg σ 0 with
  | .own q => (match o with | .ret r => G r q | .next => G .none q)
  | _ => False

theorem lookup_nodup {β : Type} : ∀ (l : List (Str × β)) (k : Str) (v : β), (l.map (·.1)).Nodup → (k, v) ∈ l → l.lookup k = some v
  | [], k, v, _, h => by cases h
  | (k', v') :: l, k, v, hn, h => by
    rw [List.map_cons, List.nodup_cons] at hn
    rw [List.lookup_cons]
    rcases List.mem_cons.mp h with e | hm
    · cases e; simp
    · have : (k == k') = false := by
        apply beq_eq_false_iff_ne.mpr
        intro e
        exact hn.1 (e ▸ List.mem_map.mpr ⟨(k, v), hm, rfl⟩)
      rw [this]
      exact lookup_nodup l k v hn.2 hm

theorem sg_append_left : ∀ (a b : List Sl) (i : Nat), i < a.length → sg (a ++ b) i = sg a i
  | s :: a, b, 0, _ => rfl
  | s :: a, b, i + 1, h => sg_append_left a b i (by simpa using h)
theorem sg_append_right : ∀ (a b : List Sl) (i : Nat), sg (a ++ b) (a.length + i) = sg b i
  | [], b, i => by simp
  | s :: a, b, i => by
    rw [show (s :: a).length + i = (a.length + i) + 1 by simp; lia]
    exact sg_append_right a b i
theorem sg_rep : ∀ (n i : Nat), sg (List.replicate n .un) i = .un
  | 0, i => rfl
  | n + 1, 0 => rfl
  | n + 1, i + 1 => by rw [List.replicate_succ]; exact sg_rep n i
theorem sg_vals : ∀ (xs : List PV) (i : Nat) (s : Sl), sg (xs.map .val) i = s → s = .un ∨ ∃ x, xs[i]? = some x ∧ s = .val x
  | [], i, s, h => .inl h.symm
  | x :: xs, 0, s, h => .inr ⟨x, rfl, h.symm⟩
  | x :: xs, i + 1, s, h => by
    rcases sg_vals xs i s h with h | ⟨y, h1, h2⟩
    · exact .inl h
    · exact .inr ⟨y, by simpa using h1, h2⟩

theorem entry_rs {x : Str} {scope : Scope} {a : Addr} {cd : Value} {ps ls : List Str} {φ : Fz} {s : Shared} {h₁ : Heap} {vs : List Value} (hnd : (ps ++ ls).Nodup) (hlen : vs.length = ps.length) (hs : ∀ b o, φ b = some o → s.heap.get? b = some o)
    (F : Fr s.heap s.heap.objs.size h₁ (fun y => (ps.zip vs).reverse.lookup y)) (V : Nat → Addr) (sls : List Sl) (hsl : sls.length = ps.length)
    (hval : ∀ i p, sg sls i = .val p → ∃ v, vs[i]? = some v ∧ Rep φ p v) (hown : ∀ i p, sg sls i = .own p → vs[i]? = some (.ref (V i)) ∧ φ (V i) = none ∧ ∃ ws n, s.heap.get? (V i) = some (lobj ws n) ∧ Cont φ p ws)
    (hinj : ∀ i j p q, sg sls i = .own p → sg sls j = .own q → V i = V j → i = j) :
    RS (envOf x scope s.heap.objs.size a cd) (ps ++ ls) φ V (sls ++ List.replicate ls.length .un) h₁ := by
  have hn := size_none s.heap
  have hφ : φ s.heap.objs.size = none := by
    cases e : φ s.heap.objs.size with
    | none => rfl
    | some o => rw [hs _ _ e] at hn; cases hn
  have cells : ∀ y, (envOf x scope s.heap.objs.size a cd).cells.lookup y = none := fun y => rfl
  have look : ∀ (i : Nat) (y : Str) (v : Value), ps[i]? = some y → vs[i]? = some v → Held h₁ (envOf x scope s.heap.objs.size a cd) y v := by
    intro i y v hy hv
    refine ⟨_, F.ns, ?_⟩
    refine lookup_nodup _ _ _ ?_ ?_
    · rw [List.map_reverse]
      refine List.pairwise_reverse.mpr (List.Pairwise.imp (R := fun (a b : Str) => a ≠ b) (fun h => Ne.symm h) ?_)
      rw [show (ps.zip vs).map (·.1) = ps from List.map_fst_zip (by lia)]
      exact (List.nodup_append.mp hnd).1
    · rw [List.mem_reverse]
      apply List.mem_of_getElem? (i := i)
      rw [List.getElem?_zip_eq_some]
      exact ⟨hy, hv⟩
  have inl : ∀ i s, sg (sls ++ List.replicate ls.length .un) i = s → s ≠ .un → i < sls.length ∧ sg sls i = s := by
    intro i s h hne
    rcases Nat.lt_or_ge i sls.length with hl | hl
    · exact ⟨hl, by rw [← h, sg_append_left _ _ _ hl]⟩
    · obtain ⟨k, rfl⟩ : ∃ k, i = sls.length + k := ⟨i - sls.length, by lia⟩
      rw [sg_append_right, sg_rep] at h
      exact absurd h.symm hne
  refine ⟨fun b o e => F.keep _ _ (hs _ _ e), by simp [hsl], ⟨_, F.ns⟩, hφ, (fun y c hc => by rw [cells y] at hc; cases hc), (fun y z c hc => by rw [cells y] at hc; cases hc), ?_, ?_, ?_⟩
  · intro i y hy p hp
    obtain ⟨hl, hp'⟩ := inl i _ hp (by intro e; cases e)
    obtain ⟨v, hv, r⟩ := hval i p hp'
    exact ⟨v, look i y v (by rwa [List.getElem?_append_left (by lia)] at hy) hv, r⟩
  · intro i y hy p hp
    obtain ⟨hl, hp'⟩ := inl i _ hp (by intro e; cases e)
    obtain ⟨hv, hb, ws, n, hw, c⟩ := hown i p hp'
    exact ⟨look i y _ (by rwa [List.getElem?_append_left (by lia)] at hy) hv, hb, ws, n, F.keep _ _ hw, c⟩
  · intro i j p q hi hj e
    exact hinj i j p q (inl i _ hi (by intro e; cases e)).2 (inl j _ hj (by intro e; cases e)).2 e

theorem cx_ok {prog : Program} {w : World} {h0 : Heap} {mg mb : Str → Option Value} (S : Stat h0 mg mb) {d : Nat} {A : Around} (r : Room (d + 1) A) {x : Str} {scope : Scope} {L a : Addr} {cd : Value} {ns : List Str} (hk : scope.kind = .function)
    (hloc : ∀ y ∈ ns, scope.names.lookup y = some .local) (hnd : ns.Nodup) : (fnCx prog w h0 mg mb A x scope L a cd ns).Ok d where
  room := ⟨r.1, by have := r.2.1; show A.depth + 1 + d < _; lia, by have := r.2.2; show A.units + 3 + 8 * d + 8 < _; lia⟩
  kind := hk
  glob := rfl
  built := rfl
  hg := S.hg
  hb := S.hb
  nolimit := S.nolimit
  locals := fun i y hy => .inl ⟨rfl, hloc y (List.mem_of_getElem? hy)⟩
  inj := fun i j y hi hj => by
    have h1 := (List.getElem?_eq_some_iff.mp hi)
    have h2 := (List.getElem?_eq_some_iff.mp hj)
    obtain ⟨a1, b1⟩ := h1
    obtain ⟨a2, b2⟩ := h2
    rcases Nat.lt_trichotomy i j with h | h | h
    · exact absurd (b1.trans b2.symm) (List.pairwise_iff_getElem.mp hnd i j a1 a2 h)
    · exact h
    · exact absurd (b2.trans b1.symm) (List.pairwise_iff_getElem.mp hnd j i a2 a1 h)

theorem fnOk_of {prog : Program} {w : World} {h0 : Heap} {mg mb : Str → Option Value} (S : Stat h0 mg mb) {d : Nat} {x : Str} {params : Arguments} {body : List Stmt} {scope : Scope} {a : Addr} (f : FnAt h0 mg x params body scope a)
    (ps ls : List Str) (hbind : ∀ pm cd doc vs, vs.length = ps.length → bindArgs (docDef x params body scope pm cd doc) ⟨vs, []⟩ = pure (ps.zip vs))
    (hloc : ∀ y ∈ ps ++ ls, scope.names.lookup y = some .local) (hnd : (ps ++ ls).Nodup) (hk : scope.kind = .function) (hco : scope.isCoroutine = false) (hgen : scope.isGenerator = false) (hcell : ∀ x ∈ scope.names, x.2 ≠ .cell)
    {F : Tr} (hB : ∀ (A : Around) (L : Addr) (cd : Value), (fnCx prog w h0 mg mb A x scope L a cd (ps ++ ls)).Ok d → SSs (fnCx prog w h0 mg mb A x scope L a cd (ps ++ ls)) body F)
    (P : PT) (hP : ∀ xs G, P xs G → xs.length = ps.length ∧ F (xs.map .val ++ List.replicate ls.length .un) (endT G)) : FnOk prog w h0 (d + 1) a P := by
  obtain ⟨o, pm, cd, doc, ho, hd, hcr⟩ := f.obj
  refine ⟨⟨o, _, ho, hd⟩, fun A φ s vs xs G r hst hs hr hp E => ?_⟩
  have kp : ∀ b o, h0.get? b = some o → s.heap.get? b = some o := fun b o e => hs _ _ (hst _ _ e)
  obtain ⟨hlen, hF⟩ := hP xs G hp
  have hvl : vs.length = ps.length := by rw [hr.length, hlen]
  refine wpAny_call (call_plain_ret (by have := r.2.1; lia) (kp _ _ ho) hd (S.nolimit.keeps kp) (hcr.keeps kp) (hbind pm cd doc vs hvl) (fun y hy => ?_) (fun h₁ Fr₁ => ?_) hco hgen hk hcell)
  · obtain ⟨y1, y2⟩ := y
    exact hloc y1 (List.mem_append_left _ (List.of_mem_zip hy).1)
  · have Rs : RS (envOf x scope s.heap.objs.size a cd) (ps ++ ls) φ (fun _ => 0) (xs.map .val ++ List.replicate ls.length .un) h₁ := by
      refine entry_rs hnd hvl hs Fr₁ _ _ (by simp [hlen]) (fun i p h => ?_) (fun i p h => ?_) (fun i j p q h => ?_)
      · rcases sg_vals xs i _ h with h | ⟨y, h1, h2⟩
        · cases h
        · cases h2; exact hr.get h1
      · rcases sg_vals xs i _ h with h | ⟨y, h1, h2⟩ <;> contradiction
      · rcases sg_vals xs i _ h with h | ⟨y, h1, h2⟩ <;> contradiction
    have O := cx_ok (prog := prog) (w := w) S (A := A) (d := d) r (x := x) (L := s.heap.objs.size) (a := a) (cd := cd) hk hloc hnd
    have kφ : ∀ b o, s.heap.get? b = some o → ¬ Vol (envOf x scope s.heap.objs.size a cd) (fun _ => 0) (xs.map .val ++ List.replicate ls.length .un) b := by
      rintro b o e (hb | ⟨y, hy⟩ | ⟨i, p, hi, _⟩)
      · have hb' : b = s.heap.objs.size := hb
        rw [hb', size_none] at e; cases e
      · cases hy
      · rcases Nat.lt_or_ge i (xs.map Sl.val).length with hl | hl
        · rw [sg_append_left _ _ _ hl] at hi
          rcases sg_vals xs i _ hi with h | ⟨y, h1, h2⟩ <;> contradiction
        · obtain ⟨k, rfl⟩ : ∃ k, i = (xs.map Sl.val).length + k := ⟨i - (xs.map Sl.val).length, by lia⟩
          rw [sg_append_right, sg_rep] at hi; cases hi
    refine wpAny_mono (hB A _ cd O φ _ _ { s with heap := h₁, toks := s.toks + (ps.zip vs).length } (endT G) hst Rs hF (fun _ _ => False)) (fun fl s' h' => ?_) fun _ _ x => x
    obtain ⟨φ', V', σ', T, hf⟩ := h'
    have gr : ∀ v x, Rep φ' x v → G x → Gr φ s G v s' := fun v x rx gx => by
      refine ⟨φ', x, ⟨?_, T.grow.sub, T.rs.sub, fun b o e => ?_⟩, rx, gx⟩
      · obtain ⟨h, t, e⟩ := T.grow.same
        rw [e]; exact ⟨_, _, rfl⟩
      · exact T.grow.keep b o (kφ b o e) (Fr₁.keep _ _ e)
    cases fl with
    | next => exact gr .none .none (by rw [Rep]) hf
    | ret v => obtain ⟨x, rx, gx⟩ := hf; exact gr v x rx gx
    | brk => exact hf.elim
    | cont => exact hf.elim

theorem fnOkM_of {prog : Program} {w : World} {h0 : Heap} {mg mb : Str → Option Value} (S : Stat h0 mg mb) {d : Nat} {x : Str} {params : Arguments} {body : List Stmt} {scope : Scope} {a : Addr} (f : FnAt h0 mg x params body scope a)
    (p0 : Str) (ps ls : List Str) (hbind : ∀ pm cd doc vs, vs.length = (p0 :: ps).length → bindArgs (docDef x params body scope pm cd doc) ⟨vs, []⟩ = pure ((p0 :: ps).zip vs))
    (hloc : ∀ y ∈ (p0 :: ps) ++ ls, scope.names.lookup y = some .local) (hnd : ((p0 :: ps) ++ ls).Nodup) (hk : scope.kind = .function) (hco : scope.isCoroutine = false) (hgen : scope.isGenerator = false) (hcell : ∀ x ∈ scope.names, x.2 ≠ .cell)
    {F : Tr} (hB : ∀ (A : Around) (L : Addr) (cd : Value), (fnCx prog w h0 mg mb A x scope L a cd ((p0 :: ps) ++ ls)).Ok d → SSs (fnCx prog w h0 mg mb A x scope L a cd ((p0 :: ps) ++ ls)) body F)
    (P : PM) (hP : ∀ p xs G, P p xs G → xs.length = ps.length ∧ F ((.own p :: xs.map .val) ++ List.replicate ls.length .un) (endM G)) : FnOkM prog w h0 (d + 1) a P := by
  obtain ⟨o, pm, cd, doc, ho, hd, hcr⟩ := f.obj
  refine ⟨⟨o, _, ho, hd⟩, fun A φ s l ws n p vs xs G r hst hs hl hlv hc hr hp E => ?_⟩
  have kp : ∀ b o, h0.get? b = some o → s.heap.get? b = some o := fun b o e => hs _ _ (hst _ _ e)
  obtain ⟨hlen, hF⟩ := hP p xs G hp
  have hvl : (Value.ref l :: vs).length = (p0 :: ps).length := by simp [hr.length, hlen]
  refine wpAny_call (call_plain_ret (by have := r.2.1; lia) (kp _ _ ho) hd (S.nolimit.keeps kp) (hcr.keeps kp) (hbind pm cd doc _ hvl) (fun y hy => ?_) (fun h₁ Fr₁ => ?_) hco hgen hk hcell)
  · obtain ⟨y1, y2⟩ := y
    exact hloc y1 (List.mem_append_left _ (List.of_mem_zip hy).1)
  · have sgs : ∀ i q, sg (Sl.own p :: xs.map .val) i = .own q → i = 0 ∧ q = p := by
      intro i q h
      cases i with
      | zero => cases h; exact ⟨rfl, rfl⟩
      | succ i => rcases sg_vals xs i _ h with h | ⟨y, h1, h2⟩ <;> contradiction
    have Rs : RS (envOf x scope s.heap.objs.size a cd) ((p0 :: ps) ++ ls) φ (fun _ => l) ((.own p :: xs.map .val) ++ List.replicate ls.length .un) h₁ := by
      refine entry_rs hnd hvl hs Fr₁ _ _ (by simp [hlen]) (fun i q h => ?_) (fun i q h => ?_) (fun i j q q' h h' _ => ?_)
      · cases i with
        | zero => cases h
        | succ i =>
          rcases sg_vals xs i _ h with h | ⟨y, h1, h2⟩
          · cases h
          · cases h2
            obtain ⟨v, hv, rr⟩ := hr.get h1
            exact ⟨v, by simpa using hv, rr⟩
      · obtain ⟨rfl, rfl⟩ := sgs i q h
        exact ⟨rfl, hl, ws, n, hlv, hc⟩
      · rw [(sgs i q h).1, (sgs j q' h').1]
    have O := cx_ok (prog := prog) (w := w) S (A := A) (d := d) r (x := x) (L := s.heap.objs.size) (a := a) (cd := cd) hk hloc hnd
    have kφ : ∀ b o, b ≠ l → s.heap.get? b = some o → ¬ Vol (envOf x scope s.heap.objs.size a cd) (fun _ => l) ((.own p :: xs.map .val) ++ List.replicate ls.length .un) b := by
      rintro b o hbl e (hb | ⟨y, hy⟩ | ⟨i, q, hi, hb⟩)
      · have hb' : b = s.heap.objs.size := hb
        rw [hb', size_none] at e; cases e
      · cases hy
      · exact hbl hb.symm
    refine wpAny_mono (hB A _ cd O φ _ _ { s with heap := h₁, toks := s.toks + ((p0 :: ps).zip (Value.ref l :: vs)).length } (endM G) hst Rs hF (fun _ _ => False)) (fun fl s' h' => ?_) fun _ _ x => x
    obtain ⟨φ', V', σ', T, hf⟩ := h'
    have gr : ∀ v x q, Rep φ' x v → sg σ' 0 = .own q → G x q → ∃ φ' r q us m, GrowX (· = l) φ s φ' s' ∧ (∀ b o, φ' b = some o → s'.heap.get? b = some o) ∧ φ' l = none ∧ s'.heap.get? l = some (lobj us m) ∧ Cont φ' q us ∧ Rep φ' r v ∧ G r q := fun v y q rx hq gx => by
      obtain ⟨_, h1, us, m, hu, cu⟩ := T.rs.owns 0 p0 rfl q hq
      have hV : V' 0 = l := T.v0
      rw [hV] at h1 hu
      refine ⟨φ', y, q, us, m, ⟨?_, T.grow.sub, fun b o hb e => T.grow.keep b o (kφ b o hb e) (Fr₁.keep _ _ e)⟩, T.rs.sub, h1, hu, cu, rx, gx⟩
      obtain ⟨h, t, e⟩ := T.grow.same
      rw [e]; exact ⟨_, _, rfl⟩
    cases fl with
    | next =>
      unfold Fin' endM at hf
      dsimp only at hf
      split at hf
      · rename_i q hq
        exact gr .none .none q (by rw [Rep]) hq hf
      · exact hf.elim
    | ret v =>
      obtain ⟨y, rx, gx⟩ := hf
      unfold endM at gx
      split at gx
      · rename_i q hq
        exact gr v y q rx hq gx
      · exact gx.elim
    | brk => exact hf.elim
    | cont => exact hf.elim
end Mine

open PySem PySem.Calls PyProof.Rows
set_option Elab.async false
namespace Mine
variable {C : Cx} {d : Nat}
def notT (a : PV) (G : PV → Prop) : Prop := match a with | .bool b => G (.bool (!b)) | _ => False
def q_SE_not (F : ET) : ET := fun σ G => F σ fun a => notT a G
theorem zcj (F : ET) (σ : List Sl) (G : PV → Prop) : q_SE_not F σ G = (F σ fun a => notT a G) := rfl
theorem SE.not {e : Expr} {F : ET} (h : SE C e F) (pos : Pos) : SE C (.UnaryOp .Not e pos) (q_SE_not F) := by
  intro φ V σ s G S R hF E
  refine wpAny_UnaryOp (wpAny_mono (h φ V σ s _ S R hF E) (fun v s₁ h₁ => ?_) fun _ _ x => x)
  obtain ⟨φ₁, a, g₁, ra, hb⟩ := h₁
  unfold notT at hb
  split at hb
  · have := rep_bool ra; subst this
    refine not_value (wpAny_truthy_bool ?_)
    exact ⟨φ₁, .bool _, g₁, by rw [Rep], hb⟩
  · exact hb.elim
end Mine
namespace Mine
theorem all2 {α : Type} {P : α → Prop} {a b : α} (h1 : P a) (h2 : P b) : ∀ n ∈ [a, b], P n := by
  intro n hn; simp only [List.mem_cons, List.not_mem_nil, or_false] at hn; rcases hn with rfl | rfl <;> assumption
theorem all3 {α : Type} {P : α → Prop} {a b c : α} (h1 : P a) (h2 : P b) (h3 : P c) : ∀ n ∈ [a, b, c], P n := by
  intro n hn; simp only [List.mem_cons, List.not_mem_nil, or_false] at hn; rcases hn with rfl | rfl | rfl <;> assumption
end Mine

open PySem PySem.Calls PyProof.Rows
set_option Elab.async false
namespace Mine

abbrev inn (C : Cx) (scope : Scope) (cl : List (Str × Addr)) (Cc : Addr) (x : Str) (fs : List Str) : Cx := { C with env := compEnvC scope cl Cc C.env, ns := x :: fs }
def mkσ (js : List Nat) (σ : List Sl) (q : PV) : List Sl := .val q :: js.map (sg σ)
def mkV (js : List Nat) (V : Nat → Addr) : Nat → Addr
  | 0 => 0
  | k + 1 => V (js.getD k 0)

theorem sg_map (σ : List Sl) : ∀ (js : List Nat) (k j : Nat), js[k]? = some j → sg (js.map (sg σ)) k = sg σ j
  | [], k, j, h => by simp at h
  | a :: r, 0, j, h => by simp at h; subst h; rfl
  | a :: r, k + 1, j, h => by
    show sg (r.map (sg σ)) k = _
    exact sg_map σ r k j (by simpa using h)

structure Free (C : Cx) (scope : Scope) (cl : List (Str × Addr)) (x : Str) (fs : List Str) (js : List Nat) : Prop where
  kind : scope.kind = .function
  hx : scope.names.lookup x = some .local
  hxc : cl.lookup x = none
  hcl : ∀ f c, cl.lookup f = some c → C.env.cells.lookup f = some c
  hfs : ∀ (k : Nat) (f : Str), fs[k]? = some f → ∃ (j : Nat) (c : Addr), js[k]? = some j ∧ C.ns[j]? = some f ∧ cl.lookup f = some c
  hlen : js.length = fs.length
  hinj : ∀ (k l j : Nat), js[k]? = some j → js[l]? = some j → k = l
  hk : ∀ Cc f, f ∈ fs → (compEnvC scope cl Cc C.env).kindOf f = some .cell
  nodup : ∀ (i j : Nat) (y : Str), (x :: fs)[i]? = some y → (x :: fs)[j]? = some y → i = j

section
variable {C : Cx} {d : Nat} {scope : Scope} {cl : List (Str × Addr)} {x : Str} {fs : List Str} {js : List Nat}

theorem inner_ok (O : C.Ok d) (H : Free C scope cl x fs js) (Cc : Addr) : (inn C scope cl Cc x fs).Ok d where
  room := O.room
  kind := by show (relabel scope C.env).kind = _; exact H.kind
  glob := O.glob
  built := O.built
  hg := O.hg
  hb := O.hb
  nolimit := O.nolimit
  locals := fun i y hy => by
    cases i with
    | zero =>
      have : x = y := by simpa using hy
      subst this
      exact .inl ⟨H.hxc, lookup_relabel_local H.hx⟩
    | succ i =>
      have hy' : fs[i]? = some y := by simpa using hy
      obtain ⟨j, c, _, _, hc⟩ := H.hfs i y hy'
      exact .inr ⟨c, hc, .inl (H.hk Cc y (List.mem_of_getElem? hy'))⟩
  inj := H.nodup

theorem inner_rs (H : Free C scope cl x fs js) {Cc : Addr} {φ : Fz} {V : Nat → Addr} {σ : List Sl} {h : Heap} {m : Str → Option Value} {q : PV} {v : Value} (R : RS C.env C.ns φ V σ h) (hn : h.Ns Cc m) (hm : m x = some v) (hr : Rep φ q v) (hφ : φ Cc = none) :
    RS (compEnvC scope cl Cc C.env) (x :: fs) φ (mkV js V) (mkσ js σ q) h where
  sub := R.sub
  len := by simp [mkσ, H.hlen]
  nsx := ⟨m, hn⟩
  loc := hφ
  cel := fun y c hc => R.cel y c (H.hcl y c hc)
  cinj := fun y z c hy hz => R.cinj y z c (H.hcl _ _ hy) (H.hcl _ _ hz)
  vals := fun i y hy p hp => by
    cases i with
    | zero =>
      have : x = y := by simpa using hy
      subst this
      cases hp
      refine ⟨v, ?_, hr⟩
      unfold Held
      rw [show (compEnvC scope cl Cc C.env).cells.lookup x = none from H.hxc]
      exact ⟨m, hn, hm⟩
    | succ i =>
      have hy' : fs[i]? = some y := by simpa using hy
      obtain ⟨j, c, hj, hjn, hc⟩ := H.hfs i y hy'
      have hp' : sg σ j = .val p := by rw [← sg_map σ js i j hj]; exact hp
      obtain ⟨w, Hw, rw'⟩ := R.vals j y hjn p hp'
      refine ⟨w, ?_, rw'⟩
      unfold Held at Hw ⊢
      rw [H.hcl _ _ hc] at Hw
      rw [show (compEnvC scope cl Cc C.env).cells.lookup y = some c from hc]
      exact Hw
  owns := fun i y hy p hp => by
    cases i with
    | zero => cases hp
    | succ i =>
      have hy' : fs[i]? = some y := by simpa using hy
      obtain ⟨j, c, hj, hjn, hc⟩ := H.hfs i y hy'
      have hp' : sg σ j = .own p := by rw [← sg_map σ js i j hj]; exact hp
      obtain ⟨Hw, h2, h3⟩ := R.owns j y hjn p hp'
      have hV : mkV js V (i + 1) = V j := by show V (js.getD i 0) = _; rw [List.getD_eq_getElem?_getD, hj]; rfl
      rw [hV]
      refine ⟨?_, h2, h3⟩
      unfold Held at Hw ⊢
      rw [H.hcl _ _ hc] at Hw
      rw [show (compEnvC scope cl Cc C.env).cells.lookup y = some c from hc]
      exact Hw
  oinj := fun i j xs ys hi hj e => by
    cases i with
    | zero => cases hi
    | succ i =>
      cases j with
      | zero => cases hj
      | succ j =>
        have aux : ∀ k zs, sg (mkσ js σ q) (k + 1) = .own zs → ∃ l, js[k]? = some l ∧ sg σ l = .own zs := by
          intro k zs hk
          cases e : js[k]? with
          | none =>
            have : sg (js.map (sg σ)) k = .un := sg_un _ _ (by simpa using e)
            rw [show sg (mkσ js σ q) (k + 1) = sg (js.map (sg σ)) k from rfl, this] at hk; cases hk
          | some l => exact ⟨l, rfl, by rw [← sg_map σ js k l e]; exact hk⟩
        obtain ⟨a, ha, ha'⟩ := aux i xs hi
        obtain ⟨b, hb, hb'⟩ := aux j ys hj
        have e' : V a = V b := by
          have e1 : mkV js V (i + 1) = V a := by show V (js.getD i 0) = _; rw [List.getD_eq_getElem?_getD, ha]; rfl
          have e2 : mkV js V (j + 1) = V b := by show V (js.getD j 0) = _; rw [List.getD_eq_getElem?_getD, hb]; rfl
          rw [← e1, ← e2]; exact e
        have := R.oinj a b xs ys ha' hb' e'
        subst this
        rw [H.hinj i j a ha hb]
end

def compT (Ft : List Sl → PV → (Bool → Prop) → Prop) (Fe : List Sl → PV → (PV → List Sl → Prop) → Prop) : List PV → List PV → List Sl → (List PV → List Sl → Prop) → Prop
  | [], acc, σ, K => K acc σ
  | q :: qs, acc, σ, K => Ft σ q fun c => then' c (Fe σ q fun y σ' => compT Ft Fe qs (acc ++ [y]) σ' K) (compT Ft Fe qs acc σ K)

section
variable {C : Cx} {d : Nat} {scope : Scope} {cl : List (Str × Addr)} {x : Str}

def TJ (C : Cx) (scope : Scope) (cl : List (Str × Addr)) (x : Str) (V : Nat → Addr) (ifs : List Expr) (Ft : List Sl → PV → (Bool → Prop) → Prop) : Prop :=
  ∀ Cc φ σ (s : Shared) G q v m, St C φ → RS C.env C.ns φ V σ s.heap → s.heap.Ns Cc m → m x = some v → Rep φ q v → φ Cc = none → Ft σ q G → ∀ E,
    wpAny (model C.prog C.w) C.A (forIn ifs true fun c r => if r = true then do let ok ← isTrue c (compEnvC scope cl Cc C.env) (eval c (compEnvC scope cl Cc C.env)); pure (ForInStep.yield ok) else pure (ForInStep.yield r)) (fun b s' => ∃ φ', Grow φ s φ' s' ∧ G b) E s
def EJ (C : Cx) (scope : Scope) (cl : List (Str × Addr)) (x : Str) (V : Nat → Addr) (X : Addr → Prop) (elt : Expr) (Fe : List Sl → PV → (PV → List Sl → Prop) → Prop) : Prop :=
  ∀ Cc φ σ (s : Shared) G q v m, St C φ → RS C.env C.ns φ V σ s.heap → s.heap.Ns Cc m → m x = some v → Rep φ q v → φ Cc = none → Fe σ q G → ∀ E,
    wpAny (model C.prog C.w) C.A (eval elt (compEnvC scope cl Cc C.env)) (fun v s' => ∃ φ' σ' y, GrowX X φ s φ' s' ∧ RS C.env C.ns φ' V σ' s'.heap ∧ (∀ b, Vol C.env V σ' b → Vol C.env V σ b) ∧ Rep φ' y v ∧ G y σ') E s

theorem GrowX.trans {X : Addr → Prop} {φ φ' φ'' : Fz} {s s' s'' : Shared} (a : GrowX X φ s φ' s') (b : GrowX X φ' s' φ'' s'') : GrowX X φ s φ'' s'' where
  same := by
    obtain ⟨h, t, rfl⟩ := a.same
    obtain ⟨h2, t2, rfl⟩ := b.same
    exact ⟨_, _, rfl⟩
  sub := fun y o e => b.sub _ _ (a.sub _ _ e)
  keep := fun y o hx e => by
    obtain ⟨e1, e2⟩ := a.keep y o hx e
    obtain ⟨e3, e4⟩ := b.keep y o hx e1
    exact ⟨e3, e4.trans e2⟩
theorem GrowX.but {X : Addr → Prop} {φ φ' : Fz} {s s' : Shared} (a : GrowX X φ s φ' s') {Y : Addr → Prop} {h₁ : Heap} {tk : Nat} (hk : ∀ b o, ¬ Y b → s'.heap.get? b = some o → h₁.get? b = some o) (hY : ∀ b, Y b → s.heap.get? b = none) : GrowX X φ s φ' { s' with heap := h₁, toks := tk } where
  same := by
    obtain ⟨h, t, e⟩ := a.same
    rw [e]; exact ⟨_, _, rfl⟩
  sub := a.sub
  keep := fun b o hx e => by
    obtain ⟨e1, e2⟩ := a.keep b o hx e
    exact ⟨hk b o (fun hy => by rw [hY b hy] at e; cases e) e1, e2⟩

theorem comp_loop (O : C.Ok d) {elt iter : Expr} {px : Pos} {ifs : List Expr} {pos : Pos} {X : Addr → Prop} {Ft : List Sl → PV → (Bool → Prop) → Prop} {Fe : List Sl → PV → (PV → List Sl → Prop) → Prop} {V : Nat → Addr}
    (hk : scope.kind = .function) (hx : scope.names.lookup x = some .local)
    (ht : TJ C scope cl x V ifs Ft) (he : EJ C scope cl x V X elt Fe)
    {I D Cc : Addr} {fp wr : List Addr} {n : Nat} {P : Nat → Value → Prop} {Sw : Nat → Heap → Prop} (W : Walks C.prog C.w C.A I fp wr n P Sw) (hsz : n ≤ 1000000)
    {φ₀ φ : Fz} {σ : List Sl} {s₀ s : Shared} {K : List PV → List Sl → Prop} (S : St C φ) (g : GrowX X φ₀ s₀ φ s) (R : RS C.env C.ns φ V σ s.heap) {Z : Addr → Prop} (hZ : ∀ b, Z b → ∃ o, s₀.heap.get? b = some o) (hv : ∀ b, Vol C.env V σ b → Z b)
    (hX : ∀ b, X b → ∃ o, s₀.heap.get? b = some o) {items : List PV} (hn : items.length = n) (hP : ∀ k v q, P k v → items[k]? = some q → Rep φ q v) (h0 : Sw 0 s.heap)
    (hD : s₀.heap.get? D = none) (hC : s₀.heap.get? Cc = none) (hDC : D ≠ Cc) (hDf : D ∉ fp) (hCf : Cc ∉ fp) (hDφ : φ D = none) (hCφ : φ Cc = none) (hw0 : ∀ b ∈ wr, s₀.heap.get? b = none) (hwφ : ∀ b ∈ wr, φ b = none) (hfX : ∀ b ∈ fp, ¬ X b)
    (hSe : ∀ j h, Sw j h → ∀ b ∈ fp, ∃ o, h.get? b = some o) {m₀ : Str → Option Value} (hl0 : s.heap.PlainList D #[]) (hns0 : s.heap.Ns Cc m₀)
    (hF : compT Ft Fe items [] σ K) {RR : Result → Shared → Prop}
    (hR : ∀ (s' : Shared) φ' σ' acc ys m, GrowX X φ₀ s₀ φ' s' → RS C.env C.ns φ' V σ' s'.heap → (∀ b, Vol C.env V σ' b → Z b) → St C φ' → s'.heap.PlainList D ys → s'.heap.Ns Cc m → φ' D = none → φ' Cc = none → RepL φ' acc ys.toList → acc.length ≤ 1000000 → K acc σ' → RR (.ok .next) s') :
    codeAny (model C.prog C.w) C.A (.compLoop (.ListComp elt [⟨.Name x px, iter, ifs, 0⟩] scope pos) 0 (.ref I) (.ref D) (compEnvC scope cl Cc C.env)) RR s := by
  have nX : ∀ b, s₀.heap.get? b = none → ¬ X b := fun b hb hx => by obtain ⟨o, ho⟩ := hX b hx; rw [hb] at ho; cases ho
  have nV : ∀ b σ', (∀ b, Vol C.env V σ' b → Z b) → s₀.heap.get? b = none → ¬ Vol C.env V σ' b := fun b σ' h hb hx => by obtain ⟨o, ho⟩ := hZ b (h b hx); rw [hb] at ho; cases ho
  refine codeAny_compLoop_tests
    (fun k s' => ∃ φ' σ' j acc ys m, GrowX X φ₀ s₀ φ' s' ∧ RS C.env C.ns φ' V σ' s'.heap ∧ (∀ b, Vol C.env V σ' b → Z b) ∧ (∀ b o, φ b = some o → φ' b = some o) ∧ Sw j s'.heap ∧ s'.heap.PlainList D ys ∧ s'.heap.Ns Cc m ∧
      φ' D = none ∧ φ' Cc = none ∧ (∀ b ∈ wr, φ' b = none) ∧ RepL φ' acc ys.toList ∧ acc.length ≤ j ∧ compT Ft Fe (items.drop j) acc σ' K ∧ j ≤ n ∧ k = n + 1 - j) ?_ (n + 1)
    ⟨φ, σ, 0, [], #[], m₀, g, R, hv, fun _ _ e => e, h0, hl0, hns0, hDφ, hCφ, hwφ, by simp [RepL], Nat.le_refl _, by simpa using hF, Nat.zero_le _, rfl⟩
  rintro k s' ⟨φ', σ', j, acc, ys, m, g', R', hv', sub', hSw, hl, hns, hDφ', hCφ', hwφ', hacc, hal, hF', hj, rfl⟩
  have S' : St C φ' := fun b o e => sub' _ _ (S b o e)
  by_cases hlt : j < n
  · refine W.item j _ _ _ hlt hSw fun v h₁ tk₁ hPv hSw₁ hk₁ => ?_
    have hCw : Cc ∉ wr := fun h => hCf (W.sub _ h)
    have hDw : D ∉ wr := fun h => hDf (W.sub _ h)
    have hns₁ : h₁.Ns Cc m := by obtain ⟨o, es, ep, ho, r⟩ := hns; exact ⟨o, es, ep, hk₁ _ _ hCw ho, r⟩
    refine wpAny_assign_Name (wpAny_storeName_local (lookup_relabel_local hx) hns₁ (fun h₂ hns₂ hs₂ => ?_) (by simp [compEnvC, relabel, hk]))
    have hit : items[j]? = some items[j] := by simp [hn, hlt]
    have rq := Rep.mono sub' _ _ (hP j v _ hPv hit)
    have hk₂ : ∀ b o, ¬ (b ∈ wr ∨ b = Cc) → s'.heap.get? b = some o → h₂.get? b = some o := fun b o hb e => (hs₂.2 b (fun e' => hb (.inr e'))).trans (hk₁ b o (fun e' => hb (.inl e')) e)
    have hY0 : ∀ b, (b ∈ wr ∨ b = Cc) → s₀.heap.get? b = none := fun b hb => by
      rcases hb with hb | rfl
      · exact hw0 b hb
      · exact hC
    have hYφ : ∀ b, (b ∈ wr ∨ b = Cc) → φ' b = none := fun b hb => by
      rcases hb with hb | rfl
      · exact hwφ' b hb
      · exact hCφ'
    have g₂ := g'.but (tk := tk₁ + 1) (Y := fun b => b ∈ wr ∨ b = Cc) hk₂ hY0
    have R₂ := R'.keepBut (X := fun b => b ∈ wr ∨ b = Cc) hk₂ hYφ (fun b hb => nV b _ hv' (hY0 b hb))
    have hSw₂ : Sw (j + 1) h₂ := W.frame _ _ _ hSw₁ fun b hb o e => (hs₂.2 b (fun e' => hCf ((show b = Cc from e') ▸ hb))).trans e
    have hl₂ : h₂.PlainList D ys := by
      obtain ⟨c, ho⟩ := hl
      exact ⟨c, hk₂ D _ (fun h => h.elim hDw hDC) ho⟩
    have hd' : items.drop j = items[j] :: items.drop (j + 1) := by rw [List.drop_eq_getElem_cons (by lia)]
    rw [hd', compT] at hF'
    refine wpAny_mono (ht Cc φ' σ' { s' with heap := h₂, toks := tk₁ + 1 } _ _ v _ S' R₂ hns₂ (by simp) rq hCφ' hF' _) (fun b s₃ h₃ => ?_) fun _ _ x => x
    obtain ⟨φ₃, g₃, hb⟩ := h₃
    have R₃ : RS C.env C.ns φ₃ V σ' s₃.heap := R₂.grow g₃
    have gg₃ := g₂.trans g₃.toX
    have old₃ : ∀ b o, h₂.get? b = some o → s₃.heap.get? b = some o ∧ φ₃ b = φ' b := fun b o e => g₃.keep b o e
    have hfe₂ : ∀ b ∈ fp, ∃ o, h₂.get? b = some o := hSe _ _ hSw₂
    have hSw₃ : Sw (j + 1) s₃.heap := W.frame _ _ _ hSw₂ fun b hb o e => (old₃ b o e).1
    have hl₃ : s₃.heap.PlainList D ys := by obtain ⟨c, ho⟩ := hl₂; exact ⟨c, (old₃ _ _ ho).1⟩
    have hns₃ := hns₂.keeps fun b o e => (old₃ b o e).1
    have hDφ₃ : φ₃ D = none := by obtain ⟨c, ho⟩ := hl₂; exact ((old₃ _ _ ho).2).trans hDφ'
    have hCφ₃ : φ₃ Cc = none := by obtain ⟨o, _, _, ho, _⟩ := hns₂; exact ((old₃ _ _ ho).2).trans hCφ'
    have hwφ₃ : ∀ b ∈ wr, φ₃ b = none := fun b hb => by obtain ⟨o, ho⟩ := hfe₂ b (W.sub b hb); exact ((old₃ _ _ ho).2).trans (hwφ' b hb)
    have sub₃ : ∀ b o, φ b = some o → φ₃ b = some o := fun b o e => g₃.sub _ _ (sub' _ _ e)
    have S₃ : St C φ₃ := fun b o e => sub₃ _ _ (S b o e)
    unfold then' at hb
    cases b with
    | false =>
      simp only [Bool.false_eq_true, if_false]
      refine ⟨n + 1 - (j + 1), by lia, φ₃, σ', j + 1, acc, ys, _, gg₃, R₃, hv', sub₃, hSw₃, hl₃, hns₃, hDφ₃, hCφ₃, hwφ₃, RepL.mono g₃.sub _ _ hacc, by lia, hb.2 rfl, hlt, rfl⟩
    | true =>
      simp only [if_true]
      refine wpAny_mono (he Cc φ₃ σ' s₃ _ _ v _ S₃ R₃ hns₃ (by simp) (Rep.mono g₃.sub _ _ rq) hCφ₃ (hb.1 rfl) _) (fun y s₄ h₄ => ?_) fun _ _ x => x
      obtain ⟨φ₄, σ₄, z, g₄, R₄, hv₄, rz, hz⟩ := h₄
      have old₄ : ∀ b o, ¬ X b → s₃.heap.get? b = some o → s₄.heap.get? b = some o ∧ φ₄ b = φ₃ b := fun b o hb e => g₄.keep b o hb e
      have hlen := hacc.length
      have hl₄ : s₄.heap.PlainList D ys := by obtain ⟨c, ho⟩ := hl₃; exact ⟨c, (old₄ _ _ (nX _ hD) ho).1⟩
      refine wpAny_list_append_plain (hsz := by rw [sizeLine_eq]; simp only [Array.length_toList] at hlen; lia) hl₄ fun h₅ hl₅ hs₅ => ?_
      obtain ⟨m₅, hns₅⟩ : ∃ m, h₅.Ns Cc m := by obtain ⟨o, es, ep, ho, r⟩ := hns₃; exact ⟨_, o, es, ep, (hs₅.2 Cc (Ne.symm hDC)).trans (old₄ _ _ (nX _ hC) ho).1, r⟩
      have hDφ₄ : φ₄ D = none := by obtain ⟨c, ho⟩ := hl₃; exact ((old₄ _ _ (nX _ hD) ho).2).trans hDφ₃
      have hv₄' : ∀ b, Vol C.env V σ₄ b → Z b := fun b hb => hv' b (hv₄ b hb)
      have hk₅ : ∀ b o, ¬ b = D → s₄.heap.get? b = some o → h₅.get? b = some o := fun b o hb e => (hs₅.2 b hb).trans e
      have R₅ := R₄.keepBut (X := fun b => b = D) hk₅ (fun b hb => by rw [hb]; exact hDφ₄) (fun b hb => nV b _ hv₄' (by rw [hb]; exact hD))
      have g₅ := (gg₃.trans g₄).but (tk := s₄.toks) (Y := fun b => b = D) hk₅ (fun b hb => by rw [hb]; exact hD)
      refine ⟨n + 1 - (j + 1), by lia, φ₄, σ₄, j + 1, acc ++ [z], ys.push y, m₅, g₅, R₅, hv₄', fun b o e => g₄.sub _ _ (sub₃ _ _ e), ?_, hl₅, ?_, hDφ₄, ?_, ?_, ?_, by simp; lia, hz, hlt, rfl⟩
      · exact W.frame _ _ _ hSw₃ fun b hb o e => (hs₅.2 b (fun e' => hDf (by rw [← e']; exact hb))).trans (old₄ b o (hfX b hb) e).1
      · exact hns₅
      · obtain ⟨o, _, _, ho, _⟩ := hns₃; exact ((old₄ _ _ (nX _ hC) ho).2).trans hCφ₃
      · intro b hb
        obtain ⟨o, ho⟩ := hfe₂ b (W.sub b hb)
        exact ((old₄ _ _ (nX _ (hw0 b hb)) (old₃ _ _ ho).1).2).trans (hwφ₃ b hb)
      · rw [Array.toList_push]
        refine RepL.append (RepL.mono (fun b o e => g₄.sub _ _ (g₃.sub _ _ e)) _ _ hacc) ?_
        rw [RepL]; exact ⟨y, [], rfl, rz, by rw [RepL]⟩
  · have hin : j = n := by lia
    subst hin
    refine W.done _ _ _ hSw fun h₁ tk₁ hk₁ => ?_
    have hCw : Cc ∉ wr := fun h => hCf (W.sub _ h)
    have hDw : D ∉ wr := fun h => hDf (W.sub _ h)
    rw [← hn, List.drop_length, compT] at hF'
    refine hR _ φ' σ' acc ys m (g'.but (tk := tk₁) (Y := fun b => b ∈ wr) hk₁ hw0) (R'.keepBut (X := fun b => b ∈ wr) hk₁ hwφ' (fun b hb => nV b _ hv' (hw0 b hb))) hv' S' ?_ ?_ hDφ' hCφ' hacc (by lia) hF'
    · obtain ⟨c, ho⟩ := hl; exact ⟨c, hk₁ _ _ hDw ho⟩
    · obtain ⟨o, es, ep, ho, r⟩ := hns; exact ⟨o, es, ep, hk₁ _ _ hCw ho, r⟩
end
end Mine

open PySem PySem.Calls PyProof.Rows
set_option Elab.async false
namespace Mine

section
variable {C : Cx} {d : Nat} {scope : Scope} {cl : List (Str × Addr)} {x : Str} {fs : List Str} {js : List Nat}

theorem TJ.nil {V : Nat → Addr} : TJ C scope cl x V [] (fun _ _ G => G true) := by
  intro Cc φ σ s G q v m S R hn hm hr hφ hF E
  exact wpAny_tests_nil ⟨φ, Grow.refl R.sub, hF⟩
theorem TJ.one (O : C.Ok d) (H : Free C scope cl x fs js) {c : Expr} {Ft : BT} (ht : ∀ Cc, (inn C scope cl Cc x fs).Ok d → STr (inn C scope cl Cc x fs) c Ft) {V : Nat → Addr} : TJ C scope cl x V [c] (fun σ q G => Ft (mkσ js σ q) G) := by
  intro Cc φ σ s G q v m S R hn hm hr hφ hF E
  exact wpAny_tests_one (ht Cc (inner_ok O H Cc) φ (mkV js V) (mkσ js σ q) s G S (inner_rs H R hn hm hr hφ) hF E)
theorem EJ.pure (O : C.Ok d) (H : Free C scope cl x fs js) {e : Expr} {Fe : ET} (he : ∀ Cc, (inn C scope cl Cc x fs).Ok d → SE (inn C scope cl Cc x fs) e Fe) {V : Nat → Addr} : EJ C scope cl x V (fun _ => False) e (fun σ q G => Fe (mkσ js σ q) fun y => G y σ) := by
  intro Cc φ σ s G q v m S R hn hm hr hφ hF E
  refine wpAny_mono (he Cc (inner_ok O H Cc) φ (mkV js V) (mkσ js σ q) s _ S (inner_rs H R hn hm hr hφ) hF E) (fun w s₁ h₁ => ?_) fun _ _ x => x
  obtain ⟨φ₁, y, g, ry, hG⟩ := h₁
  exact ⟨φ₁, σ, y, g.toX, R.grow g, fun b h => h, ry, hG⟩

def SN (C : Cx) (i : Nat) (e : Expr) (F : List Sl → (PV → PV → Prop) → Prop) : Prop :=
  ∀ φ V σ s G, St C φ → RS C.env C.ns φ V σ s.heap → F σ G → ∀ E,
    wpAny (model C.prog C.w) C.A (eval e C.env) (fun v s' => (∃ p, sg σ i = .own p) ∧ ∃ φ' y q us m, GrowX (· = V i) φ s φ' s' ∧ (∀ b o, φ' b = some o → s'.heap.get? b = some o) ∧ φ' (V i) = none ∧ s'.heap.get? (V i) = some (lobj us m) ∧ Cont φ' q us ∧ Rep φ' y v ∧ G y q) E s

def q_SN_call (P : PM) (F : LT) (i : Nat) : List Sl → (PV → PV → Prop) → Prop := fun σ G => match sg σ i with | .own q => (F σ fun xs => P q xs fun r q' => G r q') | _ => False
theorem zck (P : PM) (F : LT) (i : Nat) (σ : List Sl) (G : PV → PV → Prop) : q_SN_call P F i σ G = (match sg σ i with | .own q => (F σ fun xs => P q xs fun r q' => G r q') | _ => False) := rfl
theorem SN.call (O : C.Ok d) {a : Addr} {P : PM} (hf : FnOkM C.prog C.w C.h0 d a P) {rest : List Expr} {F : LT} (i : Nat) (x f : Str) (hs : SEs C rest F) (p fp pos : Pos) (hi : C.ns[i]? = some x) (hk : C.env.kindOf f = some .globalImplicit) (hm : C.mg f = some (.ref a))
    (hd : (x == ("__debug__" : Str)) = false := by decide) (hdf : (f == ("__debug__" : Str)) = false := by decide) :
    SN C i (.Call (.Name f fp) (.Name x p :: rest) [] pos) (q_SN_call P F i) := by
  intro φ V σ s G S R hF E
  unfold q_SN_call at hF
  split at hF
  · rename_i q hq
    obtain ⟨⟨o, fd, ho, hdat⟩, hc⟩ := hf
    refine wpAny_CallName (wpAny_gname O S R.sub hk hm ?_ hdf)
    obtain ⟨Hx, hφ, vs, n, hv, c⟩ := R.owns i x hi q hq
    refine callWith_function (o := o) (fd := fd) (wpAny_args rfl (wpAny_items_cons (wpAny_Name (wpAny_held O hi Hx ?_) hd)))
    refine wpAny_mono (hs φ V σ s _ S R hF pos E) (fun us s₁ h₁ => ?_) fun _ _ x => x
    obtain ⟨φ₁, xs, g₁, r, _, hP⟩ := h₁
    refine ⟨⟨g₁.here _ _ (g₁.sub _ _ (S _ _ ho)), hdat⟩, ?_⟩
    have R₁ := R.grow g₁
    refine wpAny_mono (hc C.A φ₁ s₁ (V i) vs n q us xs _ O.room (S.grow g₁) g₁.here (((g₁.keep _ _ hv).2).trans hφ) (g₁.keep _ _ hv).1 (c.mono g₁.sub) r hP E) (fun v s₂ h₂ => ?_) fun _ _ x => x
    obtain ⟨φ₂, r₂, q₂, us₂, m₂, g₂, hh₂, hn₂, hv₂, c₂, rr₂, hG⟩ := h₂
    exact ⟨⟨q, hq⟩, φ₂, r₂, q₂, us₂, m₂, g₁.toX.trans g₂, hh₂, hn₂, hv₂, c₂, rr₂, hG⟩
  · exact hF.elim
def q_SN_add (F : List Sl → (PV → PV → Prop) → Prop) (z : Int) : List Sl → (PV → PV → Prop) → Prop := fun σ G => F σ fun b q => addT (.int z) b fun r => G r q
theorem zcl (F : List Sl → (PV → PV → Prop) → Prop) (z : Int) (σ : List Sl) (G : PV → PV → Prop) : q_SN_add F z σ G = (F σ fun b q => addT (.int z) b fun r => G r q) := rfl
theorem SN.add {i : Nat} {e : Expr} {F : List Sl → (PV → PV → Prop) → Prop} (z : Int) (k : Nat) (zp : Pos) (h : SN C i e F) (pos : Pos) : SN C i (.BinOp (.Constant (.int z) k zp) .Add e pos) (q_SN_add F z) := by
  intro φ V σ s G S R hF E
  refine wpAny_BinOp (wpAny_Constant_int ?_)
  have g₀ := Grow.tok R.sub (s.toks + 1)
  refine wpAny_mono (h φ V σ { s with toks := s.toks + 1 } _ S (R.grow g₀) hF E) (fun v s₁ h₁ => ?_) fun _ _ x => x
  obtain ⟨hp, φ₁, y, q, us, m, g₁, hh, hn, hv, c, ry, hT⟩ := h₁
  refine wpAny_mono (add_ok C.prog C.w C.A φ₁ s₁ (.int z) y _ _ _ E hh (rep_int_mk _ _ _) ry hT) (fun w s₂ h₂ => ?_) fun _ _ x => x
  obtain ⟨φ₂, y₂, g₂, ry₂, hG⟩ := h₂
  refine ⟨hp, φ₂, y₂, q, us, m, (g₀.toX.trans g₁).trans g₂.toX, g₂.here, ((g₂.keep _ _ hv).2).trans hn, (g₂.keep _ _ hv).1, c.mono g₂.sub, ry₂, hG⟩

theorem EJ.change (O : C.Ok d) (H : Free C scope cl x fs js) {e : Expr} {Fn : List Sl → (PV → PV → Prop) → Prop} (k j : Nat) (hkj : js[k]? = some j) (he : ∀ Cc, (inn C scope cl Cc x fs).Ok d → SN (inn C scope cl Cc x fs) (k + 1) e Fn) {V : Nat → Addr} :
    EJ C scope cl x V (· = V j) e (fun σ q G => Fn (mkσ js σ q) fun y p => G y (sp σ j (.own p))) := by
  intro Cc φ σ s G q v m S R hn hm hr hφ hF E
  refine wpAny_mono (he Cc (inner_ok O H Cc) φ (mkV js V) (mkσ js σ q) s _ S (inner_rs H R hn hm hr hφ) hF E) (fun w s₁ h₁ => ?_) fun _ _ x => x
  obtain ⟨⟨p, hp⟩, φ₁, y, p', us, mm, g, hh, hnn, hv, c, ry, hG⟩ := h₁
  have hV : mkV js V (k + 1) = V j := by show V (js.getD k 0) = _; rw [List.getD_eq_getElem?_getD, hkj]; rfl
  rw [hV] at g hnn hv
  have hp' : sg σ j = .own p := by rw [← sg_map σ js k j hkj]; exact hp
  have T := R.growBut hp' g hh hnn hv c
  refine ⟨φ₁, _, y, g, T.rs, fun b hb => ?_, ry, hG⟩
  have hσ := sg_lt hp'
  rcases hb with hb | hb | ⟨l, xs, hl, hb⟩
  · exact .inl hb
  · exact .inr (.inl hb)
  · by_cases hij : j = l
    · subst hij; exact .inr (.inr ⟨j, p, hp', hb⟩)
    · rw [sg_sp_ne _ _ _ _ hij] at hl
      exact .inr (.inr ⟨l, xs, hl, hb⟩)

theorem comp_block (O : C.Ok d) {elt iter : Expr} {px : Pos} {ifs : List Expr} {pos : Pos} {X : Addr → Prop} {Ft : List Sl → PV → (Bool → Prop) → Prop} {Fe : List Sl → PV → (PV → List Sl → Prop) → Prop} {V : Nat → Addr}
    (hcell : ∀ z ∈ scope.names, z.2 ≠ .cell) (hk : scope.kind = .function) (hx : scope.names.lookup x = some .local)
    (ht : TJ C scope cl x V ifs Ft) (he : EJ C scope cl x V X elt Fe)
    {I : Addr} {fp wr : List Addr} {n : Nat} {P : Nat → Value → Prop} {Sw : Nat → Heap → Prop} (W : Walks C.prog C.w C.A I fp wr n P Sw) (hsz : n ≤ 1000000)
    {φ₀ φ : Fz} {σ : List Sl} {s₀ s : Shared} {K : List PV → List Sl → Prop} (S : St C φ) (g : GrowX X φ₀ s₀ φ s) (R : RS C.env C.ns φ V σ s.heap) {Z : Addr → Prop} (hZ : ∀ b, Z b → ∃ o, s₀.heap.get? b = some o) (hv : ∀ b, Vol C.env V σ b → Z b)
    (hX : ∀ b, X b → ∃ o, s₀.heap.get? b = some o) (h02 : ∀ b o, s₀.heap.get? b = some o → ∃ o', s.heap.get? b = some o') {items : List PV} (hn : items.length = n) (hP : ∀ k v q, P k v → items[k]? = some q → Rep φ q v) (h0 : Sw 0 s.heap)
    (hfp : ∀ b ∈ fp, b < s.heap.objs.size) (hw0 : ∀ b ∈ wr, s₀.heap.get? b = none) (hwφ : ∀ b ∈ wr, φ b = none) (hfX : ∀ b ∈ fp, ¬ X b)
    (hSe : ∀ j h, Sw j h → ∀ b ∈ fp, ∃ o, h.get? b = some o)
    (hF : compT Ft Fe items [] σ K) {RR : Value → Addr → Result → Shared → Prop} {E : Value → Shared → Prop}
    (hR : ∀ D Cc (s' : Shared) φ' σ' acc ys m, D ≠ Cc → s₀.heap.get? D = none → s₀.heap.get? Cc = none → GrowX X φ₀ s₀ φ' s' → RS C.env C.ns φ' V σ' s'.heap → (∀ b, Vol C.env V σ' b → Z b) → St C φ' → s'.heap.PlainList D ys → s'.heap.Ns Cc m → φ' D = none → φ' Cc = none → RepL φ' acc ys.toList → acc.length ≤ 1000000 → K acc σ' → RR (.ref D) Cc (.ok .next) s') :
    wpAny (model C.prog C.w) C.A (newList []) (fun acc s₃ => wpAny (model C.prog C.w) C.A (newFunctionEnv scope C.env.globals cl [] C.env.qual none .none (some C.env)) (fun cenv s₄ =>
      codeAny (model C.prog C.w) C.A (.compStart (.ListComp elt [⟨.Name x px, iter, ifs, 0⟩] scope pos) 0 (.ref I) acc { cenv with scope := relabel scope C.env }) (RR acc cenv.locals) s₄) E s₃) E s := by
  refine wpAny_newObj_type (wpAny_newFunctionEnv hcell (by intro y hy; simp at hy) (fun h₁ hns₁ hsb₁ => ?_) hk)
  dsimp only at hns₁ hsb₁ ⊢
  generalize hH2 : s.heap.push { cls := .type "list", dict := none, data := .seq ([] : List Value).toArray } = H2 at hns₁ hsb₁ ⊢
  have hC : H2.objs.size = s.heap.objs.size + 1 := by rw [← hH2, Heap.size_push]
  have hDC : s.heap.objs.size ≠ H2.objs.size := by rw [hC]; exact Nat.ne_of_lt (Nat.lt_succ_self _)
  have below : ∀ b, b < s.heap.objs.size → b ≠ H2.objs.size ∧ b ≠ s.heap.objs.size := fun b hb => ⟨by rw [hC]; exact Nat.ne_of_lt (Nat.lt_succ_of_lt hb), Nat.ne_of_lt hb⟩
  have hDf : s.heap.objs.size ∉ fp := fun hm => Nat.lt_irrefl _ (hfp _ hm)
  have hCf : H2.objs.size ∉ fp := fun hm => by have := hfp _ hm; rw [hC] at this; exact Nat.lt_irrefl _ (Nat.lt_of_succ_lt this)
  have old : ∀ b o, s.heap.get? b = some o → h₁.get? b = some o := fun b o e => hsb₁.extBut b o (below b (Heap.lt_size e)).1 (Heap.get?_push_of_some _ (hH2 ▸ Heap.get?_push_of_some _ e))
  have hacc : h₁.PlainList s.heap.objs.size #[] := ⟨_, hsb₁.extBut _ _ hDC (Heap.get?_push_of_some _ (hH2 ▸ Heap.get?_push_size _ rfl))⟩
  have hst₁ : Sw 0 h₁ := W.frame _ _ _ h0 fun b _ o e => old b o e
  have fresh : ∀ a, s.heap.objs.size ≤ a → s.heap.get? a = none := fun a ha => by
    cases e : s.heap.get? a with
    | none => rfl
    | some o' => exact absurd (Heap.lt_size e) (Nat.not_lt.mpr ha)
  have fresh0 : ∀ a, s.heap.objs.size ≤ a → s₀.heap.get? a = none := fun a ha => by
    cases e : s₀.heap.get? a with
    | none => rfl
    | some o' => obtain ⟨o, ho⟩ := h02 _ _ e; rw [fresh a ha] at ho; cases ho
  have freshφ : ∀ a, s.heap.objs.size ≤ a → φ a = none := fun a ha => by
    cases e : φ a with
    | none => rfl
    | some o' => have ho := R.sub _ _ e; rw [fresh a ha] at ho; cases ho
  have hCle : s.heap.objs.size ≤ H2.objs.size := by rw [hC]; exact Nat.le_succ _
  have loop : ∀ s₃ : Shared, s₃ = { s with heap := h₁, toks := s.toks + ([] : List (Str × Value)).length } →
      codeAny (model C.prog C.w) C.A (.compLoop (.ListComp elt [⟨.Name x px, iter, ifs, 0⟩] scope pos) 0 (.ref I) (.ref s.heap.objs.size) (compEnvC scope cl H2.objs.size C.env))
        (RR (.ref s.heap.objs.size) H2.objs.size) s₃ := by
    rintro s₃ rfl
    have gg : Grow φ s φ { s with heap := h₁, toks := s.toks + ([] : List (Str × Value)).length } := Grow.heap R.sub old _
    refine comp_loop O hk hx ht he W hsz S (g.trans gg.toX) (R.grow gg) hZ hv hX hn hP hst₁ (fresh0 _ (Nat.le_refl _)) (fresh0 _ hCle) hDC hDf hCf (freshφ _ (Nat.le_refl _)) (freshφ _ hCle) hw0 hwφ hfX hSe hacc hns₁ hF ?_
    intro s' φ' σ' acc ys m a1 a2 a3 a4 a5 a6 a7 a8 a9 a10 a11
    exact hR _ _ s' φ' σ' acc ys m hDC (fresh0 _ (Nat.le_refl _)) (fresh0 _ hCle) a1 a2 a3 a4 a5 a6 a7 a8 a9 a10 a11
  exact codeAny_compStart_list (loop _ rfl) (W.self 0 _ _ _ hst₁ (loop _ rfl))
end
end Mine

open PySem PySem.Calls PyProof.Rows
set_option Elab.async false
set_option maxHeartbeats 1000000
namespace Mine

def resT (acc : List PV) (G : PV → Prop) : Prop := match intsOf acc with | some L => G (.ints L) | none => G (.list acc)

theorem rep_pack {φ : Fz} {acc : List PV} {ys : Array Value} {D : Addr} {n : Nat} {G : PV → Prop} (hr : RepL φ acc ys.toList) (hl : acc.length ≤ 1000000) (hD : φ D = none) (hG : resT acc G) : ∃ p, Rep (fzPut φ D (lobj ys n)) p (.ref D) ∧ G p := by
  have sub : ∀ b o, φ b = some o → fzPut φ D (lobj ys n) b = some o := fun b o e => by
    unfold fzPut
    rw [if_neg (fun h => by rw [h, hD] at e; cases e)]; exact e
  unfold resT at hG
  split at hG
  · rename_i L hL
    obtain ⟨a, b⟩ := intsOf_are hL hr
    refine ⟨.ints L, ?_, hG⟩
    rw [Rep]
    exact ⟨D, ys, n, rfl, by simp [fzPut], a, by lia⟩
  · refine ⟨.list acc, ?_, hG⟩
    rw [Rep]
    exact ⟨D, ys, n, rfl, by simp [fzPut], RepL.mono sub _ _ hr, hl⟩

section
variable {C : Cx} {d : Nat} {scope : Scope} {cl : List (Str × Addr)} {x : Str} {fs : List Str} {js : List Nat}

def q_SE_comp (Fi : ET) (Ft : List Sl → PV → (Bool → Prop) → Prop) (Fe : List Sl → PV → (PV → List Sl → Prop) → Prop) : ET := fun σ G => Fi σ fun q => itemsT q fun items => compT Ft Fe items [] σ fun acc _ => resT acc G
theorem zcm (Fi : ET) (Ft : List Sl → PV → (Bool → Prop) → Prop) (Fe : List Sl → PV → (PV → List Sl → Prop) → Prop) (σ : List Sl) (G : PV → Prop) : q_SE_comp Fi Ft Fe σ G = (Fi σ fun q => itemsT q fun items => compT Ft Fe items [] σ fun acc _ => resT acc G) := rfl
theorem SE.comp (O : C.Ok d) (hclos : closureFor scope C.env = pure cl) (hcell : ∀ z ∈ scope.names, z.2 ≠ .cell) (hk : scope.kind = .function) (hnames : ∀ z ∈ scope.names, z.2 = .local → scope.names.lookup z.1 = some .local) (hx : scope.names.lookup x = some .local)
    {elt iter : Expr} {px : Pos} {ifs : List Expr} {Fi : ET} {Ft : List Sl → PV → (Bool → Prop) → Prop} {Fe : List Sl → PV → (PV → List Sl → Prop) → Prop} (hiter : SE C iter Fi) (ht : ∀ V, TJ C scope cl x V ifs Ft) (he : ∀ V, EJ C scope cl x V (fun _ => False) elt Fe) (pos : Pos)
    (hs : ∀ v, foldedSetIterable iter C.env v = pure v := by intro _; rfl) :
    SE C (.ListComp elt [⟨.Name x px, iter, ifs, 0⟩] scope pos) (q_SE_comp Fi Ft Fe) := by
  intro φ V σ s G S R hF E
  rw [eval_ListComp]
  refine wpAny_comprehension_free (use := none) rfl hs hclos hk hnames (wpAny_mono (hiter φ V σ s _ S R hF _) (fun xv s₁ h₁ => ?_) fun _ _ x => x)
  obtain ⟨φ₁, q, g₁, rq, hI⟩ := h₁
  have R₁ := R.grow g₁
  have core : ∀ (a : Addr) (vs : Array Value) (n : Nat) (items : List PV), φ₁ a = some (lobj vs n) → items.length = vs.size → vs.size ≤ 1000000 → (∀ (k : Nat) (v : Value) (q : PV), vs[k]? = some v → items[k]? = some q → Rep φ₁ q v) → compT Ft Fe items [] σ (fun acc _ => resT acc G) →
      wpAny (model C.prog C.w) C.A (pyIter (.ref a)) (fun it s₂ => wpAny (model C.prog C.w) C.A (newList []) (fun acc s₃ => wpAny (model C.prog C.w) C.A (newFunctionEnv scope C.env.globals cl [] C.env.qual none .none (some C.env)) (fun cenv s₄ =>
      codeAny (model C.prog C.w) C.A (.compStart (.ListComp elt [⟨.Name x px, iter, ifs, 0⟩] scope pos) 0 it acc { cenv with scope := relabel scope C.env }) (compPost (model C.prog C.w) C.A E none (fun v s' => ∃ φ' p, Grow φ s φ' s' ∧ Rep φ' p v ∧ G p) acc cenv.locals) s₄) E s₃) E s₂) E s₁ := by
    intro a vs n items ha hlen hsz hrep hN
    have hl : s₁.heap.IsList a vs := ⟨_, g₁.here _ _ ha, rfl, n, rfl⟩
    have alt : a < s₁.heap.objs.size := Heap.lt_size (g₁.here _ _ ha)
    have hIn := size_none s₁.heap
    have hIφ : φ₁ s₁.heap.objs.size = none := by
      cases e : φ₁ s₁.heap.objs.size with
      | none => rfl
      | some o => rw [g₁.here _ _ e] at hIn; cases hIn
    refine wpAny_pyIter_list hl ?_
    have g₂ : Grow φ₁ s₁ φ₁ { s₁ with heap := s₁.heap.push { cls := .type "list_iterator", data := .fields #[.ref a, .int 0 0] } } := Grow.heap g₁.here (fun b o e => Heap.get?_push_of_some _ e) _
    refine comp_block O hcell hk hx (ht V) (he V) (Walks.list O.room.1 s₁.heap.objs.size a (Nat.ne_of_lt alt) vs) hsz (S.grow g₁) g₂.toX (R₁.grow g₂) (Z := fun b => Vol C.env V σ b) (fun b hb => R₁.vol_some hb) (fun b hb => hb) (fun b hb => hb.elim) (fun b o e => ⟨o, (g₂.keep b o e).1⟩) hlen (fun k v q hk hq => hrep k v q hk hq) ⟨⟨_, Heap.get?_push_size _ rfl, rfl, rfl⟩, hl.push _⟩ ?_ ?_ ?_ (fun b _ h => h) ?_ hN ?_
    · intro b hb
      simp only [List.mem_cons, List.not_mem_nil, or_false] at hb
      rw [Heap.size_push]
      rcases hb with rfl | rfl
      · exact Nat.lt_succ_self _
      · exact Nat.lt_succ_of_lt alt
    · intro b hb
      simp only [List.mem_cons, List.not_mem_nil, or_false] at hb
      subst hb
      exact hIn
    · intro b hb
      simp only [List.mem_cons, List.not_mem_nil, or_false] at hb
      subst hb
      exact hIφ
    · rintro j h ⟨⟨o, ho, _⟩, ⟨o', ho', _⟩⟩ b hb
      simp only [List.mem_cons, List.not_mem_nil, or_false] at hb
      rcases hb with rfl | rfl
      · exact ⟨o, ho⟩
      · exact ⟨o', ho'⟩
    · intro D Cc s' φ' σ' acc ys m hDC hD0 hC0 g' R' _ S' hl' hns' hDφ hCφ hacc hal hG
      refine ⟨m, hns', fun h' hs' => ?_⟩
      obtain ⟨c, hDo⟩ := hl'
      obtain ⟨p, rp, gp⟩ := rep_pack (n := c) hacc hal hDφ hG
      refine ⟨fzPut φ' D (lobj ys c), p, g₁.trans ⟨?_, fun b o e => ?_, fun b o e => ?_, fun b o e => ?_⟩, rp, gp⟩
      · obtain ⟨hh, t, e⟩ := g'.same
        rw [e]; exact ⟨_, _, rfl⟩
      · have e1 := g'.sub _ _ e
        unfold fzPut
        rw [if_neg (fun h => by rw [h, hDφ] at e1; cases e1)]; exact e1
      · unfold fzPut at e
        by_cases hb : b = D
        · rw [if_pos hb] at e; cases e
          rw [hb]
          exact (hs'.2 D hDC).trans hDo
        · rw [if_neg hb] at e
          exact (hs'.2 b (fun h => by rw [h, hCφ] at e; cases e)).trans (R'.sub _ _ e)
      · have hbD : b ≠ D := fun h => by rw [h, hD0] at e; cases e
        have hbC : b ≠ Cc := fun h => by rw [h, hC0] at e; cases e
        obtain ⟨e1, e2⟩ := g'.keep b o (fun h => h) e
        refine ⟨(hs'.2 b hbC).trans e1, ?_⟩
        unfold fzPut
        rw [if_neg hbD]; exact e2
  unfold itemsT at hI
  split at hI
  · rename_i L
    obtain ⟨a, vs, n, rfl, ha, hi', hl⟩ := rep_ints rq
    have hlen := hi'.length
    simp only [Array.length_toList] at hlen
    refine core a vs n _ ha (by simp [hlen]) (by lia) (fun k v q hk hq => ?_) hI
    rw [List.getElem?_map] at hq
    cases e : L[k]? with
    | none => rw [e] at hq; cases hq
    | some z =>
      rw [e] at hq
      cases hq
      obtain ⟨t, et⟩ := hi'.get k z e
      rw [show vs[k]? = some (.int z t) by simpa using et] at hk
      cases hk
      rw [Rep]; exact ⟨t, rfl⟩
  · rename_i xs
    obtain ⟨a, vs, n, rfl, ha, hr, hl⟩ := rep_list rq
    have hlen := hr.length
    simp only [Array.length_toList] at hlen
    refine core a vs n _ ha (by lia) (by lia) (fun k v q hk hq => ?_) hI
    obtain ⟨v', e, r⟩ := hr.get hq
    rw [show vs[k]? = some v' by simpa using e] at hk
    cases hk
    exact r
  · exact hI.elim

theorem RS.put {env : Env} {ns : List Str} {φ : Fz} {V : Nat → Addr} {σ : List Sl} {h : Heap} (R : RS env ns φ V σ h) {D : Addr} {o : Obj} (hD : φ D = none) (ho : h.get? D = some o) (hV : ¬ Vol env V σ D) : RS env ns (fzPut φ D o) V σ h := by
  have sub : ∀ b o', φ b = some o' → fzPut φ D o b = some o' := fun b o' e => by
    unfold fzPut
    rw [if_neg (fun h => by rw [h, hD] at e; cases e)]; exact e
  have ne : ∀ b, φ b = none → b ≠ D → fzPut φ D o b = none := fun b hb hne => by unfold fzPut; rw [if_neg hne]; exact hb
  refine ⟨fun b o' e => ?_, R.len, R.nsx, ne _ R.loc (fun e => hV (.inl e.symm)), fun x c hc => ⟨ne _ (R.cel x c hc).1 (fun e => hV (.inr (.inl ⟨x, by rw [← e]; exact hc⟩))), (R.cel x c hc).2⟩, R.cinj, fun i x hx p hp => ?_, fun i x hx p hp => ?_, R.oinj⟩
  · unfold fzPut at e
    by_cases hb : b = D
    · rw [if_pos hb] at e; cases e; rw [hb]; exact ho
    · rw [if_neg hb] at e; exact R.sub _ _ e
  · obtain ⟨v, H, r⟩ := R.vals i x hx p hp
    exact ⟨v, H, Rep.mono sub _ _ r⟩
  · obtain ⟨H, h2, vs, n, h3, h4⟩ := R.owns i x hx p hp
    exact ⟨H, ne _ h2 (fun e => hV (.inr (.inr ⟨i, p, hp, e⟩))), vs, n, h3, h4.mono sub⟩

def q_SS_assignComp (F : List Sl → (PV → PV → Prop) → Prop) (Fe : List Sl → PV → (PV → List Sl → Prop) → Prop) (j : Nat) (i : Nat) : Tr := fun σ G => F σ fun a q => range1T a fun items => compT (fun _ _ G => G true) Fe items [] (sp σ j (.own q)) fun acc σ' => resT acc fun p => G .next (sp σ' i (.val p))
theorem zcn (F : List Sl → (PV → PV → Prop) → Prop) (Fe : List Sl → PV → (PV → List Sl → Prop) → Prop) (j : Nat) (i : Nat) (σ : List Sl) (G : Oc → List Sl → Prop) : q_SS_assignComp F Fe j i σ G = (F σ fun a q => range1T a fun items => compT (fun _ _ G => G true) Fe items [] (sp σ j (.own q)) fun acc σ' => resT acc fun p => G .next (sp σ' i (.val p))) := rfl
theorem SS.assignComp (O : C.Ok d) (hclos : closureFor scope C.env = pure cl) (hcell : ∀ z ∈ scope.names, z.2 ≠ .cell) (hk : scope.kind = .function) (hnames : ∀ z ∈ scope.names, z.2 = .local → scope.names.lookup z.1 = some .local) (hx : scope.names.lookup x = some .local)
    {elt e : Expr} {px py rp cpos : Pos} {F : List Sl → (PV → PV → Prop) → Prop} {Fe : List Sl → PV → (PV → List Sl → Prop) → Prop} (j : Nat) (hiter : SN C j e F) (he : ∀ V, EJ C scope cl x V (· = V j) elt Fe) (i : Nat) (y : Str) (pos spos : Pos) (hi : C.ns[i]? = some y) (hst : Storable C y)
    (hr : C.env.kindOf "range" = some .globalImplicit) (hm : C.mg "range" = none) (hb : C.mb "range" = some (.type "range"))
    (hsw : swapsWith (.ListComp elt [⟨.Name x px, Expr.Call (Expr.Name "range" rp) [e] [] cpos, [], 0⟩] scope pos) (some (.Name y py)) spos.line C.env = pure true := by rfl)
    (hse : ∀ env, starEach [e] env = [(false, eval e env)] := by intro _; rfl)
    (hs : ∀ v, foldedSetIterable (Expr.Call (Expr.Name "range" rp) [e] [] cpos) C.env v = pure v := by intro _; rfl) :
    SS C (.Assign [.Name y py] (.ListComp elt [⟨.Name x px, Expr.Call (Expr.Name "range" rp) [e] [] cpos, [], 0⟩] scope pos) spos)
      (q_SS_assignComp F Fe j i) := by
  intro φ V σ s G S R hF E
  rw [exec_Assign_Name_used _ _ _ _ hsw]
  refine wpAny_bind (wpAny_standAt (wpAny_bind ?_))
  show wpAny _ C.A (do let _ ← comprehension (.ListComp elt [⟨.Name x px, Expr.Call (Expr.Name "range" rp) [e] [] cpos, [], 0⟩] scope pos) scope C.env _ (newList []) false (eval (Expr.Call (Expr.Name "range" rp) [e] [] cpos) C.env) (some (PySem.assign (.Name y py) C.env))) _ _ s
  refine wpAny_bind (wpAny_mono (wpAny_comprehension_free (use := some (PySem.assign (.Name y py) C.env)) (Q := fun _ s' => After C φ V σ s G .next s') rfl hs hclos hk hnames ?_) (fun _ s' hq => wpAny_pure (wpAny_pure hq)) fun _ _ e => e)
  refine wpAny_CallName (wpAny_bname O S R.sub hr hm hb ?_ (by decide))
  refine PySem.callWith_type (by rw [hse]; rfl) ?_
  rw [hse]
  refine evalArgs_plain (x := eval e C.env) (rest := []) (spliced_cons (wpAny_mono (hiter φ V σ s _ S R hF E) (fun va s₁ h₁ => ?_) fun _ _ x => x))
  obtain ⟨⟨p₀, hp₀⟩, φ₁, a, q, us, m₁, g₁, hh₁, hn₁, hv₁, c₁, ra, hT⟩ := h₁
  refine spliced_nil ?_
  unfold range1T at hT
  split at hT
  rotate_left
  · exact hT.elim
  rename_i n
  obtain ⟨h1, h2, hK⟩ := hT
  obtain ⟨t, rfl⟩ := rep_int ra
  have T₁ := R.growBut hp₀ g₁ hh₁ hn₁ hv₁ c₁
  have hσ := sg_lt hp₀
  refine call_range_1 ?_
  generalize hs₂ : ({ s₁ with heap := s₁.heap.push { cls := .type "range", data := .fields #[.int 0 s₁.toks, .int n t, .int 1 (s₁.toks + 1)] }, toks := s₁.toks + 1 + 1 } : Shared) = s₂
  have g₂ : Grow φ₁ s₁ φ₁ s₂ := by rw [← hs₂]; exact Grow.heap hh₁ (fun b o e => Heap.get?_push_of_some _ e) _
  have hrange : IsRange s₂.heap s₁.heap.objs.size 0 n 1 s₁.toks t (s₁.toks + 1) := by rw [← hs₂]; exact IsRange.new ..
  have hsmall : Builtin.Range.small 0 n 1 = true := small_one (by lia) (by lia) (by lia) (by lia)
  have hsz : 0 ≤ Builtin.Range.rangeSize 0 n 1 := by rw [rangeSize_one]; split <;> lia
  have hsz2 : (Builtin.Range.rangeSize 0 n 1).toNat ≤ 1000000 := by rw [rangeSize_one]; split <;> lia
  refine wpAny_pyIter_range hrange hsmall ?_
  have hIn := size_none s₂.heap
  have volσ : ∀ b, Vol C.env V (sp σ j (.own q)) b → Vol C.env V σ b := by
    rintro b (hb | hb | ⟨l, xs, hl, hb⟩)
    · exact .inl hb
    · exact .inr (.inl hb)
    · by_cases hij : j = l
      · subst hij; exact .inr (.inr ⟨j, p₀, hp₀, hb⟩)
      · rw [sg_sp_ne _ _ _ _ hij] at hl
        exact .inr (.inr ⟨l, xs, hl, hb⟩)
  have hVj : Vol C.env V σ (V j) := .inr (.inr ⟨j, p₀, hp₀, rfl⟩)
  generalize hs₃ : ({ s₂ with heap := s₂.heap.push { cls := .type "range_iterator", data := .fields #[rawInt 0, rawInt (Builtin.Range.rangeSize 0 n 1), rawInt 1] } } : Shared) = s₃
  have g₃ : Grow φ₁ s₂ φ₁ s₃ := by rw [← hs₃]; exact Grow.heap g₂.here (fun b o e => Heap.get?_push_of_some _ e) _
  have g₁₃ : GrowX (· = V j) φ s φ₁ s₃ := (g₁.trans g₂.toX).trans g₃.toX
  have R₃ : RS C.env C.ns φ₁ V (sp σ j (.own q)) s₃.heap := (T₁.rs.grow g₂).grow g₃
  have h13 : ∀ b o, s₁.heap.get? b = some o → s₃.heap.get? b = some o := fun b o e => (g₃.keep _ _ (g₂.keep _ _ e).1).1
  have h02 : ∀ b o, s.heap.get? b = some o → ∃ o', s₃.heap.get? b = some o' := fun b o e => by
    by_cases hbV : b = V j
    · exact ⟨_, by rw [hbV]; exact h13 _ _ hv₁⟩
    · exact ⟨o, h13 _ _ (g₁.keep b o hbV e).1⟩
  have hIφ : φ₁ s₂.heap.objs.size = none := by
    cases e : φ₁ s₂.heap.objs.size with
    | none => rfl
    | some o => rw [g₂.here _ _ e] at hIn; cases hIn
  have hI0 : s.heap.get? s₂.heap.objs.size = none := by
    cases e : s.heap.get? s₂.heap.objs.size with
    | none => rfl
    | some o =>
      by_cases hbV : s₂.heap.objs.size = V j
      · rw [hbV, (g₂.keep _ _ hv₁).1] at hIn; cases hIn
      · rw [(g₂.keep _ _ (g₁.keep _ o hbV e).1).1] at hIn; cases hIn
  have hVex : ∃ o, s.heap.get? (V j) = some o := R.vol_some hVj
  refine comp_block O hcell hk hx TJ.nil (he V) (Walks.range O.room.1 s₂.heap.objs.size 0 1 (Builtin.Range.rangeSize 0 n 1).toNat) hsz2 (fun b o e => g₁.sub _ _ (S _ _ e)) g₁₃ R₃ (Z := fun b => Vol C.env V σ b) (fun b hb => R.vol_some hb) volσ (fun b hb => by rw [hb]; exact hVex) h02 (items := (rangeL 0 n 1).map .int) (by simp [rangeL]) (fun k w q hk hq => ?_) ?_ ?_ ?_ ?_ ?_ ?_ (by rw [rangeL_one]; simpa using hK) ?_
  · obtain ⟨tk, rfl⟩ := hk
    rw [List.getElem?_map] at hq
    unfold rangeL at hq
    rw [List.getElem?_map] at hq
    cases e : (List.range (Builtin.Range.rangeSize 0 n 1).toNat)[k]? with
    | none => rw [e] at hq; cases hq
    | some z =>
      rw [e] at hq
      cases hq
      have : z = k := by
        have := List.getElem?_eq_some_iff.mp e
        obtain ⟨_, h⟩ := this
        simpa using h.symm
      subst this
      rw [Rep]; exact ⟨tk, rfl⟩
  · have e1 : (0 : Int) + ((0 : Nat) : Int) * 1 = 0 := by simp
    have e2 : (((Builtin.Range.rangeSize 0 n 1).toNat : Nat) : Int) - ((0 : Nat) : Int) = Builtin.Range.rangeSize 0 n 1 := by lia
    show IsRangeIter _ _ _ _ _
    rw [e1, e2, ← hs₃]
    exact Heap.get?_push_size _ rfl
  · intro b hb
    simp only [List.mem_cons, List.not_mem_nil, or_false] at hb
    subst hb
    rw [← hs₃]
    show _ < (s₂.heap.push _).objs.size
    rw [Heap.size_push]; exact Nat.lt_succ_self _
  · intro b hb
    simp only [List.mem_cons, List.not_mem_nil, or_false] at hb
    subst hb
    exact hI0
  · intro b hb
    simp only [List.mem_cons, List.not_mem_nil, or_false] at hb
    subst hb
    exact hIφ
  · intro b hb hX
    simp only [List.mem_cons, List.not_mem_nil, or_false] at hb
    subst hb
    obtain ⟨o, ho⟩ := hVex
    have hX' : s₂.heap.objs.size = V j := hX
    rw [hX', ho] at hI0; cases hI0
  · intro k h ho b hb
    simp only [List.mem_cons, List.not_mem_nil, or_false] at hb
    subst hb
    exact ⟨_, ho⟩
  · intro D Cc s' φ' σ' acc ys m hDC hD0 hC0 g' R' hv' S' hl' hns' hDφ hCφ hacc hal hG
    obtain ⟨c, hDo⟩ := hl'
    obtain ⟨p, rp, gp⟩ := rep_pack (n := c) hacc hal hDφ hG
    have nD : ¬ Vol C.env V σ' D := fun h => by obtain ⟨o, ho⟩ := R.vol_some (hv' D h); rw [hD0] at ho; cases ho
    have nC : ¬ Vol C.env V σ' Cc := fun h => by obtain ⟨o, ho⟩ := R.vol_some (hv' Cc h); rw [hC0] at ho; cases ho
    have R'' := R'.put hDφ hDo nD
    have T' : Step C.env C.ns φ V σ s (fzPut φ' D (lobj ys c)) V σ' s' := by
      refine ⟨⟨g'.same, fun b o e => ?_, fun b o hb e => ?_⟩, R'', fun b hb => .inl (hv' b hb), rfl⟩
      · have e1 := g'.sub _ _ e
        unfold fzPut
        rw [if_neg (fun h => by rw [h, hDφ] at e1; cases e1)]; exact e1
      · have hbD : b ≠ D := fun h => by rw [h, hD0] at e; cases e
        obtain ⟨e1, e2⟩ := g'.keep b o (fun h => hb (by rw [h]; exact hVj)) e
        refine ⟨e1, ?_⟩
        unfold fzPut
        rw [if_neg hbD]; exact e2
    show wpAny _ C.A (PySem.assign (.Name y py) C.env (.ref D)) _ _ _
    refine wpAny_assign_Name (store_slot O T' hi hst (sl := .val p) rp fun h' tk a hs' ha T'' => ?_)
    have hCa : Cc ≠ a := fun e => nC (by
      rcases ha with e' | ⟨z, hz⟩
      · exact .inl (e.trans e')
      · exact .inr (.inl ⟨z, by rw [e]; exact hz⟩))
    refine ⟨m, hns'.sameBut hs' hCa, fun h'' hs'' => ?_⟩
    refine ⟨_, _, _, T''.but (tk := tk) (wr := [Cc]) (fun b o hb e => (hs''.2 b (fun h => hb (by simp [h]))).trans e) (fun b hb => by rw [List.mem_singleton] at hb; rw [hb]; exact hC0) (fun b hb => ?_) (fun b hb hvv => ?_), gp⟩
    · rw [List.mem_singleton] at hb; rw [hb]
      unfold fzPut; rw [if_neg (Ne.symm hDC)]; exact hCφ
    · rw [List.mem_singleton] at hb; rw [hb] at hvv
      exact nC (vol_val hvv)
end
end Mine

open PySem PySem.Calls PyProof.Rows
set_option Elab.async false
set_option maxHeartbeats 1000000
namespace Mine
section
variable {C : Cx} {d : Nat} {scope : Scope} {cl : List (Str × Addr)} {x : Str} {fs : List Str} {js : List Nat}
def q_SS_assignCompN (F : List Sl → (PV → PV → Prop) → Prop) (Fe : List Sl → PV → (PV → List Sl → Prop) → Prop) (j : Nat) (i : Nat) : Tr := fun σ G => F σ fun a q => range1T a fun items => compT (fun _ _ G => G true) Fe items [] (sp σ j (.own q)) fun acc σ' => resT acc fun p => G .next (sp σ' i (.val p))
theorem zco (F : List Sl → (PV → PV → Prop) → Prop) (Fe : List Sl → PV → (PV → List Sl → Prop) → Prop) (j : Nat) (i : Nat) (σ : List Sl) (G : Oc → List Sl → Prop) : q_SS_assignCompN F Fe j i σ G = (F σ fun a q => range1T a fun items => compT (fun _ _ G => G true) Fe items [] (sp σ j (.own q)) fun acc σ' => resT acc fun p => G .next (sp σ' i (.val p))) := rfl
theorem SS.assignCompN (O : C.Ok d) (hclos : closureFor scope C.env = pure cl) (hcell : ∀ z ∈ scope.names, z.2 ≠ .cell) (hk : scope.kind = .function) (hnames : ∀ z ∈ scope.names, z.2 = .local → scope.names.lookup z.1 = some .local) (hx : scope.names.lookup x = some .local)
    {elt e : Expr} {px py rp cpos : Pos} {F : List Sl → (PV → PV → Prop) → Prop} {Fe : List Sl → PV → (PV → List Sl → Prop) → Prop} (j : Nat) (hiter : SN C j e F) (he : ∀ V, EJ C scope cl x V (· = V j) elt Fe) (i : Nat) (y : Str) (pos spos : Pos) (hi : C.ns[i]? = some y) (hst : Storable C y)
    (hr : C.env.kindOf "range" = some .globalImplicit) (hm : C.mg "range" = none) (hb : C.mb "range" = some (.type "range"))
    (hsw : swapsWith (.ListComp elt [⟨.Name x px, Expr.Call (Expr.Name "range" rp) [e] [] cpos, [], 0⟩] scope pos) (some (.Name y py)) spos.line C.env = pure false := by rfl)
    (hse : ∀ env, starEach [e] env = [(false, eval e env)] := by intro _; rfl)
    (hs : ∀ v, foldedSetIterable (Expr.Call (Expr.Name "range" rp) [e] [] cpos) C.env v = pure v := by intro _; rfl) :
    SS C (.Assign [.Name y py] (.ListComp elt [⟨.Name x px, Expr.Call (Expr.Name "range" rp) [e] [] cpos, [], 0⟩] scope pos) spos)
      (q_SS_assignCompN F Fe j i) := by
  intro φ V σ s G S R hF E
  refine wpAny_Assign_Name ?_ hsw
  rw [eval_ListComp]
  refine wpAny_comprehension_free (use := none) rfl hs hclos hk hnames ?_
  refine wpAny_CallName (wpAny_bname O S R.sub hr hm hb ?_ (by decide))
  refine PySem.callWith_type (by rw [hse]; rfl) ?_
  rw [hse]
  refine evalArgs_plain (x := eval e C.env) (rest := []) (spliced_cons (wpAny_mono (hiter φ V σ s _ S R hF E) (fun va s₁ h₁ => ?_) fun _ _ x => x))
  obtain ⟨⟨p₀, hp₀⟩, φ₁, a, q, us, m₁, g₁, hh₁, hn₁, hv₁, c₁, ra, hT⟩ := h₁
  refine spliced_nil ?_
  unfold range1T at hT
  split at hT
  rotate_left
  · exact hT.elim
  rename_i n
  obtain ⟨h1, h2, hK⟩ := hT
  obtain ⟨t, rfl⟩ := rep_int ra
  have T₁ := R.growBut hp₀ g₁ hh₁ hn₁ hv₁ c₁
  have hσ := sg_lt hp₀
  refine call_range_1 ?_
  generalize hs₂ : ({ s₁ with heap := s₁.heap.push { cls := .type "range", data := .fields #[.int 0 s₁.toks, .int n t, .int 1 (s₁.toks + 1)] }, toks := s₁.toks + 1 + 1 } : Shared) = s₂
  have g₂ : Grow φ₁ s₁ φ₁ s₂ := by rw [← hs₂]; exact Grow.heap hh₁ (fun b o e => Heap.get?_push_of_some _ e) _
  have hrange : IsRange s₂.heap s₁.heap.objs.size 0 n 1 s₁.toks t (s₁.toks + 1) := by rw [← hs₂]; exact IsRange.new ..
  have hsmall : Builtin.Range.small 0 n 1 = true := small_one (by lia) (by lia) (by lia) (by lia)
  have hsz : 0 ≤ Builtin.Range.rangeSize 0 n 1 := by rw [rangeSize_one]; split <;> lia
  have hsz2 : (Builtin.Range.rangeSize 0 n 1).toNat ≤ 1000000 := by rw [rangeSize_one]; split <;> lia
  refine wpAny_pyIter_range hrange hsmall ?_
  have hIn := size_none s₂.heap
  have volσ : ∀ b, Vol C.env V (sp σ j (.own q)) b → Vol C.env V σ b := by
    rintro b (hb | hb | ⟨l, xs, hl, hb⟩)
    · exact .inl hb
    · exact .inr (.inl hb)
    · by_cases hij : j = l
      · subst hij; exact .inr (.inr ⟨j, p₀, hp₀, hb⟩)
      · rw [sg_sp_ne _ _ _ _ hij] at hl
        exact .inr (.inr ⟨l, xs, hl, hb⟩)
  have hVj : Vol C.env V σ (V j) := .inr (.inr ⟨j, p₀, hp₀, rfl⟩)
  generalize hs₃ : ({ s₂ with heap := s₂.heap.push { cls := .type "range_iterator", data := .fields #[rawInt 0, rawInt (Builtin.Range.rangeSize 0 n 1), rawInt 1] } } : Shared) = s₃
  have g₃ : Grow φ₁ s₂ φ₁ s₃ := by rw [← hs₃]; exact Grow.heap g₂.here (fun b o e => Heap.get?_push_of_some _ e) _
  have g₁₃ : GrowX (· = V j) φ s φ₁ s₃ := (g₁.trans g₂.toX).trans g₃.toX
  have R₃ : RS C.env C.ns φ₁ V (sp σ j (.own q)) s₃.heap := (T₁.rs.grow g₂).grow g₃
  have h13 : ∀ b o, s₁.heap.get? b = some o → s₃.heap.get? b = some o := fun b o e => (g₃.keep _ _ (g₂.keep _ _ e).1).1
  have h02 : ∀ b o, s.heap.get? b = some o → ∃ o', s₃.heap.get? b = some o' := fun b o e => by
    by_cases hbV : b = V j
    · exact ⟨_, by rw [hbV]; exact h13 _ _ hv₁⟩
    · exact ⟨o, h13 _ _ (g₁.keep b o hbV e).1⟩
  have hIφ : φ₁ s₂.heap.objs.size = none := by
    cases e : φ₁ s₂.heap.objs.size with
    | none => rfl
    | some o => rw [g₂.here _ _ e] at hIn; cases hIn
  have hI0 : s.heap.get? s₂.heap.objs.size = none := by
    cases e : s.heap.get? s₂.heap.objs.size with
    | none => rfl
    | some o =>
      by_cases hbV : s₂.heap.objs.size = V j
      · rw [hbV, (g₂.keep _ _ hv₁).1] at hIn; cases hIn
      · rw [(g₂.keep _ _ (g₁.keep _ o hbV e).1).1] at hIn; cases hIn
  have hVex : ∃ o, s.heap.get? (V j) = some o := R.vol_some hVj
  refine comp_block O hcell hk hx TJ.nil (he V) (Walks.range O.room.1 s₂.heap.objs.size 0 1 (Builtin.Range.rangeSize 0 n 1).toNat) hsz2 (fun b o e => g₁.sub _ _ (S _ _ e)) g₁₃ R₃ (Z := fun b => Vol C.env V σ b) (fun b hb => R.vol_some hb) volσ (fun b hb => by rw [hb]; exact hVex) h02 (items := (rangeL 0 n 1).map .int) (by simp [rangeL]) (fun k w q hk hq => ?_) ?_ ?_ ?_ ?_ ?_ ?_ (by rw [rangeL_one]; simpa using hK) ?_
  · obtain ⟨tk, rfl⟩ := hk
    rw [List.getElem?_map] at hq
    unfold rangeL at hq
    rw [List.getElem?_map] at hq
    cases e : (List.range (Builtin.Range.rangeSize 0 n 1).toNat)[k]? with
    | none => rw [e] at hq; cases hq
    | some z =>
      rw [e] at hq
      cases hq
      have : z = k := by
        have := List.getElem?_eq_some_iff.mp e
        obtain ⟨_, h⟩ := this
        simpa using h.symm
      subst this
      rw [Rep]; exact ⟨tk, rfl⟩
  · have e1 : (0 : Int) + ((0 : Nat) : Int) * 1 = 0 := by simp
    have e2 : (((Builtin.Range.rangeSize 0 n 1).toNat : Nat) : Int) - ((0 : Nat) : Int) = Builtin.Range.rangeSize 0 n 1 := by lia
    show IsRangeIter _ _ _ _ _
    rw [e1, e2, ← hs₃]
    exact Heap.get?_push_size _ rfl
  · intro b hb
    simp only [List.mem_cons, List.not_mem_nil, or_false] at hb
    subst hb
    rw [← hs₃]
    show _ < (s₂.heap.push _).objs.size
    rw [Heap.size_push]; exact Nat.lt_succ_self _
  · intro b hb
    simp only [List.mem_cons, List.not_mem_nil, or_false] at hb
    subst hb
    exact hI0
  · intro b hb
    simp only [List.mem_cons, List.not_mem_nil, or_false] at hb
    subst hb
    exact hIφ
  · intro b hb hX
    simp only [List.mem_cons, List.not_mem_nil, or_false] at hb
    subst hb
    obtain ⟨o, ho⟩ := hVex
    have hX' : s₂.heap.objs.size = V j := hX
    rw [hX', ho] at hI0; cases hI0
  · intro k h ho b hb
    simp only [List.mem_cons, List.not_mem_nil, or_false] at hb
    subst hb
    exact ⟨_, ho⟩
  · intro D Cc s' φ' σ' acc ys m hDC hD0 hC0 g' R' hv' S' hl' hns' hDφ hCφ hacc hal hG
    obtain ⟨c, hDo⟩ := hl'
    obtain ⟨p, rp, gp⟩ := rep_pack (n := c) hacc hal hDφ hG
    have nD : ¬ Vol C.env V σ' D := fun h => by obtain ⟨o, ho⟩ := R.vol_some (hv' D h); rw [hD0] at ho; cases ho
    have nC : ¬ Vol C.env V σ' Cc := fun h => by obtain ⟨o, ho⟩ := R.vol_some (hv' Cc h); rw [hC0] at ho; cases ho
    have R'' := R'.put hDφ hDo nD
    have T' : Step C.env C.ns φ V σ s (fzPut φ' D (lobj ys c)) V σ' s' := by
      refine ⟨⟨g'.same, fun b o e => ?_, fun b o hb e => ?_⟩, R'', fun b hb => .inl (hv' b hb), rfl⟩
      · have e1 := g'.sub _ _ e
        unfold fzPut
        rw [if_neg (fun h => by rw [h, hDφ] at e1; cases e1)]; exact e1
      · have hbD : b ≠ D := fun h => by rw [h, hD0] at e; cases e
        obtain ⟨e1, e2⟩ := g'.keep b o (fun h => hb (by rw [h]; exact hVj)) e
        refine ⟨e1, ?_⟩
        unfold fzPut
        rw [if_neg hbD]; exact e2
    refine ⟨m, hns', fun h'' hs'' => ?_⟩
    have T'' := T'.but (tk := s'.toks) (wr := [Cc]) (h₁ := h'') (fun b o hb e => (hs''.2 b (fun h => hb (by simp [h]))).trans e) (fun b hb => by rw [List.mem_singleton] at hb; rw [hb]; exact hC0) (fun b hb => by
      rw [List.mem_singleton] at hb; rw [hb]
      unfold fzPut; rw [if_neg (Ne.symm hDC)]; exact hCφ) (fun b hb hvv => by
      rw [List.mem_singleton] at hb; rw [hb] at hvv
      exact nC hvv)
    exact store_slot O T'' hi hst (sl := .val p) rp fun h' tk a hs' ha T3 => ⟨_, _, _, T3, gp⟩
end
end Mine

open PySem PySem.Calls PyProof.Rows
set_option Elab.async false
namespace Mine
section
variable {C : Cx} {d : Nat} {scope : Scope} {x : Str}
theorem nodup_at {l : List Str} (h : l.Nodup) : ∀ (i j : Nat) (y : Str), l[i]? = some y → l[j]? = some y → i = j := by
  intro i j y hi hj
  obtain ⟨a1, b1⟩ := List.getElem?_eq_some_iff.mp hi
  obtain ⟨a2, b2⟩ := List.getElem?_eq_some_iff.mp hj
  rcases Nat.lt_trichotomy i j with h' | h' | h'
  · exact absurd (b1.trans b2.symm) (List.pairwise_iff_getElem.mp h i j a1 a2 h')
  · exact h'
  · exact absurd (b2.trans b1.symm) (List.pairwise_iff_getElem.mp h j i a2 a1 h')
theorem Free.of0 (hk : scope.kind = .function) (hx : scope.names.lookup x = some .local) : Free C scope [] x [] [] where
  kind := hk
  hx := hx
  hxc := rfl
  hcl := fun f c h => by cases h
  hfs := fun k f h => by simp at h
  hlen := rfl
  hinj := fun k l j h => by simp at h
  hk := fun Cc f h => by cases h
  nodup := nodup_at (by simp)
theorem Free.of1 {f : Str} {c : Addr} (j : Nat) (hk : scope.kind = .function) (hx : scope.names.lookup x = some .local) (hne : (x == f) = false) (hc : C.env.cells.lookup f = some c) (hj : C.ns[j]? = some f) (hkf : ∀ Cc, (compEnvC scope [(f, c)] Cc C.env).kindOf f = some .cell) : Free C scope [(f, c)] x [f] [j] where
  kind := hk
  hx := hx
  hxc := by simp [List.lookup_cons, hne]
  hcl := fun g e h => by
    rw [List.lookup_cons] at h
    cases hg : g == f with
    | true =>
      rw [hg] at h
      cases h
      have : g = f := by simpa using hg
      rw [this]; exact hc
    | false => rw [hg] at h; cases h
  hfs := fun k g h => by
    cases k with
    | zero =>
      have : f = g := by simpa using h
      subst this
      exact ⟨j, c, rfl, hj, by simp [List.lookup_cons]⟩
    | succ k => simp at h
  hlen := rfl
  hinj := fun k l m h1 h2 => by
    cases k <;> cases l <;> simp_all
  hk := fun Cc g h => by
    rw [List.mem_singleton] at h
    rw [h]; exact hkf Cc
  nodup := nodup_at (by
    have : x ≠ f := by simpa using hne
    simp [this])
theorem Free.of2 {f g : Str} {c e : Addr} (j k : Nat) (hk : scope.kind = .function) (hx : scope.names.lookup x = some .local) (hxf : (x == f) = false) (hxg : (x == g) = false) (hfg : (f == g) = false) (hjk : j ≠ k) (hc : C.env.cells.lookup f = some c) (he : C.env.cells.lookup g = some e) (hj : C.ns[j]? = some f) (hk' : C.ns[k]? = some g)
    (hkf : ∀ Cc, (compEnvC scope [(g, e), (f, c)] Cc C.env).kindOf f = some .cell) (hkg : ∀ Cc, (compEnvC scope [(g, e), (f, c)] Cc C.env).kindOf g = some .cell) : Free C scope [(g, e), (f, c)] x [f, g] [j, k] where
  kind := hk
  hx := hx
  hxc := by simp [List.lookup_cons, hxf, hxg]
  hcl := fun y z h => by
    rw [List.lookup_cons] at h
    cases hg : y == g with
    | true =>
      rw [hg] at h
      cases h
      have : y = g := by simpa using hg
      rw [this]; exact he
    | false =>
      rw [hg, List.lookup_cons] at h
      cases hf : y == f with
      | true =>
        rw [hf] at h
        cases h
        have : y = f := by simpa using hf
        rw [this]; exact hc
      | false => rw [hf] at h; cases h
  hfs := fun l y h => by
    cases l with
    | zero =>
      have : f = y := by simpa using h
      subst this
      exact ⟨j, c, rfl, hj, by simp [List.lookup_cons, hfg]⟩
    | succ l =>
      cases l with
      | zero =>
        have : g = y := by simpa using h
        subst this
        exact ⟨k, e, rfl, hk', by simp [List.lookup_cons]⟩
      | succ l => simp at h
  hlen := rfl
  hinj := fun a b m h1 h2 => by
    rcases a with _ | _ | a <;> rcases b with _ | _ | b <;> simp_all
  hk := fun Cc y h => by
    rcases List.mem_cons.mp h with h | h
    · rw [h]; exact hkf Cc
    · rw [List.mem_singleton] at h; rw [h]; exact hkg Cc
  nodup := nodup_at (by
    have h1 : x ≠ f := by simpa using hxf
    have h2 : x ≠ g := by simpa using hxg
    have h3 : f ≠ g := by simpa using hfg
    simp [h1, h2, h3])
end
end Mine

open PySem PySem.Calls PyProof.Rows
set_option Elab.async false
namespace Mine

def val (B : Int) : List Int → Int
  | [] => 0
  | x :: r => x + B * val B r
def Dg (B : Nat) (L : List Int) : Prop := ∀ x ∈ L, 0 ≤ x ∧ x < (B : Int)
def Nrm (L : List Int) : Prop := L = [] ∨ L.getD (L.length - 1) 0 ≠ 0
def limbsF (B : Nat) : Nat → Nat → List Int
  | 0, _ => []
  | f + 1, n => bif Nat.beq n 0 then [] else ((n % B : Nat) : Int) :: limbsF B f (n / B)
def limbs (B n : Nat) : List Int := limbsF B n n

section
variable {B : Nat}
theorem val_append (b : Int) : ∀ (x y : List Int), val b (x ++ y) = val b x + b ^ x.length * val b y
  | [], y => by simp [val]
  | a :: x, y => by
    rw [List.cons_append, val, val, val_append b x y, List.length_cons, Int.pow_succ]; grind
theorem val_rep (b : Int) : ∀ k, val b (List.replicate k 0) = 0
  | 0 => rfl
  | k + 1 => by rw [List.replicate_succ, val, val_rep b k]; simp
theorem Dg.append {x y : List Int} (h : Dg B x) (k : Dg B y) : Dg B (x ++ y) := by
  intro z hz; rcases List.mem_append.mp hz with m | m
  · exact h z m
  · exact k z m
theorem Dg.left {x y : List Int} (h : Dg B (x ++ y)) : Dg B x := fun z m => h z (List.mem_append_left _ m)
theorem Dg.right {x y : List Int} (h : Dg B (x ++ y)) : Dg B y := fun z m => h z (List.mem_append_right _ m)
theorem Dg.nil : Dg B [] := fun z m => by cases m
theorem Dg.one {x : Int} (h : 0 ≤ x) (k : x < B) : Dg B [x] := by intro z m; rw [List.mem_singleton] at m; subst m; exact ⟨h, k⟩
theorem Dg.head {x : Int} {r : List Int} (h : Dg B (x :: r)) : 0 ≤ x ∧ x < (B : Int) := h x List.mem_cons_self
theorem Dg.tail {x : Int} {r : List Int} (h : Dg B (x :: r)) : Dg B r := fun z m => h z (List.mem_cons_of_mem _ m)
theorem Dg.take {x : List Int} (h : Dg B x) (k : Nat) : Dg B (x.take k) := fun z m => h z (List.mem_of_mem_take m)
theorem Dg.drop {x : List Int} (h : Dg B x) (k : Nat) : Dg B (x.drop k) := fun z m => h z (List.mem_of_mem_drop m)
theorem Dg.getD {x : List Int} (h : Dg B x) (hB : 0 < B) (k : Nat) : 0 ≤ x.getD k 0 ∧ x.getD k 0 < (B : Int) := by
  rw [List.getD_eq_getElem?_getD]
  cases e : x[k]? with
  | none => simp; lia
  | some v => exact h v (List.mem_of_getElem? e)
theorem Dg.rep (hB : 0 < B) (k : Nat) : Dg B (List.replicate k 0) := by
  intro z m; rw [(List.mem_replicate.mp m).2]; lia
theorem Dg.set {x : List Int} (h : Dg B x) (k : Nat) {v : Int} (h0 : 0 ≤ v) (h1 : v < B) : Dg B (x.set k v) := by
  intro z m
  rcases List.mem_or_eq_of_mem_set m with m | rfl
  · exact h z m
  · exact ⟨h0, h1⟩

theorem val_nonneg {L : List Int} (h : Dg B L) : 0 ≤ val B L := by
  induction L with
  | nil => exact Int.le_refl 0
  | cons x r ih =>
    have := h.head
    have := Int.mul_nonneg (Int.natCast_nonneg B) (ih h.tail)
    rw [val]; lia
theorem val_lt {L : List Int} (h : Dg B L) : val B L < (B : Int) ^ L.length := by
  induction L with
  | nil => exact (by decide : (0 : Int) < 1)
  | cons x r ih =>
    have h1 := h.head
    have h2 := ih h.tail
    rw [val, List.length_cons, Int.pow_succ]
    have h3 : (B : Int) * (val B r + 1) ≤ B * (B : Int) ^ r.length := Int.mul_le_mul_of_nonneg_left (by lia) (Int.natCast_nonneg B)
    rw [Int.mul_comm ((B : Int) ^ r.length)]
    rw [Int.mul_add] at h3; lia

theorem limbs_zero : limbs B 0 = [] := rfl
theorem limbsF_zero : ∀ f, limbsF B f 0 = []
  | 0 => rfl
  | _ + 1 => rfl
theorem limbsF_pos (f : Nat) {n : Nat} (h : 0 < n) : limbsF B (f + 1) n = ((n % B : Nat) : Int) :: limbsF B f (n / B) := by
  cases n with
  | zero => exact absurd h (Nat.lt_irrefl 0)
  | succ n => rfl
theorem limbsF_fuel (hB : 2 ≤ B) : ∀ (f g n : Nat), n ≤ f → n ≤ g → limbsF B f n = limbsF B g n := by
  intro f
  induction f with
  | zero => intro g n h _; rw [Nat.le_zero.mp h, limbsF_zero, limbsF_zero]
  | succ f ih =>
    intro g n h1 h2
    rcases Nat.eq_zero_or_pos n with e | e
    · rw [e, limbsF_zero, limbsF_zero]
    · cases g with
      | zero => exact absurd h2 (Nat.not_le.mpr e)
      | succ g =>
        have := Nat.div_lt_self e hB
        rw [limbsF_pos f e, limbsF_pos g e, ih g (n / B) (by lia) (by lia)]
theorem limbs_pos (hB : 2 ≤ B) {n : Nat} (h : 0 < n) : limbs B n = ((n % B : Nat) : Int) :: limbs B (n / B) := by
  obtain ⟨k, rfl⟩ : ∃ k, n = k + 1 := ⟨n - 1, by lia⟩
  have := Nat.div_lt_self h hB
  show limbsF B (k + 1) (k + 1) = _
  rw [limbsF_pos k h, limbsF_fuel hB k ((k + 1) / B) ((k + 1) / B) (by lia) (Nat.le_refl _)]; rfl
theorem limbs_dg (hB : 2 ≤ B) (n : Nat) : Dg B (limbs B n) := by
  induction n using Nat.strongRecOn with
  | _ n ih =>
    rcases Nat.eq_zero_or_pos n with rfl | h
    · rw [limbs_zero]; exact Dg.nil
    · rw [limbs_pos hB h]
      intro z m
      rcases List.mem_cons.mp m with rfl | m
      · have := Nat.mod_lt n (show B > 0 by lia); lia
      · exact ih _ (Nat.div_lt_self h (by lia)) z m
theorem limbs_val (hB : 2 ≤ B) (n : Nat) : val B (limbs B n) = n := by
  induction n using Nat.strongRecOn with
  | _ n ih =>
    rcases Nat.eq_zero_or_pos n with rfl | h
    · rw [limbs_zero]; rfl
    · rw [limbs_pos hB h, val, ih _ (Nat.div_lt_self h (by lia))]
      have := Nat.mod_add_div n B
      exact_mod_cast this
theorem Nrm.cons {x : Int} {r : List Int} (h : Nrm (x :: r)) : Nrm r := by
  cases r with
  | nil => exact .inl rfl
  | cons y r =>
    right
    rcases h with h | h
    · cases h
    · simpa using h
theorem limbs_uniq (hB : 2 ≤ B) : ∀ {L : List Int}, Dg B L → Nrm L → L = limbs B (val B L).toNat
  | [], _, _ => by show [] = limbs B (Int.toNat 0); rw [show Int.toNat 0 = 0 from rfl, limbs_zero]
  | x :: r, h, hn => by
    have h1 := h.head
    have h2 := val_nonneg h.tail
    have ih := limbs_uniq hB h.tail hn.cons
    have hp : 0 ≤ (B : Int) * val B r := Int.mul_nonneg (Int.natCast_nonneg B) h2
    have key : (val B (x :: r)).toNat = x.toNat + B * (val B r).toNat := by
      rw [val]
      have : ((B * (val B r).toNat : Nat) : Int) = (B : Int) * val B r := by rw [Int.natCast_mul, Int.toNat_of_nonneg h2]
      lia
    have hpos : 0 < x.toNat + B * (val B r).toNat := by
      rcases Nat.eq_zero_or_pos (val B r).toNat with e | e
      · cases r with
        | nil =>
          rcases hn with hn | hn
          · cases hn
          · simp at hn; lia
        | cons y r' => rw [e, limbs_zero] at ih; cases ih
      · have := Nat.mul_pos (show 0 < B by lia) e; lia
    rw [key, limbs_pos hB hpos, Nat.add_mul_mod_self_left, Nat.add_mul_div_left _ _ (by lia), Nat.mod_eq_of_lt (by lia), Nat.div_eq_of_lt (by lia), Nat.zero_add, ← ih]
    congr 1
    lia
theorem limbs_nrm (hB : 2 ≤ B) (n : Nat) : Nrm (limbs B n) := by
  induction n using Nat.strongRecOn with
  | _ n ih =>
    rcases Nat.eq_zero_or_pos n with rfl | h
    · exact .inl limbs_zero
    · rw [limbs_pos hB h]
      right
      rcases ih _ (Nat.div_lt_self h (show 1 < B by lia)) with e | e
      · rw [e]
        have : n / B = 0 := by
          rcases Nat.eq_zero_or_pos (n / B) with h0 | h0
          · exact h0
          · rw [limbs_pos hB h0] at e; cases e
        have := Nat.div_add_mod n B
        rw [‹n / B = 0›] at this
        simp; lia
      · rcases Nat.eq_zero_or_pos (n / B) with h0 | h0
        · rw [h0, limbs_zero] at e; simp at e
        · rw [limbs_pos hB h0] at e ⊢
          simpa using e
theorem limbs_len0 (hB : 2 ≤ B) (n : Nat) : (limbs B n).length = 0 ↔ n = 0 := by
  rcases Nat.eq_zero_or_pos n with rfl | h
  · simp [limbs_zero]
  · rw [limbs_pos hB h]; simp; lia
theorem limbs_lt (hB : 2 ≤ B) (n : Nat) : n < B ^ (limbs B n).length := by
  have := val_lt (limbs_dg hB n)
  rw [limbs_val hB] at this
  exact_mod_cast this
theorem limbs_ge (hB : 2 ≤ B) {n : Nat} (h : 0 < n) : B ^ ((limbs B n).length - 1) ≤ n := by
  induction n using Nat.strongRecOn with
  | _ n ih =>
    rw [limbs_pos hB h, List.length_cons, Nat.add_sub_cancel]
    rcases Nat.eq_zero_or_pos (n / B) with h0 | h0
    · rw [h0, limbs_zero]; simp; lia
    · have := ih _ (Nat.div_lt_self h (show 1 < B by lia)) h0
      have hl : (limbs B (n / B)).length ≠ 0 := by rw [Ne, limbs_len0 hB]; lia
      obtain ⟨k, hk⟩ : ∃ k, (limbs B (n / B)).length = k + 1 := ⟨(limbs B (n / B)).length - 1, by lia⟩
      rw [hk] at this ⊢
      rw [Nat.add_sub_cancel] at this
      rw [Nat.pow_succ]
      have h2 := Nat.mul_le_mul_right B this
      have h3 := Nat.div_mul_le_self n B
      lia
theorem limbs_len (hB : 2 ≤ B) {n k : Nat} (h : n < 2 ^ k) : (limbs B n).length ≤ k := by
  rcases Nat.eq_zero_or_pos n with rfl | h0
  · rw [limbs_zero]; simp
  · have h1 := limbs_ge hB h0
    have h2 : 2 ^ ((limbs B n).length - 1) ≤ B ^ ((limbs B n).length - 1) := Nat.pow_le_pow_left hB _
    have h3 : 2 ^ ((limbs B n).length - 1) < 2 ^ k := by lia
    have := (Nat.pow_lt_pow_iff_right (show 1 < 2 by lia)).mp h3
    lia
theorem limbs_inj (hB : 2 ≤ B) {m n : Nat} (h : limbs B m = limbs B n) : m = n := by
  have h1 := limbs_val hB m
  rw [h, limbs_val hB] at h1
  lia
theorem limbs_len_lt (hB : 2 ≤ B) {m n : Nat} (h : (limbs B m).length < (limbs B n).length) : m < n := by
  have hn : 0 < n := by
    rcases Nat.eq_zero_or_pos n with rfl | h0
    · rw [limbs_zero] at h; simp at h
    · exact h0
  have h1 := limbs_lt hB m
  have h2 := limbs_ge hB hn
  have h3 : B ^ (limbs B m).length ≤ B ^ ((limbs B n).length - 1) := Nat.pow_le_pow_right (by lia) (by lia)
  lia
theorem limbs_of {L : List Int} (hB : 2 ≤ B) (h : Dg B L) (hn : Nrm L) {n : Nat} (hv : val B L = n) : L = limbs B n := by
  have := limbs_uniq hB h hn
  rw [hv] at this
  exact this
theorem getD_split (L : List Int) (k : Nat) (h : k < L.length) : L = L.take k ++ L.getD k 0 :: L.drop (k + 1) := by
  rw [List.getD_eq_getElem?_getD, List.getElem?_eq_getElem h, Option.getD_some, List.getElem_cons_drop, List.take_append_drop]
theorem take_succ_getD (L : List Int) (k : Nat) (h : k < L.length) : L.take (k + 1) = L.take k ++ [L.getD k 0] := by
  rw [List.take_add_one, List.getElem?_eq_getElem h, List.getD_eq_getElem?_getD, List.getElem?_eq_getElem h]; rfl
theorem val_take_succ (b : Int) (L : List Int) (k : Nat) (h : k < L.length) : val b (L.take (k + 1)) = val b (L.take k) + b ^ k * L.getD k 0 := by
  rw [take_succ_getD L k h, val_append, List.length_take_of_le (by lia)]
  simp [val]
theorem val_take_drop (b : Int) (L : List Int) (k : Nat) (h : k ≤ L.length) : val b L = val b (L.take k) + b ^ k * val b (L.drop k) := by
  have := val_append b (L.take k) (L.drop k)
  rw [List.take_append_drop, List.length_take_of_le h] at this
  exact this
end
end Mine

open PySem PySem.Calls PyProof.Rows
set_option Elab.async false
set_option maxRecDepth 100000
namespace Mine
abbrev Fn (h0 : Heap) (mg : Str → Option Value) (k : Nat) (x : Str) (a : Addr) : Prop := FnAt h0 mg x (paramsOf (stAt k)) (bodyOf (stAt k)) (scopeOf (stAt k)) a
abbrev Ads := Nat → Addr
def isDef (x : Str) : Stmt → Bool
  | .FunctionDef n _ _ _ _ _ _ _ _ _ => n == x
  | _ => false
def Tops (h0 : Heap) (mg : Str → Option Value) (ads : Ads) : Prop := ∀ (k : Nat) (x : Str), Nat.blt k 51 = true → isDef x (stAt k) = true → Fn h0 mg k x (ads k)
section
variable {h0 : Heap} {mg : Str → Option Value} {ads : Ads} (T : Tops h0 mg ads)
include T
theorem Tops.normal : Fn h0 mg 4 "normal" (ads 4) := T 4 _ rfl rfl
theorem Tops.compare : Fn h0 mg 5 "compare" (ads 5) := T 5 _ rfl rfl
theorem Tops.add : Fn h0 mg 6 "add" (ads 6) := T 6 _ rfl rfl
theorem Tops.sub : Fn h0 mg 7 "sub" (ads 7) := T 7 _ rfl rfl
theorem Tops.add_limb : Fn h0 mg 8 "add_limb" (ads 8) := T 8 _ rfl rfl
theorem Tops.divrem_limb : Fn h0 mg 9 "divrem_limb" (ads 9) := T 9 _ rfl rfl
theorem Tops.shift_left : Fn h0 mg 10 "shift_left" (ads 10) := T 10 _ rfl rfl
theorem Tops.shift_right : Fn h0 mg 11 "shift_right" (ads 11) := T 11 _ rfl rfl
theorem Tops.bits : Fn h0 mg 12 "bits" (ads 12) := T 12 _ rfl rfl
theorem Tops.low : Fn h0 mg 13 "low" (ads 13) := T 13 _ rfl rfl
theorem Tops.signed : Fn h0 mg 15 "signed" (ads 15) := T 15 _ rfl rfl
theorem Tops.s_neg : Fn h0 mg 16 "s_neg" (ads 16) := T 16 _ rfl rfl
theorem Tops.s_compare : Fn h0 mg 17 "s_compare" (ads 17) := T 17 _ rfl rfl
theorem Tops.s_add : Fn h0 mg 18 "s_add" (ads 18) := T 18 _ rfl rfl
theorem Tops.s_sub : Fn h0 mg 19 "s_sub" (ads 19) := T 19 _ rfl rfl
theorem Tops.s_mul : Fn h0 mg 20 "s_mul" (ads 20) := T 20 _ rfl rfl
theorem Tops.tdiv : Fn h0 mg 21 "tdiv" (ads 21) := T 21 _ rfl rfl
theorem Tops.cdiv : Fn h0 mg 22 "cdiv" (ads 22) := T 22 _ rfl rfl
theorem Tops.s_shift : Fn h0 mg 23 "s_shift" (ads 23) := T 23 _ rfl rfl
theorem Tops.common : Fn h0 mg 25 "common" (ads 25) := T 25 _ rfl rfl
theorem Tops.cut_signed : Fn h0 mg 26 "cut_signed" (ads 26) := T 26 _ rfl rfl
theorem Tops.signed_of : Fn h0 mg 27 "signed_of" (ads 27) := T 27 _ rfl rfl
theorem Tops.r_make : Fn h0 mg 28 "r_make" (ads 28) := T 28 _ rfl rfl
theorem Tops.r_neg : Fn h0 mg 29 "r_neg" (ads 29) := T 29 _ rfl rfl
theorem Tops.r_add : Fn h0 mg 30 "r_add" (ads 30) := T 30 _ rfl rfl
theorem Tops.r_sub : Fn h0 mg 31 "r_sub" (ads 31) := T 31 _ rfl rfl
theorem Tops.r_mul : Fn h0 mg 32 "r_mul" (ads 32) := T 32 _ rfl rfl
theorem Tops.r_inverse : Fn h0 mg 33 "r_inverse" (ads 33) := T 33 _ rfl rfl
theorem Tops.r_div : Fn h0 mg 34 "r_div" (ads 34) := T 34 _ rfl rfl
theorem Tops.r_compare : Fn h0 mg 35 "r_compare" (ads 35) := T 35 _ rfl rfl
theorem Tops.mul_school : Fn h0 mg 37 "mul_school" (ads 37) := T 37 _ rfl rfl
theorem Tops.divrem_small : Fn h0 mg 38 "divrem_small" (ads 38) := T 38 _ rfl rfl
theorem Tops.guessed_limb : Fn h0 mg 39 "guessed_limb" (ads 39) := T 39 _ rfl rfl
theorem Tops.take_away : Fn h0 mg 40 "take_away" (ads 40) := T 40 _ rfl rfl
theorem Tops.put_back : Fn h0 mg 41 "put_back" (ads 41) := T 41 _ rfl rfl
theorem Tops.divide_rows : Fn h0 mg 42 "divide_rows" (ads 42) := T 42 _ rfl rfl
theorem Tops.divrem_school : Fn h0 mg 43 "divrem_school" (ads 43) := T 43 _ rfl rfl
theorem Tops.law_spelled : Fn h0 mg 45 "_law_spelled" (ads 45) := T 45 _ rfl rfl
theorem Tops.law_limbs : Fn h0 mg 46 "_law_limbs" (ads 46) := T 46 _ rfl rfl
theorem Tops.law_least : Fn h0 mg 47 "_law_least" (ads 47) := T 47 _ rfl rfl
theorem Tops.law_shares : Fn h0 mg 48 "_law_shares" (ads 48) := T 48 _ rfl rfl
theorem Tops.law_plain_span : Fn h0 mg 49 "_law_plain_span" (ads 49) := T 49 _ rfl rfl
theorem Tops.law_first_within : Fn h0 mg 50 "_law_first_within" (ads 50) := T 50 _ rfl rfl
end

theorem forN_inv {Fb : Tr} {i : Nat} (I : Nat → List Sl → Prop) (R : PV → List Sl → Prop) {G : Oc → List Sl → Prop} : ∀ (items : List PV) (k : Nat) (σ : List Sl), I k σ →
    (∀ j x σ K, items[j]? = some x → I (k + j) σ → (∀ σ', I (k + j + 1) σ' → K .next σ') → (∀ r σ', R r σ' → K (.ret r) σ') → Fb (sp σ i (.val x)) K) →
    (∀ σ', I (k + items.length) σ' → G .next σ') → (∀ r σ', R r σ' → G (.ret r) σ') → forN Fb i items σ G
  | [], k, σ, h, _, he, _ => he σ h
  | x :: xs, k, σ, h, hs, he, hr => by
    refine hs 0 x σ _ rfl h (fun σ' h' => ?_) (fun r σ' h' => hr r σ' h')
    refine forN_inv I R xs (k + 1) σ' h' (fun j y σ K hj hI h1 h2 => hs (j + 1) y σ K hj ?_ ?_ h2) (fun σ' h' => he σ' ?_) hr
    · rw [show k + (j + 1) = k + 1 + j by lia]; exact hI
    · rw [show k + (j + 1) + 1 = k + 1 + j + 1 by lia]; exact h1
    · rw [List.length_cons, show k + (xs.length + 1) = k + 1 + xs.length by lia]; exact h'
theorem enN_inv {Fb : Tr} {i j : Nat} (I : Nat → List Sl → Prop) (R : PV → List Sl → Prop) {G : Oc → List Sl → Prop} : ∀ (items : List Int) (k : Nat) (σ : List Sl), I k σ →
    (∀ l x σ K, items[l]? = some x → I (k + l) σ → (∀ σ', I (k + l + 1) σ' → K .next σ') → (∀ r σ', R r σ' → K (.ret r) σ') → Fb (sp (sp σ i (.val (.int ((k + l : Nat) : Int)))) j (.val (.int x))) K) →
    (∀ σ', I (k + items.length) σ' → G .next σ') → (∀ r σ', R r σ' → G (.ret r) σ') → enN Fb i j k items σ G
  | [], k, σ, h, _, he, _ => he σ h
  | x :: xs, k, σ, h, hs, he, hr => by
    refine hs 0 x σ _ rfl h (fun σ' h' => ?_) (fun r σ' h' => hr r σ' h')
    refine enN_inv I R xs (k + 1) σ' h' (fun j y σ K hj hI h1 h2 => ?_) (fun σ' h' => he σ' ?_) hr
    · rw [show k + 1 + j = k + (j + 1) by lia]
      refine hs (j + 1) y σ K hj ?_ ?_ h2
      · rw [show k + (j + 1) = k + 1 + j by lia]; exact hI
      · rw [show k + (j + 1) + 1 = k + 1 + j + 1 by lia]; exact h1
    · rw [List.length_cons, show k + (xs.length + 1) = k + 1 + xs.length by lia]; exact h'
theorem whN_inv {Ft : BT} {Fb : Tr} (I : Nat → List Sl → Prop) (R : PV → List Sl → Prop) {G : Oc → List Sl → Prop} (n : Nat) (σ : List Sl) (h : I n σ)
    (hs : ∀ n σ K, I n σ → (∀ m σ', m < n → I m σ' → K .next σ') → (∀ r σ', R r σ' → K (.ret r) σ') → Ft σ fun c => then' c (Fb σ K) (G .next σ)) (hr : ∀ r σ', R r σ' → G (.ret r) σ') : ∃ k, whN Ft Fb k σ G := by
  refine ⟨n + 1, ?_⟩
  have key : ∀ k n σ, n < k → I n σ → whN Ft Fb k σ G := by
    intro k
    induction k with
    | zero => intro n σ h; lia
    | succ k ih =>
      intro n σ hk hI
      exact hs n σ _ hI (fun m σ' hm hI' => ih m σ' (by lia) hI') hr
  exact key _ n σ (by lia) h

theorem vsS {vs : List Value} {n : Nat} (h : vs.length = n + 1) : ∃ a r, vs = a :: r ∧ r.length = n := by
  cases vs with
  | nil => cases h
  | cons a r => exact ⟨a, r, rfl, Nat.succ.inj h⟩
theorem vs0 {P : List Value → Prop} (p : P []) {vs : List Value} (h : vs.length = 0) : P vs := by
  rw [List.length_eq_zero_iff.mp h]; exact p
theorem vs1 {P : List Value → Prop} (p : ∀ a, P [a]) {vs : List Value} (h : vs.length = 1) : P vs := by
  obtain ⟨a, r, rfl, h'⟩ := vsS h; exact vs0 (P := fun r => P (a :: r)) (p a) h'
theorem vs2 {P : List Value → Prop} (p : ∀ a b, P [a, b]) {vs : List Value} (h : vs.length = 2) : P vs := by
  obtain ⟨a, r, rfl, h'⟩ := vsS h; exact vs1 (P := fun r => P (a :: r)) (p a) h'
theorem vs3 {P : List Value → Prop} (p : ∀ a b c, P [a, b, c]) {vs : List Value} (h : vs.length = 3) : P vs := by
  obtain ⟨a, r, rfl, h'⟩ := vsS h; exact vs2 (P := fun r => P (a :: r)) (p a) h'
theorem vs4 {P : List Value → Prop} (p : ∀ a b c d, P [a, b, c, d]) {vs : List Value} (h : vs.length = 4) : P vs := by
  obtain ⟨a, r, rfl, h'⟩ := vsS h; exact vs3 (P := fun r => P (a :: r)) (p a) h'
theorem vs5 {P : List Value → Prop} (p : ∀ a b c d e, P [a, b, c, d, e]) {vs : List Value} (h : vs.length = 5) : P vs := by
  obtain ⟨a, r, rfl, h'⟩ := vsS h; exact vs4 (P := fun r => P (a :: r)) (p a) h'

def lv (w n : Nat) : PV := .ints (limbs (2 ^ w) n)
def sv (w : Nat) (z : Int) : PV := .tup [.bool (decide (z < 0)), lv w z.natAbs]
def qv (w : Nat) (q : Rat) : PV := .tup [sv w q.num, lv w q.den]
structure Wk (w : Nat) : Prop where
  lo : 1 ≤ w
  hi : w ≤ 8
def iv (n : Nat) : PV := .int (n : Int)
def Sm (q : Rat) : Prop := q.num.natAbs < 2 ^ 60 ∧ q.den < 2 ^ 60
def P_normal (ads : Ads) : PT := fun xs G => ∃ (w : Nat) (L : List Int), (Wk w ∧ Dg (2 ^ w) L ∧ L.length ≤ 100000) ∧ xs = [.ints L] ∧ G (lv w (val ((2 ^ w : Nat) : Int) L).toNat)
def P_compare (ads : Ads) : PT := fun xs G => ∃ (w : Nat) (m : Nat) (n : Nat), (Wk w ∧ m < 2 ^ 400 ∧ n < 2 ^ 400) ∧ xs = [lv w m, lv w n] ∧ G (.int (Int.sign ((m : Int) - n)))
def P_add (ads : Ads) : PT := fun xs G => ∃ (w : Nat) (m : Nat) (n : Nat), (Wk w ∧ m < 2 ^ 400 ∧ n < 2 ^ 400) ∧ xs = [lv w m, lv w n, iv w] ∧ G (lv w (m + n))
def P_sub (ads : Ads) : PT := fun xs G => ∃ (w : Nat) (m : Nat) (n : Nat), (Wk w ∧ m < 2 ^ 400 ∧ n ≤ m) ∧ xs = [lv w m, lv w n, iv w] ∧ G (lv w (m - n))
def P_add_limb (ads : Ads) : PT := fun xs G => ∃ (w : Nat) (m : Nat) (k : Nat), (Wk w ∧ m < 2 ^ 400 ∧ k < 2 ^ w) ∧ xs = [lv w m, iv k, iv w] ∧ G (lv w (m + k))
def P_divrem_limb (ads : Ads) : PT := fun xs G => ∃ (w : Nat) (m : Nat) (k : Nat), (Wk w ∧ m < 2 ^ 400 ∧ 0 < k ∧ k < 2 ^ w) ∧ xs = [lv w m, iv k, iv w] ∧ G (.tup [lv w (m / k), iv (m % k)])
def P_shift_left (ads : Ads) : PT := fun xs G => ∃ (w : Nat) (m : Nat) (n : Nat), (Wk w ∧ m < 2 ^ 400 ∧ n ≤ 100) ∧ xs = [lv w m, iv n, iv w] ∧ G (lv w (m * 2 ^ n))
def P_shift_right (ads : Ads) : PT := fun xs G => ∃ (w : Nat) (m : Nat) (n : Nat), (Wk w ∧ m < 2 ^ 400 ∧ n < w) ∧ xs = [lv w m, iv n, iv w] ∧ G (lv w (m / 2 ^ n))
def P_bits (ads : Ads) : PT := fun xs G => ∃ (w : Nat) (x : Nat), (Wk w ∧ 0 < x ∧ x < 2 ^ w) ∧ xs = [.ints [(x : Int)], iv w] ∧ G (iv (Builtin.Int.intBits (x : Int)))
def P_low (ads : Ads) : PT := fun xs G => ∃ (w : Nat), (False) ∧ xs = [iv w] ∧ G (.none)
def P_signed (ads : Ads) : PT := fun xs G => ∃ (w : Nat) (b : Bool) (n : Nat), (Wk w) ∧ xs = [.bool b, lv w n] ∧ G (.tup [.bool (b && decide (n ≠ 0)), lv w n])
def P_s_neg (ads : Ads) : PT := fun xs G => ∃ (w : Nat) (z : Int), (Wk w) ∧ xs = [sv w z] ∧ G (sv w (-z))
def P_s_compare (ads : Ads) : PT := fun xs G => ∃ (w : Nat) (y : Int) (z : Int), (Wk w ∧ y.natAbs < 2 ^ 400 ∧ z.natAbs < 2 ^ 400) ∧ xs = [sv w y, sv w z] ∧ G (.int (Int.sign (y - z)))
def P_s_add (ads : Ads) : PT := fun xs G => ∃ (w : Nat) (y : Int) (z : Int), (Wk w ∧ y.natAbs < 2 ^ 400 ∧ z.natAbs < 2 ^ 400) ∧ xs = [sv w y, sv w z, iv w] ∧ G (sv w (y + z))
def P_s_sub (ads : Ads) : PT := fun xs G => ∃ (w : Nat) (y : Int) (z : Int), (Wk w ∧ y.natAbs < 2 ^ 400 ∧ z.natAbs < 2 ^ 400) ∧ xs = [sv w y, sv w z, iv w] ∧ G (sv w (y - z))
def P_s_mul (ads : Ads) : PT := fun xs G => ∃ (w : Nat) (y : Int) (z : Int), (Wk w ∧ y.natAbs < 2 ^ 190 ∧ z.natAbs < 2 ^ 190) ∧ xs = [sv w y, sv w z, iv w, .fn (ads 37)] ∧ G (sv w (y * z))
def P_tdiv (ads : Ads) : PT := fun xs G => ∃ (w : Nat) (m : Nat) (n : Nat), (Wk w ∧ m < 2 ^ 190 ∧ n < 2 ^ 190 ∧ 0 < n) ∧ xs = [sv w (m : Nat), sv w (n : Nat), iv w, .fn (ads 43)] ∧ G (.tup [sv w (m / n : Nat), sv w (m % n : Nat)])
def P_cdiv (ads : Ads) : PT := fun xs G => ∃ (w : Nat) (m : Nat) (n : Nat), (Wk w ∧ m < 2 ^ 190 ∧ n < 2 ^ 190 ∧ 0 < n) ∧ xs = [sv w (m : Nat), sv w (n : Nat), iv w, .fn (ads 43)] ∧ ∀ r, G (.tup [sv w ((m + n - 1) / n : Nat), r])
def P_s_shift (ads : Ads) : PT := fun xs G => ∃ (w : Nat) (m : Nat) (n : Nat), (Wk w ∧ m < 2 ^ 190 ∧ n ≤ 100) ∧ xs = [sv w (m : Nat), iv n, iv w] ∧ G (sv w (m * 2 ^ n : Nat))
def P_common (ads : Ads) : PT := fun xs G => ∃ (w : Nat) (m : Nat) (n : Nat), (Wk w ∧ m < 2 ^ 190 ∧ n < 2 ^ 190) ∧ xs = [lv w m, lv w n, iv w, .fn (ads 43)] ∧ G (lv w (Nat.gcd m n))
def P_cut_signed (ads : Ads) : PT := fun xs G => ∃ (w : Nat) (z : Int) (n : Nat), (Wk w ∧ z.natAbs < 2 ^ 190 ∧ n < 2 ^ 190 ∧ 0 < n ∧ n ∣ z.natAbs) ∧ xs = [sv w z, lv w n, iv w, .fn (ads 43)] ∧ G (sv w (z / (n : Int)))
def P_signed_of (ads : Ads) : PT := fun xs G => ∃ (w : Nat) (n : Nat), (True) ∧ xs = [lv w n] ∧ G (sv w (n : Nat))
def P_r_make (ads : Ads) : PT := fun xs G => ∃ (w : Nat) (z : Int) (n : Nat), (Wk w ∧ z.natAbs < 2 ^ 190 ∧ n < 2 ^ 190 ∧ 0 < n) ∧ xs = [sv w z, sv w (n : Nat), iv w, .fn (ads 43)] ∧ G (qv w (mkRat z n))
def P_r_neg (ads : Ads) : PT := fun xs G => ∃ (w : Nat) (q : Rat), (Wk w) ∧ xs = [qv w q] ∧ G (qv w (-q))
def P_r_add (ads : Ads) : PT := fun xs G => ∃ (w : Nat) (p : Rat) (q : Rat), (Wk w ∧ Sm p ∧ Sm q) ∧ xs = [qv w p, qv w q, iv w, .fn (ads 37), .fn (ads 43)] ∧ G (qv w (p + q))
def P_r_sub (ads : Ads) : PT := fun xs G => ∃ (w : Nat) (p : Rat) (q : Rat), (Wk w ∧ Sm p ∧ Sm q) ∧ xs = [qv w p, qv w q, iv w, .fn (ads 37), .fn (ads 43)] ∧ G (qv w (p - q))
def P_r_mul (ads : Ads) : PT := fun xs G => ∃ (w : Nat) (p : Rat) (q : Rat), (Wk w ∧ Sm p ∧ Sm q) ∧ xs = [qv w p, qv w q, iv w, .fn (ads 37), .fn (ads 43)] ∧ G (qv w (p * q))
def P_r_inverse (ads : Ads) : PT := fun xs G => ∃ (w : Nat) (q : Rat), (Wk w ∧ q ≠ 0) ∧ xs = [qv w q] ∧ G (qv w q⁻¹)
def P_r_div (ads : Ads) : PT := fun xs G => ∃ (w : Nat) (p : Rat) (q : Rat), (Wk w ∧ Sm p ∧ Sm q ∧ q ≠ 0) ∧ xs = [qv w p, qv w q, iv w, .fn (ads 37), .fn (ads 43)] ∧ G (qv w (p / q))
def P_r_compare (ads : Ads) : PT := fun xs G => ∃ (w : Nat) (p : Rat) (q : Rat), (Wk w ∧ Sm p ∧ Sm q) ∧ xs = [qv w p, qv w q, iv w, .fn (ads 37)] ∧ G (.int (Int.sign (p.num * q.den - q.num * p.den)))
def P_mul_school (ads : Ads) : PT := fun xs G => ∃ (w : Nat) (m : Nat) (n : Nat), (Wk w ∧ m < 2 ^ 200 ∧ n < 2 ^ 200) ∧ xs = [lv w m, lv w n, iv w] ∧ G (lv w (m * n))
def P_divrem_small (ads : Ads) : PT := fun xs G => ∃ (w : Nat) (m : Nat) (k : Nat), (Wk w ∧ m < 2 ^ 400 ∧ 0 < k ∧ k < 2 ^ w) ∧ xs = [lv w m, lv w k, iv w] ∧ G (.tup [lv w (m / k), lv w (m % k)])
def P_guessed_limb (ads : Ads) : PT := fun xs G => ∃ (w : Nat) (t0 : Nat) (t1 : Nat) (t2 : Nat) (f : Nat) (s : Nat), (Wk w ∧ t0 < 2 ^ w ∧ t1 < 2 ^ w ∧ t2 < 2 ^ w ∧ 0 < f ∧ f < 2 ^ w ∧ s < 2 ^ w) ∧ xs = [.ints [(t0 : Int), (t1 : Int), (t2 : Int)], iv f, iv s, iv w] ∧ G (iv (min (((t2 * 2 ^ w + t1) * 2 ^ w + t0) / (f * 2 ^ w + s)) (2 ^ w - 1)))
def P_divrem_school (ads : Ads) : PT := fun xs G => ∃ (w : Nat) (m : Nat) (n : Nat), (Wk w ∧ m < 2 ^ 200 ∧ n < 2 ^ 200 ∧ 0 < n) ∧ xs = [lv w m, lv w n, iv w] ∧ G (.tup [lv w (m / n), lv w (m % n)])
def P_law_limbs (ads : Ads) : PT := fun xs G => ∃ (w : Nat) (n : Nat), (Wk w ∧ n < 2 ^ 60) ∧ xs = [iv n, iv w] ∧ G (lv w n)
def P_law_least (ads : Ads) : PT := fun xs G => ∃ (w : Nat) (t : Nat) (b : Nat), (Wk w ∧ t < 2 ^ 60 ∧ b < 2 ^ 30 ∧ 0 < b) ∧ xs = [iv t, iv b, iv w] ∧ G (qv w (mkRat t b))

def P_take_away (ads : Ads) : PM := fun p xs G => ∃ (w limb : Nat) (pre win post b : List Int), (Wk w ∧ Dg (2 ^ w) win ∧ Dg (2 ^ w) b ∧ win.length = b.length + 1 ∧ limb < 2 ^ w ∧ (pre ++ win ++ post).length ≤ 100000) ∧ p = .ints (pre ++ win ++ post) ∧ xs = [.ints b, iv limb, iv pre.length, iv w] ∧
  ∀ (win' : List Int) (r : Nat), Dg (2 ^ w) win' → win'.length = win.length → r ≤ 1 → val ((2 ^ w : Nat) : Int) win' = val ((2 ^ w : Nat) : Int) win - limb * val ((2 ^ w : Nat) : Int) b + r * ((2 ^ w : Nat) : Int) ^ win.length → G (iv r) (.ints (pre ++ win' ++ post))
def P_put_back (ads : Ads) : PM := fun p xs G => ∃ (w : Nat) (pre win post b : List Int), (Wk w ∧ Dg (2 ^ w) win ∧ Dg (2 ^ w) b ∧ win.length = b.length + 1 ∧ (pre ++ win ++ post).length ≤ 100000) ∧ p = .ints (pre ++ win ++ post) ∧ xs = [.ints b, iv pre.length, iv w] ∧
  ∀ (win' : List Int) (r : Nat), Dg (2 ^ w) win' → win'.length = win.length → r ≤ 1 → val ((2 ^ w : Nat) : Int) win' = val ((2 ^ w : Nat) : Int) win + val ((2 ^ w : Nat) : Int) b - r * ((2 ^ w : Nat) : Int) ^ win.length → G .none (.ints (pre ++ win' ++ post))
def P_divide_rows (ads : Ads) : PM := fun p xs G => ∃ (w : Nat) (rest b : List Int), (Wk w ∧ Dg (2 ^ w) rest ∧ Dg (2 ^ w) b ∧ 2 ≤ b.length ∧ b.length ≤ rest.length ∧ rest.length ≤ 100000 ∧ 0 < b.getD (b.length - 1) 0 ∧ val ((2 ^ w : Nat) : Int) (rest.drop (rest.length - b.length)) < val ((2 ^ w : Nat) : Int) b) ∧ p = .ints rest ∧ xs = [.ints b, iv w] ∧
  ∀ (Q rest' : List Int), Dg (2 ^ w) Q → Dg (2 ^ w) rest' → rest'.length = rest.length → Q.length ≤ rest.length → val ((2 ^ w : Nat) : Int) rest = val ((2 ^ w : Nat) : Int) Q * val ((2 ^ w : Nat) : Int) b + val ((2 ^ w : Nat) : Int) rest' → val ((2 ^ w : Nat) : Int) rest' < val ((2 ^ w : Nat) : Int) b → G (.ints Q) (.ints rest')

def spl (L : List Int) (j : Nat) (many : Nat) : Nat := (if j ≤ L.length then (L.getD (j - 1) 0).toNat else 9 * j + j / 2 + 2) % many
def P_law_spelled (ads : Ads) : PM := fun p xs G => ∃ (L : List Int) (k many : Nat), (k < 1000 ∧ 0 < many ∧ many < 1000 ∧ L.length ≤ 100 ∧ ∀ x ∈ L, 0 ≤ x) ∧ p = .list [iv k, .ints L] ∧ xs = [iv many] ∧ G (iv (spl L (k + 1) many)) (.list [iv (k + 1), .ints L])
def shq (w : Nat) (whole : Nat) : Nat → List Nat → List PV
  | _, [] => []
  | c, x :: r => .tup [qv w (mkRat c whole), qv w (mkRat x whole)] :: shq w whole (c + x) r
def nlist (W : List Nat) : PV := .ints (W.map fun (x : Nat) => (x : Int))
def P_law_shares (ads : Ads) : PT := fun xs G => ∃ (w : Nat) (W : List Nat), (Wk w ∧ W.length ≤ 4 ∧ 0 < W.length ∧ ∀ x ∈ W, 1 ≤ x ∧ x ≤ 4) ∧ xs = [nlist W, iv w] ∧ G (.list (shq w W.sum 0 W))
def spanN (W : List Nat) : List Nat → Nat × Nat × Nat → Nat × Nat × Nat
  | [], a => a
  | s :: r, (b, l, h) => spanN W r (b * W.sum + l * (W.take s).sum, l * W.getD s 0, h * W.sum)
def P_law_plain_span (ads : Ads) : PT := fun xs G => ∃ (w : Nat) (W T : List Nat), (Wk w ∧ W.length ≤ 4 ∧ 0 < W.length ∧ (∀ x ∈ W, 1 ≤ x ∧ x ≤ 4) ∧ T.length ≤ 4 ∧ ∀ s ∈ T, s < W.length) ∧ xs = [nlist W, nlist T, iv w] ∧
  G (.tup [qv w (mkRat (spanN W T (0, 1, 1)).1 (spanN W T (0, 1, 1)).2.2), qv w (mkRat (spanN W T (0, 1, 1)).2.1 (spanN W T (0, 1, 1)).2.2)])
def fwN (b e : Rat) : Nat → Nat → Nat × Rat
  | 0, k => (k, b)
  | f + 1, k => let q := mkRat (((b.num.toNat * 2 ^ k + b.den - 1) / b.den : Nat) : Int) (2 ^ k); if q < e then (k, q) else fwN b e f (k + 1)
def P_law_first_within (ads : Ads) : PT := fun xs G => ∃ (w : Nat) (b e : Rat), (Wk w ∧ 0 ≤ b ∧ b.num.natAbs < 2 ^ 30 ∧ b.den < 2 ^ 30 ∧ Sm e) ∧ xs = [qv w b, qv w e, iv w] ∧ G (.tup [iv (fwN b e 24 0).1, qv w (fwN b e 24 0).2])
end Mine

open PySem PySem.Calls PyProof.Rows
set_option Elab.async false
namespace Mine
theorem B2 {w : Nat} (h : Wk w) : 2 ≤ 2 ^ w := by
  have := Nat.pow_le_pow_right (show 0 < 2 by lia) h.lo; lia
theorem B256 {w : Nat} (h : Wk w) : 2 ^ w ≤ 256 := by
  have := Nat.pow_le_pow_right (show 0 < 2 by lia) h.hi; lia
theorem Bc (w : Nat) : ((2 ^ w : Nat) : Int) = (2 : Int) ^ w := by rw [Int.natCast_pow]; rfl
theorem mask' (x : Int) (w : Nat) : Builtin.bitAnd x ((2 : Int) ^ w - 1) = x % (2 : Int) ^ w := by
  have hp : 0 < 2 ^ w := Nat.two_pow_pos w
  rw [← Bc]
  have h1 : (((2 ^ w : Nat) : Int) - 1) = ((2 ^ w - 1 : Nat) : Int) := by lia
  generalize e : (2 ^ w : Nat) = m at hp h1 ⊢
  rw [h1]
  by_cases hx : 0 ≤ x
  · obtain ⟨n, rfl⟩ := Int.eq_ofNat_of_zero_le hx
    rw [bitAnd_pp (by lia) (by lia), Int.toNat_natCast, Int.toNat_natCast, ← e, Nat.and_two_pow_sub_one_eq_mod, Int.natCast_emod]
  · have h0 : 0 ≤ Builtin.bitNot x := bitNot_nonneg.mpr hx
    obtain ⟨n, hn⟩ := Int.eq_ofNat_of_zero_le h0
    have hn' : -x - 1 = (n : Int) := hn
    rw [bitAnd_np hx (by lia), hn, Int.toNat_natCast, Int.toNat_natCast, ← e, Nat.and_comm, Nat.and_two_pow_sub_one_eq_mod, e]
    have hr : n % m < m := Nat.mod_lt _ hp
    have hd : m * (n / m) + n % m = n := Nat.div_add_mod n m
    refine ((Int.ediv_emod_unique (a := x) (b := m) (q := -((n / m : Nat) : Int) - 1) (by lia)).mpr ⟨?_, by lia, by lia⟩).2.symm
    have hd' : (m : Int) * ((n / m : Nat) : Int) + ((n % m : Nat) : Int) = n := by rw [← Int.natCast_mul, ← Int.natCast_add, hd]
    rw [Int.mul_sub, Int.mul_neg, Int.mul_one]
    lia
theorem fd {a b : Int} (h : 0 ≤ b) : a.fdiv b = a / b := Int.fdiv_eq_ediv_of_nonneg _ h
theorem fm {a b : Int} (h : 0 ≤ b) : a.fmod b = a % b := Int.fmod_eq_emod_of_nonneg _ h

section
variable {G : PV → Prop} {K : Oc → List Sl → Prop} {H : Bool → Prop} {J : List PV → Prop} {σ : List Sl} {s : Sl} {i j : Int}
theorem zcp (n : Nat) : nameT n (s :: σ) G = (match sg (s :: σ) n with | .val x => G x | _ => False) := rfl
theorem zcq (n : Nat) : ownT n (s :: σ) G = (match sg (s :: σ) n with | .own x => G x | _ => False) := rfl
theorem zcr (n : Nat) (F : Tr) : frzT n F (s :: σ) K = (match sg (s :: σ) n with | .own p => F (sp (s :: σ) n (.val p)) K | _ => False) := rfl
theorem zcs : addT (.int i) (.int j) G = G (.int (i + j)) := rfl
theorem zct (x y : List Int) : addT (.ints x) (.ints y) G = (x.length + y.length ≤ 1000000 ∧ G (.ints (x ++ y))) := rfl
theorem zcu : subT (.int i) (.int j) G = G (.int (i - j)) := rfl
theorem zcv : mulT (.int i) (.int j) G = (i.natAbs < 2 ^ 64 ∧ G (.int (i * j))) := rfl
theorem zcw : fdivT (.int i) (.int j) G = (j ≠ 0 ∧ j.natAbs < 1073741824 ∧ G (.int (i.fdiv j))) := rfl
theorem zcx : fmodT (.int i) (.int j) G = (j ≠ 0 ∧ G (.int (i.fmod j))) := rfl
theorem zcy : shlT (.int i) (.int j) G = (0 ≤ j ∧ j ≤ 1000000 ∧ i.natAbs < 2 ^ 64 ∧ G (.int (i * 2 ^ j.toNat))) := rfl
theorem zcz : shrT (.int i) (.int j) G = (0 ≤ j ∧ G (.int (i.fdiv (2 ^ j.toNat)))) := rfl
theorem zda : andT (.int i) (.int j) G = G (.int (Builtin.bitAnd i j)) := rfl
theorem zdb : orT (.int i) (.int j) G = G (.int (Builtin.bitOr i j)) := rfl
theorem zdc : powT (.int i) (.int j) G = (0 ≤ j ∧ j ≤ 1000000 ∧ i.natAbs < 2 ^ 64 ∧ G (.int (i ^ j.toNat))) := rfl
theorem zdd : ltT (.int i) (.int j) H = H (decide (i < j)) := rfl
theorem zde : leT (.int i) (.int j) H = H (decide (i ≤ j)) := rfl
theorem zdf : gtT (.int i) (.int j) H = H (decide (j < i)) := rfl
theorem zdg : geT (.int i) (.int j) H = H (decide (j ≤ i)) := rfl
theorem zdh : eqT (.int i) (.int j) H = H (decide (i = j)) := rfl
theorem v_ne : neT (.int i) (.int j) H = H (decide (i ≠ j)) := by
  show H (!(i == j)) = _
  congr 1
  by_cases h : i = j <;> simp [h]
theorem zdj (b c : Bool) : eqT (.bool b) (.bool c) H = H (b == c) := rfl
theorem zdk (b c : Bool) : neT (.bool b) (.bool c) H = H (!(b == c)) := rfl
theorem zdl (b : Bool) : boolT (.bool b) H = H b := rfl
theorem zgd {p : Prop} [Decidable p] {a b : Prop} : then' (decide p) a b = ((p → a) ∧ (¬ p → b)) := by unfold then'; simp only [decide_eq_true_eq, decide_eq_false_iff_not]
theorem zdi : neT (.int i) (.int j) H = H (!(decide (i = j))) := rfl
theorem zge {p : Prop} [Decidable p] {a b : Prop} : then' (!(decide p)) a b = ((¬ p → a) ∧ (p → b)) := by
  unfold then'
  by_cases h : p <;> simp [h]
theorem zgf {a b : Prop} : then' true a b = a := by unfold then'; simp
theorem zgg {a b : Prop} : then' false a b = b := by unfold then'; simp
theorem zdm (b : Bool) : notT (.bool b) G = G (.bool (!b)) := rfl
theorem zdn (L : List Int) : seqT (.ints L) G = G (.ints L) := rfl
theorem zdo (L : List PV) : seqT (.list L) G = G (.list L) := rfl
theorem zdp (L : List PV) : seqT (.tup L) G = G (.tup L) := rfl
theorem zdq (L : List Int) : itemT (.ints L) (.int i) G = (0 ≤ i ∧ i < (L.length : Int) ∧ G (.int (L.getD i.toNat 0))) := rfl
theorem zdr (L : List PV) : itemT (.list L) (.int i) G = (0 ≤ i ∧ i < (L.length : Int) ∧ G (nthP L i.toNat)) := rfl
theorem zds (x : PV) (L : List PV) : itemT (.tup (x :: L)) (.int 0) G = G x := rfl
theorem zdt (x y : PV) (L : List PV) : itemT (.tup (x :: y :: L)) (.int 1) G = G y := rfl
theorem zdu (L : List Int) : lastT (.ints L) G = (0 < L.length ∧ G (.int (L.getD (L.length - 1) 0))) := rfl
theorem zdv (G : Option Int → Prop) : partT (.int i) G = G (some i) := rfl
theorem zdw (L : List Int) (lo hi : Option Int) : sliceT (.ints L) lo hi G = G (.ints (pickNums L lo hi none)) := rfl
theorem zdx (L : List Int) : lenT (.ints L) G = G (.int (L.length : Int)) := rfl
theorem zdy (L : List PV) : lenT (.list L) G = G (.int (L.length : Int)) := rfl
theorem zdz (L : List PV) : lenT (.tup L) G = G (.int (L.length : Int)) := rfl
theorem zea : minT (.int i) (.int j) G = G (.int (if j < i then j else i)) := rfl
theorem zeb (L : List Int) : sumT (.ints L) G = ((∀ x ∈ L, -(2 ^ 40) ≤ x ∧ x ≤ 2 ^ 40) ∧ G (.int L.sum)) := rfl
theorem zec (G : List Int → Prop) : intsT [] G = G [] := rfl
theorem zed (G : List Int → Prop) : intsT [.int i] G = G [i] := rfl
theorem zee (x : List Int) : repT (.ints x) (.int j) G = (x.length * j.toNat ≤ 1000000 ∧ -1000000 ≤ j ∧ j ≤ 1000000 ∧ G (.ints (List.replicate j.toNat x).flatten)) := rfl
theorem zef (x y : List Int) : catT (.ints x) (.ints y) G = (x.length + y.length ≤ 1000000 ∧ G (.ints (x ++ y))) := rfl
theorem zeg (L : List Int) : setO (.ints L) (.int i) (.int j) G = (0 ≤ i ∧ i < (L.length : Int) ∧ G (.ints (L.set i.toNat j))) := rfl
theorem zeh (L : List PV) (p : PV) : setO (.list L) (.int i) p G = (0 ≤ i ∧ i < (L.length : Int) ∧ G (.list (L.set i.toNat p))) := rfl
theorem zei (L : List Int) : appO (.ints L) (.int i) G = (L.length < 1000000 ∧ G (.ints (L ++ [i]))) := rfl
theorem zej (L : List PV) (p : PV) : appO (.list L) p G = (L.length < 1000000 ∧ G (.list (L ++ [p]))) := rfl
theorem zek (L : List Int) : itemsT (.ints L) J = J (L.map .int) := rfl
theorem zel (L : List PV) : itemsT (.list L) J = J L := rfl
theorem zem : range1T (.int i) J = (-1000000 ≤ i ∧ i ≤ 1000000 ∧ J ((List.range i.toNat).map fun (k : Nat) => PV.int (k : Int))) := rfl
theorem zen : range2T (.int i) (.int j) J = (-1000000 ≤ i ∧ i ≤ 1000000 ∧ -1000000 ≤ j ∧ j ≤ 1000000 ∧ J ((List.range (j - i).toNat).map fun (k : Nat) => PV.int (i + (k : Int)))) := rfl
theorem zeo : rangeDT (.int i) J = (-1 ≤ i ∧ i ≤ 1000000 ∧ J ((List.range (i + 1).toNat).map fun (k : Nat) => PV.int (i - (k : Int)))) := rfl
theorem zep (L : List Int) (J : List Int → Prop) : enumT (.ints L) J = J L := rfl
theorem zeq (P : Prop) : noneT .none P = P := rfl
theorem zer (F : Tr) : seqO F K .next σ = F σ K := rfl
theorem zes (F : Tr) (x : PV) : seqO F K (.ret x) σ = K (.ret x) σ := rfl
theorem zet (x : PV) : endT G (.ret x) σ = G x := rfl
theorem zeu : endT G .next σ = G .none := rfl
theorem zev (G : PV → PV → Prop) (q x : PV) : endM G (.ret x) (.own q :: σ) = G x q := rfl
theorem zew (G : PV → PV → Prop) (q : PV) : endM G .next (.own q :: σ) = G .none q := rfl
theorem zex : putAll σ [] = σ := rfl
theorem zey (n : Nat) (t : Sl) (r : List (Nat × Sl)) : putAll (s :: σ) ((n, t) :: r) = putAll (sp (s :: σ) n t) r := rfl
theorem zez (n : Nm) (ns : List Nm) (t : Sl) (r : List Sl) : zipS (n :: ns) (t :: r) = (n.1, t) :: zipS ns r := rfl
theorem zfa (r : List Sl) : zipS [] r = [] := rfl
theorem zfb (p : PV) (n : Nm) (ns : List Nm) (r : List Sl) : own0 (n :: ns) (.val p :: r) = own0 ns r := rfl
theorem zfc (p : PV) (n : Nm) (ns : List Nm) (r : List Sl) : own0 (n :: ns) (.own p :: r) = (n.1 ≠ 0 ∧ own0 ns r) := rfl
theorem zfd (r : List Sl) : own0 [] r = True := rfl
theorem zfe (x : PV) (r : List PV) : nthP (x :: r) 0 = x := rfl
theorem zff (x : PV) (r : List PV) (n : Nat) : nthP (x :: r) (n + 1) = nthP r n := rfl
theorem zfg {α β : Type} (f : α → β) : List.map f [] = [] := rfl
theorem zfh {α β : Type} (f : α → β) (x : α) (L : List α) : List.map f (x :: L) = f x :: List.map f L := rfl
theorem zfi {α : Type} (L : List α) : [] ++ L = L := rfl
theorem zfj {α : Type} (x : α) (L M : List α) : (x :: L) ++ M = x :: (L ++ M) := rfl
theorem zfk {α : Type} (x : α) : List.replicate 0 x = [] := rfl
theorem zfl {α : Type} (n : Nat) (x : α) : List.replicate (n + 1) x = x :: List.replicate n x := rfl
theorem zfm {α : Type} : ([] : List α).length = 0 := rfl
theorem zfn {α : Type} (x : α) (L : List α) : (x :: L).length = L.length + 1 := rfl
theorem zfo {α : Type} (L : List α) : L.reverse = List.reverseAux L [] := rfl
theorem zfp {α : Type} (L : List α) : List.reverseAux [] L = L := rfl
theorem zfq {α : Type} (x : α) (L M : List α) : List.reverseAux (x :: L) M = List.reverseAux L (x :: M) := rfl
theorem zfr (n : Nat) : (n : Int).toNat = n := rfl
theorem zfs (r : List Sl) : sg (s :: r) 0 = s := rfl
theorem zft (r : List Sl) (n : Nat) : sg (s :: r) (n + 1) = sg r n := rfl
theorem zfu (r : List Sl) (t : Sl) : sp (s :: r) 0 t = t :: r := rfl
theorem zfv (r : List Sl) (n : Nat) (t : Sl) : sp (s :: r) (n + 1) t = s :: sp r n t := rfl
theorem zfw : ownCount [] = 0 := rfl
theorem zfx (p : PV) (r : List Sl) : ownCount (.val p :: r) = ownCount r := rfl
theorem zfy (p : PV) (r : List Sl) : ownCount (.own p :: r) = ownCount r + 1 := rfl
theorem zfz (w n : Nat) : lv w n = .ints (limbs (2 ^ w) n) := rfl
theorem zga (w : Nat) (z : Int) : sv w z = .tup [.bool (decide (z < 0)), .ints (limbs (2 ^ w) z.natAbs)] := rfl
theorem zgb (w : Nat) (q : Rat) : qv w q = .tup [.tup [.bool (decide (q.num < 0)), .ints (limbs (2 ^ w) q.num.natAbs)], .ints (limbs (2 ^ w) q.den)] := rfl
theorem zgc (n : Nat) : iv n = .int (n : Int) := rfl
end
theorem go_seq {F2 : Tr} {K : Oc → List Sl → Prop} {σ : List Sl} (h : F2 σ K) : seqO F2 K .next σ := h
theorem two_ways {F2 : Tr} {K : Oc → List Sl → Prop} {σ₀ : List Sl} {c A : Prop} (I : List Sl → Prop) (h : ∀ σ, I σ → F2 σ K) (hA : (∀ σ, I σ → F2 σ K) → c → A) (h₀ : ¬ c → I σ₀) : (c → A) ∧ (¬ c → seqO F2 K .next σ₀) :=
  ⟨hA h, fun n => h _ (h₀ n)⟩
theorem two_ways2 {F2 : Tr} {K : Oc → List Sl → Prop} {σ₀ σ₁ : List Sl} {c : Prop} (I : List Sl → Prop) (h : ∀ σ, I σ → F2 σ K) (h₁ : c → I σ₁) (h₀ : ¬ c → I σ₀) : (c → 0 ≤ 1 ∧ seqO q_SSs_nil (seqO F2 K) .next σ₁) ∧ (¬ c → seqO F2 K .next σ₀) :=
  ⟨fun y => ⟨Nat.zero_le 1, h _ (h₁ y)⟩, fun n => h _ (h₀ n)⟩
end Mine

open PySem PySem.Calls PyProof.Rows
set_option Elab.async false
namespace Mine
theorem forR_inv {Fb : Tr} {i : Nat} {n : Nat} {f : Nat → PV} (I : Nat → List Sl → Prop) (R : PV → List Sl → Prop) {G : Oc → List Sl → Prop} {σ : List Sl} (h : I 0 σ)
    (hs : ∀ k σ K, k < n → I k σ → (∀ σ', I (k + 1) σ' → K .next σ') → (∀ r σ', R r σ' → K (.ret r) σ') → Fb (sp σ i (.val (f k))) K)
    (he : ∀ σ', I n σ' → G .next σ') (hr : ∀ r σ', R r σ' → G (.ret r) σ') : forN Fb i ((List.range n).map f) σ G := by
  refine forN_inv I R _ 0 σ h (fun j x σ K hj hI h1 h2 => ?_) (fun σ' h' => he σ' (by simpa using h')) hr
  rw [List.getElem?_map] at hj
  have hjn : j < n := by
    rcases Nat.lt_or_ge j n with h | h
    · exact h
    · rw [List.getElem?_eq_none (by simpa using h)] at hj; cases hj
  rw [List.getElem?_range hjn] at hj
  cases hj
  rw [Nat.zero_add] at hI h1
  exact hs j σ K hjn hI h1 h2
theorem forL_inv {Fb : Tr} {i : Nat} {L : List Int} (I : Nat → List Sl → Prop) (R : PV → List Sl → Prop) {G : Oc → List Sl → Prop} {σ : List Sl} (h : I 0 σ)
    (hs : ∀ k σ K, k < L.length → I k σ → (∀ σ', I (k + 1) σ' → K .next σ') → (∀ r σ', R r σ' → K (.ret r) σ') → Fb (sp σ i (.val (.int (L.getD k 0)))) K)
    (he : ∀ σ', I L.length σ' → G .next σ') (hr : ∀ r σ', R r σ' → G (.ret r) σ') : forN Fb i (L.map .int) σ G := by
  refine forN_inv I R _ 0 σ h (fun j x σ K hj hI h1 h2 => ?_) (fun σ' h' => he σ' (by simpa using h')) hr
  rw [List.getElem?_map] at hj
  have hjn : j < L.length := by
    rcases Nat.lt_or_ge j L.length with h | h
    · exact h
    · rw [List.getElem?_eq_none (by simpa using h)] at hj; cases hj
  rw [List.getElem?_eq_getElem hjn] at hj
  cases hj
  rw [Nat.zero_add] at hI h1
  have := hs j σ K hjn hI h1 h2
  rw [List.getD_eq_getElem?_getD, List.getElem?_eq_getElem hjn] at this
  exact this
theorem enL_inv {Fb : Tr} {i j : Nat} {L : List Int} (I : Nat → List Sl → Prop) (R : PV → List Sl → Prop) {G : Oc → List Sl → Prop} {σ : List Sl} (h : I 0 σ)
    (hs : ∀ k σ K, k < L.length → I k σ → (∀ σ', I (k + 1) σ' → K .next σ') → (∀ r σ', R r σ' → K (.ret r) σ') → Fb (sp (sp σ i (.val (.int (k : Int)))) j (.val (.int (L.getD k 0)))) K)
    (he : ∀ σ', I L.length σ' → G .next σ') (hr : ∀ r σ', R r σ' → G (.ret r) σ') : enN Fb i j 0 L σ G := by
  refine enN_inv I R _ 0 σ h (fun l x σ K hj hI h1 h2 => ?_) (fun σ' h' => he σ' (by simpa using h')) hr
  have hjn : l < L.length := by
    rcases Nat.lt_or_ge l L.length with h | h
    · exact h
    · rw [List.getElem?_eq_none (by simpa using h)] at hj; cases hj
  rw [Nat.zero_add] at hI h1 ⊢
  have := hs l σ K hjn hI h1 h2
  rw [List.getD_eq_getElem?_getD, hj] at this
  exact this

section
variable {B : Nat}
theorem limbs_of' (hB : 2 ≤ B) {L : List Int} (h : Dg B L) {n : Nat} (hv : val B L = n) (hl : L = [] ∨ B ^ (L.length - 1) ≤ n) : L = limbs B n := by
  refine limbs_of hB h ?_ hv
  rcases hl with hl | hl
  · exact .inl hl
  · rcases Nat.eq_zero_or_pos L.length with h0 | h0
    · exact .inl (List.length_eq_zero_iff.mp h0)
    · right
      intro e
      have h1 := val_take_succ (B : Int) L (L.length - 1) (by lia)
      rw [e, Int.mul_zero, Int.add_zero, show L.length - 1 + 1 = L.length by lia, List.take_length] at h1
      have h2 := val_lt (h.take (L.length - 1))
      rw [List.length_take_of_le (by lia), ← h1, hv] at h2
      have h3 : (n : Int) < ((B ^ (L.length - 1) : Nat) : Int) := by rw [Int.natCast_pow]; exact h2
      lia
theorem carry_step (hB : 2 ≤ B) (k : Nat) (c : Int) : (B : Int) ^ k * (c % B) + (B : Int) ^ (k + 1) * (c / B) = (B : Int) ^ k * c := by
  have := Int.emod_add_mul_ediv c B
  rw [Int.pow_succ]
  grind
theorem val_snoc (b : Int) (L : List Int) (x : Int) : val b (L ++ [x]) = val b L + b ^ L.length * x := by rw [val_append]; simp [val]
theorem pow_pos' (hB : 2 ≤ B) (k : Nat) : (0 : Int) < (B : Int) ^ k := Int.pow_pos (by lia)
theorem limbs_getD (hB : 2 ≤ B) (n k : Nat) : 0 ≤ (limbs B n).getD k 0 ∧ (limbs B n).getD k 0 < (B : Int) := (limbs_dg hB n).getD (by lia) k
theorem limbs_ge' (hB : 2 ≤ B) (n : Nat) : limbs B n = [] ∨ B ^ ((limbs B n).length - 1) ≤ n := by
  rcases Nat.eq_zero_or_pos n with h | h
  · exact .inl (by rw [h, limbs_zero])
  · exact .inr (limbs_ge hB h)
theorem val_lt_of (hB : 2 ≤ B) {x y : List Int} (hx : Dg B x) (hy : Dg B y) (hl : x.length = y.length) (i : Nat) (hi : i < x.length) (hd : x.drop (i + 1) = y.drop (i + 1)) (h : x.getD i 0 < y.getD i 0) : val B x < val B y := by
  rw [val_take_drop B x (i + 1) (by lia), val_take_drop B y (i + 1) (by lia), hd, val_take_succ B x i hi, val_take_succ B y i (by lia)]
  have h1 := val_lt (hx.take i)
  have h2 := val_nonneg (hy.take i)
  rw [List.length_take_of_le (by lia)] at h1
  have h3 : (B : Int) ^ i * (x.getD i 0 + 1) ≤ (B : Int) ^ i * y.getD i 0 := Int.mul_le_mul_of_nonneg_left (by lia) (Int.le_of_lt (pow_pos' hB i))
  rw [Int.mul_add] at h3
  lia
theorem drop_succ_getD (L : List Int) (k : Nat) (h : k < L.length) : L.drop k = L.getD k 0 :: L.drop (k + 1) := by
  rw [List.getD_eq_getElem?_getD, List.getElem?_eq_getElem h, Option.getD_some, List.getElem_cons_drop]
end
end Mine

open PySem PySem.Calls PyProof.Rows
set_option Elab.async false
namespace Mine
section
variable {B : Nat}
theorem or_low {x y : Int} {k : Nat} (hx : 0 ≤ x) (h0 : 0 ≤ y) (h1 : y < (2 : Int) ^ k) : Builtin.bitOr (x * 2 ^ k) y = x * 2 ^ k + y := by
  have hp : (0 : Int) ≤ x * 2 ^ k := Int.mul_nonneg hx (Int.le_of_lt (Int.pow_pos (by decide)))
  have h2 := Nat.shiftLeft_add_eq_or_of_lt (i := k) (b := y.toNat) (by have : ((2 ^ k : Nat) : Int) = (2 : Int) ^ k := Int.natCast_pow 2 k; lia) x.toNat
  have h3 := nat_or_add_and (x.toNat <<< k) y.toNat
  rw [bitOr_and, bitAnd_pp hp h0]
  have h4 : (x * 2 ^ k).toNat = x.toNat <<< k := by
    rw [Nat.shiftLeft_eq]
    have : ((x.toNat * 2 ^ k : Nat) : Int) = x * 2 ^ k := by rw [Int.natCast_mul, Int.natCast_pow, Int.toNat_of_nonneg hx]; rfl
    lia
  rw [h4]
  lia
theorem or_low' {x y : Int} {k : Nat} (hx : 0 ≤ x) (h0 : 0 ≤ y) (h1 : y < (2 : Int) ^ k) : Builtin.bitOr y (x * 2 ^ k) = y + x * 2 ^ k := by rw [bitOr_comm, or_low hx h0 h1, Int.add_comm]
theorem val_take_succ' (b : Int) (L : List Int) (k : Nat) : val b (L.take (k + 1)) = val b (L.take k) + b ^ k * L.getD k 0 := by
  rcases Nat.lt_or_ge k L.length with h | h
  · exact val_take_succ b L k h
  · rw [List.take_of_length_le (by lia), List.take_of_length_le h, List.getD_eq_getElem?_getD, List.getElem?_eq_none h]; simp
theorem val_set (b : Int) : ∀ (L : List Int) (k : Nat) (v : Int), k < L.length → val b (L.set k v) = val b L + b ^ k * (v - L.getD k 0)
  | [], k, v, h => by simp at h
  | x :: r, 0, v, h => by simp [val]; lia
  | x :: r, k + 1, v, h => by
    rw [List.set_cons_succ, val, val, val_set b r k v (by simpa using h), Int.pow_succ, List.getD_cons_succ]
    grind
theorem getD_set_ne (L : List Int) (k i : Nat) (v : Int) (h : k ≠ i) : (L.set k v).getD i 0 = L.getD i 0 := by
  rw [List.getD_eq_getElem?_getD, List.getD_eq_getElem?_getD, List.getElem?_set_ne h]
theorem getD_set_eq (L : List Int) (k : Nat) (v : Int) (h : k < L.length) : (L.set k v).getD k 0 = v := by
  rw [List.getD_eq_getElem?_getD, List.getElem?_set_self h]; rfl
theorem getD_rep (n k : Nat) : (List.replicate n (0 : Int)).getD k 0 = 0 := by
  rw [List.getD_eq_getElem?_getD]
  cases e : (List.replicate n (0 : Int))[k]? with
  | none => rfl
  | some v => exact (List.mem_replicate.mp (List.mem_of_getElem? e)).2
theorem flat1 : ∀ n : Nat, (List.replicate n [(0 : Int)]).flatten = List.replicate n 0
  | 0 => rfl
  | n + 1 => by rw [List.replicate_succ, List.flatten_cons, flat1 n, List.replicate_succ]; rfl
theorem val_drop (b : Int) (L : List Int) (k : Nat) : val b (L.drop k) = L.getD k 0 + b * val b (L.drop (k + 1)) := by
  rcases Nat.lt_or_ge k L.length with h | h
  · rw [drop_succ_getD L k h, val]
  · rw [List.drop_of_length_le h, List.drop_of_length_le (by lia), List.getD_eq_getElem?_getD, List.getElem?_eq_none h]; simp [val]
end
end Mine

open PySem PySem.Calls PyProof.Rows
set_option Elab.async false
namespace Mine
theorem knuth {B β S T vlo wlo : Nat} (hB : 0 < B) (hβ : 0 < β) (hS : B ≤ S) (hv : vlo < β) (hw : wlo < β) (hW : wlo + β * T < B * (vlo + β * S)) :
    wlo + β * T < (min (T / S) (B - 1) + 1) * (vlo + β * S) ∧ min (T / S) (B - 1) * (vlo + β * S) < wlo + β * T + (vlo + β * S) := by
  constructor
  · rcases Nat.le_total (B - 1) (T / S) with h | h
    · rw [Nat.min_eq_right h, show B - 1 + 1 = B by lia]; exact hW
    · rw [Nat.min_eq_left h]
      have h1 : T < (T / S + 1) * S := by rw [Nat.add_mul, Nat.one_mul]; exact Nat.lt_div_mul_add (by lia)
      have h2 : β * (T + 1) ≤ β * ((T / S + 1) * S) := Nat.mul_le_mul_left _ h1
      rw [Nat.mul_add β T 1] at h2
      have h3 : β * ((T / S + 1) * S) = (T / S + 1) * (β * S) := by rw [Nat.mul_left_comm]
      have h4 : (T / S + 1) * (β * S) ≤ (T / S + 1) * (vlo + β * S) := Nat.mul_le_mul_left _ (by lia)
      lia
  · generalize hq : min (T / S) (B - 1) = q
    have q1 : q ≤ T / S := by lia
    have q2 : q ≤ B - 1 := by lia
    have h1 : q * S ≤ T := Nat.le_trans (Nat.mul_le_mul_right _ q1) (Nat.div_mul_le_self _ _)
    have h2 : β * (q * S) ≤ β * T := Nat.mul_le_mul_left _ h1
    have h3 : β * (q * S) = q * (β * S) := by rw [Nat.mul_left_comm]
    have h4 : q * vlo ≤ (B - 1) * β := Nat.mul_le_mul q2 (by lia)
    have h5 : (B - 1) * β + β = B * β := by rw [← Nat.succ_mul]; congr 1; lia
    have h6 : B * β ≤ S * β := Nat.mul_le_mul_right _ hS
    rw [Nat.mul_comm S β] at h6
    rw [Nat.mul_add]
    lia
theorem take3 (L : List Int) (j : Nat) (h : j + 3 ≤ L.length) : (L.drop j).take 3 = [L.getD j 0, L.getD (j + 1) 0, L.getD (j + 2) 0] := by
  rw [drop_succ_getD L j (by lia), drop_succ_getD L (j + 1) (by lia), drop_succ_getD L (j + 1 + 1) (by lia)]
  rfl
theorem val_top2 (b : Int) (L : List Int) (h : 2 ≤ L.length) : val b L = val b (L.take (L.length - 2)) + b ^ (L.length - 2) * (L.getD (L.length - 1) 0 * b + L.getD (L.length - 2) 0) := by
  have h1 := val_take_succ' b L (L.length - 2)
  have h2 := val_take_succ' b L (L.length - 2 + 1)
  rw [show L.length - 2 + 1 + 1 = L.length by lia, List.take_length] at h2
  rw [h2, h1, show L.length - 2 + 1 = L.length - 1 by lia, show b ^ (L.length - 1) = b ^ (L.length - 2) * b by rw [← Int.pow_succ]; congr 1; lia]
  grind
theorem val_top3 (b : Int) (L : List Int) (k : Nat) (h : L.length = k + 3) : val b L = val b (L.take k) + b ^ k * ((L.getD (k + 2) 0 * b + L.getD (k + 1) 0) * b + L.getD k 0) := by
  have h1 := val_take_succ' b L k
  have h2 := val_take_succ' b L (k + 1)
  have h3 := val_take_succ' b L (k + 1 + 1)
  rw [show k + 1 + 1 + 1 = L.length by lia, List.take_length] at h3
  have p1 : b ^ (k + 1) = b ^ k * b := Int.pow_succ _ _
  have p2 : b ^ (k + 1 + 1) = b ^ k * b * b := by rw [Int.pow_succ, p1]
  rw [h3, h2, h1, p1, p2]
  grind
end Mine
namespace Mine
theorem sdiv {z : Int} {n : Nat} (hn : 0 < n) (hd : n ∣ z.natAbs) : (z / (n : Int)).natAbs = z.natAbs / n ∧ decide (z / (n : Int) < 0) = decide (z < 0) := by
  obtain ⟨k, hk⟩ := hd
  have e1 : z.natAbs / n = k := by rw [hk, Nat.mul_div_cancel_left _ hn]
  have hz' : z = n * (if z < 0 then -(k : Int) else k) := by
    split
    · rw [Int.mul_neg, ← Int.natCast_mul, ← hk]; lia
    · rw [← Int.natCast_mul, ← hk]; lia
  have e2 : z / (n : Int) = if z < 0 then -(k : Int) else k := by
    conv => lhs; rw [hz']
    rw [Int.mul_ediv_cancel_left _ (by lia)]
  have e3 : z < 0 → 0 < k := by
    intro h
    rcases Nat.eq_zero_or_pos k with h0 | h0
    · rw [h0, Nat.mul_zero] at hk; lia
    · exact h0
  rw [e1, e2]
  constructor
  · split <;> lia
  · apply decide_eq_decide.mpr; split <;> lia
theorem rat_of {q : Rat} {a : Int} {b : Nat} (hb : 0 < b) (hc : Nat.Coprime a.natAbs b) (h : q = mkRat a b) : q.num = a ∧ q.den = b := by
  subst h
  rw [Rat.num_mkRat, Rat.den_mkRat, if_neg (by lia), if_neg (by lia), Nat.gcd_comm]
  have : a.natAbs.gcd b = 1 := hc
  rw [this]
  simp
theorem qv_mk {w : Nat} {z : Int} {n : Nat} (hn : 0 < n) : qv w (mkRat z n) = .tup [.tup [.bool (decide (z < 0)), lv w (z.natAbs / Nat.gcd z.natAbs n)], lv w (n / Nat.gcd z.natAbs n)] := by
  have hg : 0 < Nat.gcd z.natAbs n := Nat.gcd_pos_of_pos_right _ hn
  have hs := sdiv (z := z) hg (Nat.gcd_dvd_left _ _)
  unfold qv sv
  rw [Rat.num_mkRat, Rat.den_mkRat, if_neg (by lia), if_neg (by lia), Nat.gcd_comm n, hs.1, hs.2]
theorem qv_zero {w : Nat} (hw : Wk w) : qv w 0 = .tup [.tup [.bool false, .ints []], .ints [1]] := by
  show PV.tup [.tup [.bool (decide ((0 : Int) < 0)), .ints (limbs (2 ^ w) 0)], .ints (limbs (2 ^ w) 1)] = _
  have := B2 hw
  rw [limbs_zero, limbs_pos this (by lia), Nat.mod_eq_of_lt (by lia), Nat.div_eq_of_lt (by lia), limbs_zero]
  rfl
theorem cop_div {a b g h : Nat} (c : Nat.Coprime a b) (hg : g ∣ a) (hh : h ∣ b) : Nat.Coprime (a / g) (b / h) := by
  refine Nat.Coprime.coprime_dvd_left (Nat.div_dvd_of_dvd hg) (Nat.Coprime.coprime_dvd_right (Nat.div_dvd_of_dvd hh) c)
theorem mul_parts {a b c d : Nat} (ha : 0 < a) (hb : 0 < b) (hc : 0 < c) (hd : 0 < d) (h1 : Nat.Coprime a b) (h2 : Nat.Coprime c d) :
    Nat.Coprime ((a / Nat.gcd a d) * (c / Nat.gcd c b)) ((b / Nat.gcd c b) * (d / Nat.gcd a d)) := by
  have e1 : Nat.Coprime (a / Nat.gcd a d) (b / Nat.gcd c b) := cop_div h1 (Nat.gcd_dvd_left _ _) (Nat.gcd_dvd_right _ _)
  have e2 : Nat.Coprime (a / Nat.gcd a d) (d / Nat.gcd a d) := Nat.coprime_div_gcd_div_gcd (Nat.gcd_pos_of_pos_left _ ha)
  have e3 : Nat.Coprime (c / Nat.gcd c b) (b / Nat.gcd c b) := Nat.coprime_div_gcd_div_gcd (Nat.gcd_pos_of_pos_left _ hc)
  have e4 : Nat.Coprime (c / Nat.gcd c b) (d / Nat.gcd a d) := cop_div h2 (Nat.gcd_dvd_left _ _) (Nat.gcd_dvd_right _ _)
  exact Nat.Coprime.mul_left (Nat.Coprime.mul_right e1 e2) (Nat.Coprime.mul_right e3 e4)
end Mine
namespace Mine
theorem limbs_len_le {B n k : Nat} (hB : 2 ≤ B) (h : n < B ^ k) : (limbs B n).length ≤ k := by
  rcases Nat.eq_zero_or_pos n with rfl | h0
  · rw [limbs_zero]; simp
  · have h1 := limbs_ge hB h0
    have := (Nat.pow_lt_pow_iff_right (show 1 < B by lia)).mp (Nat.lt_of_le_of_lt h1 h)
    lia
theorem limbs_len_ge {B n k : Nat} (hB : 2 ≤ B) (h : B ^ k ≤ n) : k < (limbs B n).length := by
  have h1 := limbs_lt hB n
  exact (Nat.pow_lt_pow_iff_right (show 1 < B by lia)).mp (Nat.lt_of_le_of_lt h h1)
end Mine
namespace Mine
theorem cop_lin {a b : Int} {x y : Nat} (h1 : Nat.Coprime a.natAbs x) (h2 : Nat.Coprime x y) : Nat.Coprime (a * y + b * x).natAbs x := by
  have hg1 : Nat.gcd (a * y + b * x).natAbs x ∣ (a * y + b * x).natAbs := Nat.gcd_dvd_left _ _
  have hg2 : Nat.gcd (a * y + b * x).natAbs x ∣ x := Nat.gcd_dvd_right _ _
  show Nat.gcd _ _ = 1
  generalize Nat.gcd (a * y + b * x).natAbs x = g at *
  have d1 : (g : Int) ∣ a * y + b * x := Int.ofNat_dvd_left.mpr hg1
  have d2 : (g : Int) ∣ b * x := Int.dvd_trans (Int.ofNat_dvd.mpr hg2) (Int.dvd_mul_left _ _)
  have d3 : (g : Int) ∣ a * y := by
    have := Int.dvd_sub d1 d2
    rwa [Int.add_sub_cancel] at this
  have d4 : g ∣ a.natAbs * y := by
    have := Int.ofNat_dvd_left.mp d3
    rwa [Int.natAbs_mul, Int.natAbs_natCast] at this
  have c1 : Nat.Coprime g a.natAbs := (Nat.Coprime.coprime_dvd_right hg2 h1).symm
  have d5 : g ∣ y := Nat.Coprime.dvd_of_dvd_mul_left c1 d4
  have d6 : g ∣ Nat.gcd x y := Nat.dvd_gcd hg2 d5
  rw [h2] at d6
  exact Nat.dvd_one.mp d6
theorem abs_neg' {y : Int} (h : y < 0) : ∃ a : Nat, 0 < a ∧ y = -(a : Int) := ⟨y.natAbs, Int.natAbs_pos.mpr (Int.ne_of_lt h), by rw [Int.ofNat_natAbs_of_nonpos (Int.le_of_lt h), Int.neg_neg]⟩
theorem abs_pos' {y : Int} (h : ¬ y < 0) : ∃ a : Nat, y = (a : Int) := ⟨y.natAbs, (Int.natAbs_of_nonneg (Int.not_lt.mp h)).symm⟩
theorem sgn_same {y z : Int} (e : y < 0 ↔ z < 0) : ((y < 0 ∧ y.natAbs + z.natAbs ≠ 0) ↔ y + z < 0) ∧ y.natAbs + z.natAbs = (y + z).natAbs := by
  by_cases h : y < 0
  · obtain ⟨a, ha, rfl⟩ := abs_neg' h
    obtain ⟨b, hb, rfl⟩ := abs_neg' (e.mp h)
    rw [← Int.neg_add, ← Int.natCast_add, Int.natAbs_neg, Int.natAbs_neg, Int.natAbs_neg, Int.natAbs_natCast, Int.natAbs_natCast, Int.natAbs_natCast]
    exact ⟨⟨fun _ => by lia, fun _ => ⟨h, by lia⟩⟩, rfl⟩
  · obtain ⟨a, rfl⟩ := abs_pos' h
    obtain ⟨b, rfl⟩ := abs_pos' (fun x => h (e.mpr x))
    rw [← Int.natCast_add, Int.natAbs_natCast, Int.natAbs_natCast, Int.natAbs_natCast]
    exact ⟨⟨fun x => absurd x.1 h, fun x => absurd x (by lia)⟩, rfl⟩
theorem sgn_diff {y z : Int} (e : ¬ (y < 0 ↔ z < 0)) (l : z.natAbs ≤ y.natAbs) : ((y < 0 ∧ y.natAbs - z.natAbs ≠ 0) ↔ y + z < 0) ∧ y.natAbs - z.natAbs = (y + z).natAbs := by
  by_cases h : y < 0
  · obtain ⟨a, ha, rfl⟩ := abs_neg' h
    obtain ⟨b, rfl⟩ := abs_pos' (fun x => e ⟨fun _ => x, fun _ => h⟩)
    rw [Int.natAbs_neg, Int.natAbs_natCast, Int.natAbs_natCast] at l ⊢
    obtain ⟨c, rfl⟩ := Nat.exists_eq_add_of_le l
    rw [show -((b + c : Nat) : Int) + b = -(c : Int) by lia, Int.natAbs_neg, Int.natAbs_natCast, Nat.add_sub_cancel_left]
    exact ⟨⟨fun x => by lia, fun x => ⟨h, by lia⟩⟩, rfl⟩
  · obtain ⟨a, rfl⟩ := abs_pos' h
    by_cases h' : z < 0
    · obtain ⟨b, hb, rfl⟩ := abs_neg' h'
      rw [Int.natAbs_neg, Int.natAbs_natCast, Int.natAbs_natCast] at l ⊢
      obtain ⟨c, rfl⟩ := Nat.exists_eq_add_of_le l
      rw [show ((b + c : Nat) : Int) + -(b : Int) = (c : Int) by lia, Int.natAbs_natCast, Nat.add_sub_cancel_left]
      exact ⟨⟨fun x => absurd x.1 h, fun x => absurd x (by lia)⟩, rfl⟩
    · exact absurd ⟨fun x => absurd x h, fun x => absurd x h'⟩ e
theorem neg_sign (z : Int) : (¬ z < 0 ∧ z.natAbs ≠ 0) ↔ -z < 0 := by
  rw [Int.natAbs_ne_zero, Int.neg_neg_iff_pos, Int.not_lt]
  exact ⟨fun h => Int.lt_iff_le_and_ne.mpr ⟨h.1, Ne.symm h.2⟩, fun h => ⟨Int.le_of_lt h, Int.ne_of_gt h⟩⟩
end Mine

open PySem PySem.Calls PyProof.Rows
set_option Elab.async false
namespace Mine
abbrev castL (W : List Nat) : List Int := W.map fun (x : Nat) => (x : Int)
theorem cast_sum : ∀ W : List Nat, (castL W).sum = ((W.sum : Nat) : Int)
  | [] => rfl
  | x :: r => by rw [castL, List.map_cons, List.sum_cons, List.sum_cons, Int.natCast_add]; rw [← cast_sum r]
theorem cast_getD (W : List Nat) (k : Nat) : (castL W).getD k 0 = ((W.getD k 0 : Nat) : Int) := by
  rw [List.getD_eq_getElem?_getD, List.getD_eq_getElem?_getD, castL, List.getElem?_map]
  cases W[k]? <;> rfl
theorem cast_take (W : List Nat) (k : Nat) : (castL W).take k = castL (W.take k) := by rw [castL, castL, List.map_take]
theorem cast_len (W : List Nat) : (castL W).length = W.length := by rw [castL, List.length_map]
theorem sum_le (W : List Nat) (h : ∀ x ∈ W, 1 ≤ x ∧ x ≤ 4) : W.sum ≤ 4 * W.length := by
  induction W with
  | nil => simp
  | cons x r ih =>
    have h1 := h x List.mem_cons_self
    have h2 := ih (fun y hy => h y (List.mem_cons_of_mem _ hy))
    rw [List.sum_cons, List.length_cons]; lia
theorem sum_ge (W : List Nat) (h : ∀ x ∈ W, 1 ≤ x ∧ x ≤ 4) : W.length ≤ W.sum := by
  induction W with
  | nil => simp
  | cons x r ih =>
    have h1 := h x List.mem_cons_self
    have h2 := ih (fun y hy => h y (List.mem_cons_of_mem _ hy))
    rw [List.sum_cons, List.length_cons]; lia
theorem getD_mem {W : List Nat} {k : Nat} (h : k < W.length) : W.getD k 0 ∈ W := by
  rw [List.getD_eq_getElem?_getD, List.getElem?_eq_getElem h]; exact List.getElem_mem h
theorem getD_mem4 {W : List Nat} (h : ∀ x ∈ W, 1 ≤ x ∧ x ≤ 4) (k : Nat) : W.getD k 0 ≤ 4 := by
  rcases Nat.lt_or_ge k W.length with hk | hk
  · exact (h _ (getD_mem hk)).2
  · rw [List.getD_eq_getElem?_getD, List.getElem?_eq_none hk]; simp
theorem sum_take_le (W : List Nat) (s : Nat) : (W.take s).sum ≤ W.sum := by
  have : W.sum = (W.take s).sum + (W.drop s).sum := by rw [← List.sum_append_nat, List.take_append_drop]
  lia
theorem dropN {W : List Nat} {k : Nat} (h : k < W.length) : W.drop k = W.getD k 0 :: W.drop (k + 1) := by
  rw [List.getD_eq_getElem?_getD, List.getElem?_eq_getElem h, Option.getD_some, List.getElem_cons_drop]
theorem small_cast {W : List Nat} (h : ∀ x ∈ W, 1 ≤ x ∧ x ≤ 4) : ∀ x ∈ castL W, -(2 ^ 40) ≤ x ∧ x ≤ 2 ^ 40 := by
  intro x hx
  obtain ⟨y, hy, rfl⟩ := List.mem_map.mp hx
  have := h y hy
  exact ⟨by lia, by lia⟩
end Mine
namespace Mine
theorem sv_nat (w n : Nat) : sv w (n : Int) = .tup [.bool false, .ints (limbs (2 ^ w) n)] := by
  unfold sv lv
  rw [show decide ((n : Int) < 0) = false by apply decide_eq_false; lia, Int.natAbs_natCast]
theorem Sm_mk {z : Int} {n : Nat} (hz : z.natAbs < 2 ^ 60) (hn : n < 2 ^ 60) (h0 : 0 < n) : Sm (mkRat z n) := by
  have hg : 0 < Nat.gcd z.natAbs n := Nat.gcd_pos_of_pos_right _ h0
  have hs := sdiv (z := z) hg (Nat.gcd_dvd_left _ _)
  refine ⟨?_, ?_⟩
  · rw [Rat.num_mkRat, if_neg (by lia), Nat.gcd_comm n, hs.1]
    exact Nat.lt_of_le_of_lt (Nat.div_le_self _ _) hz
  · rw [Rat.den_mkRat, if_neg (by lia)]
    exact Nat.lt_of_le_of_lt (Nat.div_le_self _ _) hn
theorem one_limb {w : Nat} (hw : Wk w) : limbs (2 ^ w) 1 = [1] := by
  have := B2 hw
  rw [limbs_pos this (by lia), Nat.mod_eq_of_lt (by lia), Nat.div_eq_of_lt (by lia), limbs_zero]; rfl
theorem sign_lt {p q : Rat} : Int.sign (p.num * q.den - q.num * p.den) < 0 ↔ p < q := by
  rw [Int.sign_neg_iff, Rat.lt_iff]; lia
theorem sign_le {p q : Rat} : Int.sign (p.num * q.den - q.num * p.den) ≤ 0 ↔ p ≤ q := by
  rw [Rat.le_iff]
  have := Int.sign_nonneg_iff (x := q.num * p.den - p.num * q.den)
  have h2 : p.num * q.den - q.num * p.den = -(q.num * p.den - p.num * q.den) := by lia
  rw [h2, Int.sign_neg]; lia
end Mine

open PySem PySem.Calls PyProof.Rows
set_option Elab.async false
namespace Mine
abbrev rq (n d : Nat) : Rat := mkRat (n : Int) d
theorem rq_div (n d : Nat) : rq n d = (n : Rat) / (d : Rat) := by
  rw [rq, Rat.mkRat_eq_div]; rfl
theorem natc_pos {d : Nat} (h : 0 < d) : (0 : Rat) < (d : Rat) := by exact_mod_cast h
theorem natc_nonneg (d : Nat) : (0 : Rat) ≤ (d : Rat) := by exact_mod_cast Nat.zero_le d
theorem rq_lt {a b c d : Nat} (hb : 0 < b) (hd : 0 < d) : rq a b < rq c d ↔ a * d < c * b := by
  rw [rq_div, rq_div, Rat.div_lt_iff (natc_pos hb)]
  have h1 : (c : Rat) / d * b = (c * b : Nat) / (d : Rat) := by rw [Rat.natCast_mul, Rat.div_def, Rat.div_def]; grind
  rw [h1, Rat.lt_div_iff (natc_pos hd), ← Rat.natCast_mul]
  exact Rat.natCast_lt_natCast
theorem rq_le {a b c d : Nat} (hb : 0 < b) (hd : 0 < d) : rq a b ≤ rq c d ↔ a * d ≤ c * b := by
  have := rq_lt (a := c) (b := d) (c := a) (d := b) hd hb
  rw [← Rat.not_lt, this]; lia
theorem rq_eq {a b c d : Nat} (hb : 0 < b) (hd : 0 < d) : rq a b = rq c d ↔ a * d = c * b := by
  rw [rq, rq, Rat.mkRat_eq_iff (by lia) (by lia), ← Int.natCast_mul, ← Int.natCast_mul]
  lia
theorem rq_add {a b c d : Nat} (hb : 0 < b) (hd : 0 < d) : rq a b + rq c d = rq (a * d + c * b) (b * d) := by
  rw [rq, rq, Rat.mkRat_add_mkRat _ _ (by lia) (by lia), rq, Int.natCast_add, Int.natCast_mul, Int.natCast_mul]
theorem rq_mul {a b c d : Nat} : rq a b * rq c d = rq (a * c) (b * d) := by
  rw [rq, rq, Rat.mkRat_mul_mkRat, rq, Int.natCast_mul]
theorem Sm_rq {n d : Nat} (hn : n < 2 ^ 60) (hd : d < 2 ^ 60) (h0 : 0 < d) : Sm (rq n d) := Sm_mk (by simpa using hn) hd h0
theorem rq_zero (d : Nat) : rq 0 d = 0 := by rw [rq]; exact Rat.zero_mkRat d
theorem rq_one : rq 1 1 = 1 := by decide +kernel

theorem spanN_append (W : List Nat) : ∀ (T1 T2 : List Nat) (a : Nat × Nat × Nat), spanN W (T1 ++ T2) a = spanN W T2 (spanN W T1 a)
  | [], T2, (b, l, h) => rfl
  | s :: T1, T2, (b, l, h) => by rw [List.cons_append, spanN, spanN, spanN_append W T1 T2]
theorem spanN_take (W T : List Nat) (k : Nat) (hk : k < T.length) {b l h : Nat} (e : spanN W (T.take k) (0, 1, 1) = (b, l, h)) (s : Nat) :
    spanN W (T.take k ++ [s]) (0, 1, 1) = (b * W.sum + l * (W.take s).sum, l * W.getD s 0, h * W.sum) := by
  rw [spanN_append, e]; rfl
structure Spn (W : List Nat) (k b l h : Nat) : Prop where
  h0 : 0 < h
  l0 : 0 < l
  bl : b + l ≤ h
  hk : h ≤ 16 ^ k
theorem part_le (W : List Nat) (s : Nat) (h : s < W.length) : (W.take s).sum + W.getD s 0 ≤ W.sum := by
  have e : (W.take (s + 1)).sum = (W.take s).sum + W.getD s 0 := by
    rw [List.take_add_one, List.getElem?_eq_getElem h, List.sum_append_nat, List.getD_eq_getElem?_getD, List.getElem?_eq_getElem h]; simp
  rw [← e]; exact sum_take_le W (s + 1)
theorem Spn.step {W : List Nat} {k b l h s : Nat} (H : Spn W k b l h) (hW : ∀ x ∈ W, 1 ≤ x ∧ x ≤ 4) (hl : W.length ≤ 4) (hs : s < W.length) : Spn W (k + 1) (b * W.sum + l * (W.take s).sum) (l * W.getD s 0) (h * W.sum) where
  h0 := Nat.mul_pos H.h0 (by have := sum_ge W hW; lia)
  l0 := Nat.mul_pos H.l0 (hW _ (getD_mem hs)).1
  bl := by
    have h1 := Nat.mul_le_mul_left l (part_le W s hs)
    rw [Nat.mul_add] at h1
    have h2 := Nat.mul_le_mul_right W.sum H.bl
    rw [Nat.add_mul] at h2
    lia
  hk := by
    rw [Nat.pow_succ]
    exact Nat.mul_le_mul H.hk (by have := sum_le W hW; lia)
end Mine
namespace Mine
theorem intsOf_map {α : Type} (f : α → Int) : ∀ l : List α, intsOf (l.map fun x => PV.int (f x)) = some (l.map f)
  | [] => rfl
  | x :: r => by rw [List.map_cons, intsOf, intsOf_map f r]; rfl
theorem comp_abs {K : List PV → List Sl → Prop} : ∀ (M : List Int) (acc : List PV) (σ : List Sl), K (acc ++ M.map fun x => PV.int (if x < 0 then -x else x)) σ →
    compT (fun _ _ G => G true) (fun σ q G => nameT 0 (mkσ [] σ q) fun a => intT a fun a => absT a fun y => G y σ) (M.map .int) acc σ K
  | [], acc, σ, h => by simpa [compT] using h
  | x :: r, acc, σ, h => by
    rw [List.map_cons, compT]
    show then' true _ _
    rw [zgf]
    show compT _ _ (r.map .int) (acc ++ [PV.int (if x < 0 then -x else x)]) σ K
    refine comp_abs r _ σ ?_
    rw [List.append_assoc]
    exact h
theorem comp_spl (Good : List Sl → Prop) (hgood : ∀ σ t, Good σ → Good (sp σ 1 t)) {Fe : List Sl → PV → (PV → List Sl → Prop) → Prop} {L : List Int} {lo many : Nat} {K : List PV → List Sl → Prop} (hm : 0 < many) (hm2 : many < 1000)
    (hL : L.length ≤ 100 ∧ ∀ x ∈ L, 0 ≤ x)
    (hFe : ∀ (k : Nat) (σ : List Sl) (q : PV) (G : PV → List Sl → Prop), k < 900 → Good σ → sg σ 1 = .own (.list [iv k, .ints L]) → (∃ hk : True, G (iv (lo + spl L (k + 1) many)) (sp σ 1 (.own (.list [iv (k + 1), .ints L])))) → Fe σ q G) :
    ∀ (items : List PV) (acc : List Nat) (k : Nat) (σ : List Sl), 1 < σ.length → Good σ → sg σ 1 = .own (.list [iv k, .ints L]) → k + items.length < 900 → (∀ x ∈ acc, lo ≤ x ∧ x < lo + many) →
      (∀ (W : List Nat) (σ' : List Sl), W.length = acc.length + items.length → (∀ x ∈ W, lo ≤ x ∧ x < lo + many) → σ' = sp σ 1 (.own (.list [iv (k + items.length), .ints L])) → K (W.map iv) σ') →
      compT (fun _ _ G => G true) Fe items (acc.map iv) σ K
  | [], acc, k, σ, hl, hg, hσ, hk, ha, hK => by
    refine hK acc σ rfl ha ?_
    rw [List.length_nil, Nat.add_zero, ← hσ]
    exact (sp_same σ 1 hl).symm
  | q :: qs, acc, k, σ, hl, hg, hσ, hk, ha, hK => by
    rw [List.length_cons] at hk
    rw [compT]
    show then' true _ _
    rw [zgf]
    refine hFe k σ q _ (by lia) hg hσ ⟨trivial, ?_⟩
    have hs := sg_sp_same σ 1 (.own (.list [iv (k + 1), .ints L])) hl
    have := comp_spl (K := K) Good hgood hm hm2 hL hFe qs (acc ++ [lo + spl L (k + 1) many]) (k + 1) (sp σ 1 (.own (.list [iv (k + 1), .ints L]))) (by rw [sp_length]; exact hl) (hgood _ _ hg) hs (by lia) ?_ ?_
    · rw [List.map_append] at this; exact this
    · intro x hx
      rcases List.mem_append.mp hx with hx | hx
      · exact ha x hx
      · rw [List.mem_singleton] at hx
        have : spl L (k + 1) many < many := Nat.mod_lt _ hm
        lia
    · intro W σ' hW hr he
      refine hK W σ' (by rw [hW]; simp; lia) hr ?_
      rw [he, sp_sp, List.length_cons, show k + 1 + qs.length = k + (qs.length + 1) by lia]
where
  sp_same : ∀ (σ : List Sl) (i : Nat), i < σ.length → sp σ i (sg σ i) = σ := fun σ i h => by
    induction σ generalizing i with
    | nil => simp at h
    | cons s r ih => cases i with
      | zero => rfl
      | succ i => show s :: sp r i (sg r i) = _; rw [ih i (by simpa using h)]
  sp_sp {σ : List Sl} {i : Nat} {a b : Sl} : sp (sp σ i a) i b = sp σ i b := by
    induction σ generalizing i with
    | nil => rfl
    | cons s r ih => cases i with
      | zero => rfl
      | succ i => show s :: sp (sp r i a) i b = s :: sp r i b; rw [ih]
end Mine

open PySem PySem.Calls PyProof.Rows
set_option Elab.async false
namespace Mine
theorem resT_map {α : Type} (f : α → Int) (l : List α) (G : PV → Prop) : resT (l.map fun x => PV.int (f x)) G = G (.ints (l.map f)) := by
  unfold resT; rw [intsOf_map]
theorem resT_iv (W : List Nat) (G : PV → Prop) : resT (W.map iv) G = G (nlist W) := resT_map (fun x : Nat => (x : Int)) W G
theorem spl_lt {L : List Int} {j m : Nat} (h : 0 < m) : spl L j m < m := Nat.mod_lt _ h
theorem qv_0 {w : Nat} (hw : Wk w) : PV.tup [.tup [.bool false, .ints []], .ints [1]] = qv w (rq 0 1) := by rw [rq_zero, qv_zero hw]
theorem qv_1 {w : Nat} (hw : Wk w) : PV.tup [.tup [.bool false, .ints [1]], .ints [1]] = qv w (rq 1 1) := by
  rw [rq_one]
  show _ = PV.tup [sv w ((1 : Nat) : Int), lv w 1]
  rw [sv_nat, lv, one_limb hw]
theorem eqv_refl : ∀ (b : Bool) (x y : List Int), PV.eqv (.tup [.tup [.bool b, .ints x], .ints y]) (.tup [.tup [.bool b, .ints x], .ints y]) = true := by
  intro b x y
  simp [PV.eqv, PV.eqvL]
theorem ne_qv {w : Nat} (p : Rat) (H : Bool → Prop) (h : H false) : neT (qv w p) (qv w p) H := by
  unfold qv sv lv
  refine ⟨by simp [PV.like, PV.likeL], by simp [PV.dp, PV.dpL], ?_⟩
  have : PV.eqvL [PV.tup [.bool (decide (p.num < 0)), .ints (limbs (2 ^ w) p.num.natAbs)], .ints (limbs (2 ^ w) p.den)] [PV.tup [.bool (decide (p.num < 0)), .ints (limbs (2 ^ w) p.num.natAbs)], .ints (limbs (2 ^ w) p.den)] = true := by
    simp [PV.eqv, PV.eqvL]
  rw [this]; exact h
theorem ne_qv2 {w : Nat} (p q : Rat) (H : Bool → Prop) (h : H false) : neT (.tup [qv w p, qv w q]) (.tup [qv w p, qv w q]) H := by
  unfold qv sv lv
  refine ⟨by simp [PV.like, PV.likeL], by simp [PV.dp, PV.dpL], ?_⟩
  have : PV.eqvL [PV.tup [PV.tup [.bool (decide (p.num < 0)), .ints (limbs (2 ^ w) p.num.natAbs)], .ints (limbs (2 ^ w) p.den)], PV.tup [PV.tup [.bool (decide (q.num < 0)), .ints (limbs (2 ^ w) q.num.natAbs)], .ints (limbs (2 ^ w) q.den)]]
     [PV.tup [PV.tup [.bool (decide (p.num < 0)), .ints (limbs (2 ^ w) p.num.natAbs)], .ints (limbs (2 ^ w) p.den)], PV.tup [PV.tup [.bool (decide (q.num < 0)), .ints (limbs (2 ^ w) q.num.natAbs)], .ints (limbs (2 ^ w) q.den)]] = true := by
    simp [PV.eqv, PV.eqvL]
  rw [this]; exact h
theorem shq_nth (w S : Nat) : ∀ (W : List Nat) (c s : Nat), s < W.length → nthP (shq w S c W) s = .tup [qv w (rq (c + (W.take s).sum) S), qv w (rq (W.getD s 0) S)]
  | [], c, s, h => by simp at h
  | x :: r, c, 0, h => by simp [shq, nthP]
  | x :: r, c, s + 1, h => by
    show nthP (shq w S (c + x) r) s = _
    rw [shq_nth w S r (c + x) s (by simpa using h), List.take_succ_cons, List.sum_cons, List.getD_cons_succ, Nat.add_assoc]
theorem shq_len (w S : Nat) : ∀ (W : List Nat) (c : Nat), (shq w S c W).length = W.length
  | [], c => rfl
  | x :: r, c => by rw [shq, List.length_cons, List.length_cons, shq_len w S r]
end Mine
namespace Mine
theorem rq_same {a b h : Nat} (h0 : 0 < h) : rq a h + rq b h = rq (a + b) h := by
  rw [rq_add h0 h0, rq_eq (Nat.mul_pos h0 h0) h0]; grind
theorem sign_gt {p q : Rat} : 0 < Int.sign (p.num * q.den - q.num * p.den) ↔ q < p := by
  rw [Int.sign_pos_iff, Rat.lt_iff]; lia
theorem sign_ge {p q : Rat} : 0 ≤ Int.sign (p.num * q.den - q.num * p.den) ↔ q ≤ p := by
  rw [Int.sign_nonneg_iff, Rat.le_iff]; lia
theorem take_succ_sum (W : List Nat) (s : Nat) : (W.take (s + 1)).sum = (W.take s).sum + W.getD s 0 := by
  rw [List.take_add_one, List.sum_append_nat, List.getD_eq_getElem?_getD]
  cases W[s]? <;> simp
end Mine

open PySem PySem.Calls PyProof.Rows
set_option Elab.async false
namespace Mine
theorem ceil_spec (x d : Nat) (hd : 0 < d) : x ≤ (x + d - 1) / d * d ∧ (x + d - 1) / d * d < x + d := by
  have h1 := Nat.div_add_mod (x + d - 1) d
  have h2 := Nat.mod_lt (x + d - 1) hd
  rw [Nat.mul_comm] at h1
  lia
theorem rq_parts {b h : Nat} (hh : 0 < h) : ∃ n : Nat, (rq b h).num = (n : Int) ∧ n * h = b * (rq b h).den ∧ n ≤ b ∧ (rq b h).den ≤ h := by
  have hg : 0 < Nat.gcd b h := Nat.gcd_pos_of_pos_right _ hh
  have e1 : (rq b h).num = ((b / Nat.gcd b h : Nat) : Int) := by
    rw [rq, Rat.num_mkRat, if_neg (by lia), Int.natAbs_natCast, Nat.gcd_comm, Int.natCast_ediv]
  have e2 : (rq b h).den = h / Nat.gcd b h := by
    rw [rq, Rat.den_mkRat, if_neg (by lia), Int.natAbs_natCast, Nat.gcd_comm]
  refine ⟨_, e1, ?_, Nat.div_le_self _ _, by rw [e2]; exact Nat.div_le_self _ _⟩
  rw [e2]
  have d1 := Nat.div_mul_cancel (Nat.gcd_dvd_left b h)
  have d2 := Nat.div_mul_cancel (Nat.gcd_dvd_right b h)
  generalize b / Nat.gcd b h = x at *
  generalize h / Nat.gcd b h = y at *
  generalize Nat.gcd b h = g at *
  rw [← d1, ← d2]; grind
theorem fw_spec {b l h : Nat} (hh : 0 < h) (hl : 0 < l) (h16 : h ≤ 65536) : ∀ (f k : Nat), k ≤ 16 → 16 < k + f → (0 < k → l * 2 ^ (k - 1) < h) →
    ∃ k' M, fwN (rq b h) (rq (b + l) h) f k = (k', rq M (2 ^ k')) ∧ k' ≤ 16 ∧ b * 2 ^ k' ≤ M * h ∧ M * h < (b + l) * 2 ^ k' ∧ (0 < k' → l * 2 ^ (k' - 1) < h)
  | 0, k, hk, hf, _ => by lia
  | f + 1, k, hk, hf, hp => by
    obtain ⟨n, hn, hnh, _, _⟩ := rq_parts (b := b) hh
    have hd : 0 < (rq b h).den := (rq b h).den_pos
    obtain ⟨d, hde⟩ : ∃ d, (rq b h).den = d := ⟨_, rfl⟩
    obtain ⟨M, hM⟩ : ∃ M, (n * 2 ^ k + d - 1) / d = M := ⟨_, rfl⟩
    have hstep : fwN (rq b h) (rq (b + l) h) (f + 1) k = if rq M (2 ^ k) < rq (b + l) h then (k, rq M (2 ^ k)) else fwN (rq b h) (rq (b + l) h) f (k + 1) := by
      show (if mkRat ((((rq b h).num.toNat * 2 ^ k + (rq b h).den - 1) / (rq b h).den : Nat) : Int) (2 ^ k) < _ then _ else _) = _
      rw [hn, Int.toNat_natCast, hde, hM]
    rw [hde] at hd hnh
    obtain ⟨c1, c2⟩ := ceil_spec (n * 2 ^ k) d hd
    rw [hM] at c1 c2
    have a1 : b * 2 ^ k ≤ M * h := by
      have h1 : n * 2 ^ k * h ≤ M * d * h := Nat.mul_le_mul_right _ c1
      have h2 : n * 2 ^ k * h = b * 2 ^ k * d := by rw [Nat.mul_right_comm, hnh]; grind
      have h3 : M * d * h = M * h * d := by grind
      rw [h2, h3] at h1
      exact Nat.le_of_mul_le_mul_right h1 hd
    have a2 : M * h < b * 2 ^ k + h := by
      have h1 : M * d * h < (n * 2 ^ k + d) * h := Nat.mul_lt_mul_of_pos_right c2 hh
      have h2 : (n * 2 ^ k + d) * h = (b * 2 ^ k + h) * d := by
        have : n * 2 ^ k * h = b * 2 ^ k * d := by rw [Nat.mul_right_comm, hnh]; grind
        grind
      have h3 : M * d * h = M * h * d := by grind
      rw [h2, h3] at h1
      exact Nat.lt_of_mul_lt_mul_right h1
    have hlt := rq_lt (a := M) (b := 2 ^ k) (c := b + l) (d := h) (Nat.two_pow_pos k) hh
    rw [hstep]
    by_cases ht : rq M (2 ^ k) < rq (b + l) h
    · rw [if_pos ht]
      exact ⟨k, M, rfl, hk, a1, hlt.mp ht, hp⟩
    · rw [if_neg ht]
      have ht' : ¬ M * h < (b + l) * 2 ^ k := fun e => ht (hlt.mpr e)
      rw [Nat.add_mul] at ht'
      have hlk : l * 2 ^ k < h := by lia
      have hk16 : k < 16 := by
        rcases Nat.lt_or_ge k 16 with e | e
        · exact e
        · have : k = 16 := by lia
          subst this
          have : 1 * 2 ^ 16 ≤ l * 2 ^ 16 := Nat.mul_le_mul_right _ hl
          lia
      exact fw_spec hh hl h16 f (k + 1) (by lia) (by lia) (fun _ => hlk)
theorem spanN_gen (W : List Nat) : ∀ (T : List Nat) (b l h : Nat), spanN W T (b, l, h) = (b * (spanN W T (0, 1, 1)).2.2 + l * (spanN W T (0, 1, 1)).1, l * (spanN W T (0, 1, 1)).2.1, h * (spanN W T (0, 1, 1)).2.2)
  | [], b, l, h => by simp [spanN]
  | s :: T, b, l, h => by
    rw [spanN, spanN_gen W T, spanN, spanN_gen W T (0 * W.sum + 1 * (W.take s).sum)]
    simp only [Prod.mk.injEq]
    refine ⟨?_, ?_, ?_⟩ <;> grind
theorem Spn_of {W : List Nat} (hW : ∀ x ∈ W, 1 ≤ x ∧ x ≤ 4) (hl : W.length ≤ 4) : ∀ (T : List Nat) (k b l h : Nat), (∀ s ∈ T, s < W.length) → Spn W k b l h → Spn W (k + T.length) (spanN W T (b, l, h)).1 (spanN W T (b, l, h)).2.1 (spanN W T (b, l, h)).2.2
  | [], k, b, l, h, hT, H => H
  | s :: T, k, b, l, h, hT, H => by
    have := Spn_of hW hl T (k + 1) _ _ _ (fun x hx => hT x (List.mem_cons_of_mem _ hx)) (H.step hW hl (hT s List.mem_cons_self))
    rw [List.length_cons, show k + (T.length + 1) = k + 1 + T.length by lia]
    exact this
theorem rq_sub {N D c S : Nat} (hD : 0 < D) (hS : 0 < S) (h : c * D ≤ N * S) : rq N D - rq c S = rq (N * S - c * D) (D * S) := by
  have h1 : rq (N * S - c * D) (D * S) + rq c S = rq N D := by
    rw [rq_add (Nat.mul_pos hD hS) hS, rq_eq (Nat.mul_pos (Nat.mul_pos hD hS) hS) hD]
    obtain ⟨e, he⟩ : ∃ e, N * S = c * D + e := ⟨N * S - c * D, by lia⟩
    have h2 : N * S - c * D = e := by lia
    rw [h2]
    grind
  rw [← h1]; grind
theorem rq_quot {a b u S : Nat} (hb : 0 < b) (hu : 0 < u) (hS : 0 < S) : rq a (b * S) / rq u S = rq a (b * u) := by
  have h1 : rq a (b * u) * rq u S = rq a (b * S) := by
    rw [rq_mul, rq_eq (Nat.mul_pos (Nat.mul_pos hb hu) hS) (Nat.mul_pos hb hS)]; grind
  have h2 : rq u S ≠ 0 := by
    intro e
    rw [← rq_zero 1, rq_eq hS (by decide)] at e
    lia
  rw [← h1]; grind
theorem rq_ne0 {u S : Nat} (hu : 0 < u) (hS : 0 < S) : rq u S ≠ 0 := by
  intro e
  rw [← rq_zero 1, rq_eq hS (by decide)] at e
  lia
def cntS (N D S : Nat) : Nat → List Nat → Nat
  | _, [] => 0
  | c, x :: r => (if c * D ≤ N * S then 1 else 0) + cntS N D S (c + x) r
theorem cntS_zero {N D S : Nat} : ∀ (R : List Nat) (c : Nat), N * S < c * D → cntS N D S c R = 0
  | [], c, h => rfl
  | x :: r, c, h => by
    rw [cntS, if_neg (by lia), cntS_zero r (c + x) (by rw [Nat.add_mul]; lia)]
theorem cntS_at {N D S : Nat} : ∀ (R : List Nat) (c s : Nat), s < R.length → (c + (R.take s).sum) * D ≤ N * S → N * S < (c + (R.take s).sum + R.getD s 0) * D → cntS N D S c R = s + 1
  | [], c, s, h, _, _ => by simp at h
  | x :: r, c, 0, h, h1, h2 => by
    simp at h1 h2
    rw [cntS, if_pos h1, cntS_zero r (c + x) h2]
  | x :: r, c, s + 1, h, h1, h2 => by
    rw [List.take_succ_cons, List.sum_cons] at h1 h2
    rw [List.getD_cons_succ] at h2
    have e : c + (x + (r.take s).sum) = c + x + (r.take s).sum := by lia
    rw [e] at h1 h2
    have : c * D ≤ (c + x + (r.take s).sum) * D := Nat.mul_le_mul_right _ (by lia)
    rw [cntS, if_pos (by lia), cntS_at r (c + x) s (by simpa using h) h1 h2]; lia
theorem comp_cnt {Ft : List Sl → PV → (Bool → Prop) → Prop} {w N D S : Nat} {K : List PV → List Sl → Prop} {σ : List Sl}
    (hFt : ∀ (c u : Nat) (G : Bool → Prop), c ≤ S → u ≤ S → G (decide (c * D ≤ N * S)) → Ft σ (.tup [qv w (rq c S), qv w (rq u S)]) G) : ∀ (R : List Nat) (c : Nat) (acc : List PV), c + R.sum ≤ S → (∀ acc', acc'.length = acc.length + cntS N D S c R → K acc' σ) →
    compT Ft (fun σ q G => nameT 0 (mkσ [14, 2] σ q) fun y => G y σ) (shq w S c R) acc σ K
  | [], c, acc, hs, hK => hK acc rfl
  | x :: r, c, acc, hs, hK => by
    rw [List.sum_cons] at hs
    rw [shq, compT]
    refine hFt c x _ (by lia) (by lia) ?_
    show then' _ _ _
    rw [zgd]
    refine ⟨fun h => ?_, fun h => ?_⟩
    · show compT _ _ _ _ σ K
      refine comp_cnt hFt r (c + x) _ (by lia) (fun acc' h' => hK acc' ?_)
      rw [h', cntS, if_pos h, List.length_append, List.length_singleton]; lia
    · refine comp_cnt hFt r (c + x) _ (by lia) (fun acc' h' => hK acc' ?_)
      rw [h', cntS, if_neg h]; lia
theorem intsOf_len : ∀ {xs : List PV} {L : List Int}, intsOf xs = some L → L.length = xs.length
  | [], L, h => by cases h; rfl
  | .int i :: xs, L, h => by
    rw [intsOf] at h
    cases hL : intsOf xs with
    | none => rw [hL] at h; cases h
    | some L' => rw [hL] at h; cases h; rw [List.length_cons, List.length_cons, intsOf_len hL]
  | .none :: _, _, h | .bool _ :: _, _, h | .ints _ :: _, _, h | .list _ :: _, _, h | .tup _ :: _, _, h | .fn _ :: _, _, h => by simp [intsOf] at h
theorem resT_len {acc : List PV} {G : PV → Prop} (h : G (.int (acc.length : Int))) : resT acc fun p => seqT p fun b => lenT b G := by
  unfold resT
  split
  · rename_i L hL
    show G (.int (L.length : Int))
    rw [intsOf_len hL]; exact h
  · exact h
end Mine

open PySem PySem.Calls PyProof.Rows
set_option Elab.async false
set_option maxRecDepth 100000
set_option maxHeartbeats 4000000
namespace Mine
theorem normal_w {prog : Program} {w : World} {h0 : Heap} {mg mb : Str → Option Value} {ads : Ads} (S : Stat h0 mg mb) (T : Tops h0 mg ads) : FnOk prog w h0 1 (ads 4) (P_normal ads) := by
  refine' fnOk_of (d := 0) S T.normal ["a"] ["end"] ?hb ?hl ?hn rfl rfl rfl ?hc (fun A L cd O => ?hB) (P_normal ads) ?hP
  case hb =>
    intro pm cd doc vs h
    exact vs1 (P := fun vs => bindArgs _ ⟨vs, []⟩ = pure (List.zip _ vs)) (by intros; rfl) h
  case hl => decide
  case hn => decide
  case hc => decide
  case hB =>
    exact (SSs.cons (SS.assign O 1 "end" (SE.len O (SB.of (SE.name O 0 "a" _ rfl)) _ _ rfl S.len.1 S.len.2) _ _ rfl (.inl ⟨rfl, rfl⟩))
    (SSs.cons (SS.while O (STr.and (STr.cmp O gt_ok (SE.name O 1 "end" _ rfl) (SE.int 0 _ _) _) (STr.cmp O eq_ok (SE.item (SB.of (SE.name O 0 "a" _ rfl)) (SE.bin sub_ok (SE.name O 1 "end" _ rfl) (SE.int 1 _ _) _) _) (SE.int 0 _ _) _) _) (SSs.cons (SS.aug O isub_ok 1 "end" (SE.int 1 _ _) _ _ rfl (.inl ⟨rfl, rfl⟩))
    SSs.nil) _)
    (SSs.cons (SS.ret (SE.slice (SB.of (SE.name O 0 "a" _ rfl)) OptE.none (OptE.some (SE.name O 1 "end" _ rfl)) _ _) _)
    SSs.nil)))
  case hP =>
    intro xs G h
    obtain ⟨w, L, ⟨hw, hL, hlen⟩, rfl, hG⟩ := h
    refine ⟨rfl, ?_⟩
    ((try dsimp only [zaa, zab, zac, zad, zae, zaf, zag, zah, zai, zaj, zak, zal, zam, zan, zao, zap, zaq, zar, zas, zat, zau, zav, zaw, zax, zay, zaz, zba, zbb, zbc, zbd, zbe, zbf, zbg, zbh, zbi, zbj, zbk, zbl, zbm, zbn, zbo, zbp, zbq, zbr, zbs, zbt, zbu, zbv, zbw, zbx, zby, zbz, zca, zcb, zcc, zcd, zce, zcf, zcg, zch, zci, zcj, zck, zcl, zcm, zcn, zco, zcp, zcq, zcr, zcs, zct, zcu, zcv, zcw, zcx, zcy, zcz, zda, zdb, zdc, zdd, zde, zdf, zdg, zdh, zdi, zdj, zdk, zdl, zdm, zdn, zdo, zdp, zdq, zdr, zds, zdt, zdu, zdv, zdw, zdx, zdy, zdz, zea, zeb, zec, zed, zee, zef, zeg, zeh, zei, zej, zek, zel, zem, zen, zeo, zep, zeq, zer, zes, zet, zeu, zev, zew, zex, zey, zez, zfa, zfb, zfc, zfd, zfe, zff, zfg, zfh, zfi, zfj, zfk, zfl, zfm, zfn, zfo, zfp, zfq, zfr, zfs, zft, zfu, zfv, zfw, zfx, zfy, zfz, zga, zgb, zgc, Nat.reduceAdd] at hG ⊢); (try simp only [zgd, zge, zgf, zgg, true_and, and_true] at hG ⊢))
    have hB := B2 hw
    refine whN_inv (fun n σ => n ≤ L.length ∧ val ((2 ^ w : Nat) : Int) (L.take n) = val ((2 ^ w : Nat) : Int) L ∧ σ = [.val (.ints L), .val (.int (n : Int))]) (fun _ _ => False) L.length _ ⟨Nat.le_refl _, by rw [List.take_length], rfl⟩ ?_ (fun _ _ h => h.elim)
    rintro n σ K ⟨h1, h2, rfl⟩ hK -
    ((try dsimp only [zaa, zab, zac, zad, zae, zaf, zag, zah, zai, zaj, zak, zal, zam, zan, zao, zap, zaq, zar, zas, zat, zau, zav, zaw, zax, zay, zaz, zba, zbb, zbc, zbd, zbe, zbf, zbg, zbh, zbi, zbj, zbk, zbl, zbm, zbn, zbo, zbp, zbq, zbr, zbs, zbt, zbu, zbv, zbw, zbx, zby, zbz, zca, zcb, zcc, zcd, zce, zcf, zcg, zch, zci, zcj, zck, zcl, zcm, zcn, zco, zcp, zcq, zcr, zcs, zct, zcu, zcv, zcw, zcx, zcy, zcz, zda, zdb, zdc, zdd, zde, zdf, zdg, zdh, zdi, zdj, zdk, zdl, zdm, zdn, zdo, zdp, zdq, zdr, zds, zdt, zdu, zdv, zdw, zdx, zdy, zdz, zea, zeb, zec, zed, zee, zef, zeg, zeh, zei, zej, zek, zel, zem, zen, zeo, zep, zeq, zer, zes, zet, zeu, zev, zew, zex, zey, zez, zfa, zfb, zfc, zfd, zfe, zff, zfg, zfh, zfi, zfj, zfk, zfl, zfm, zfn, zfo, zfp, zfq, zfr, zfs, zft, zfu, zfv, zfw, zfx, zfy, zfz, zga, zgb, zgc, Nat.reduceAdd]); (try simp only [zgd, zge, zgf, zgg, true_and, and_true]))
    have fin : (n = 0 ∨ L.getD (n - 1) 0 ≠ 0) → G (PV.ints (pickNums L none (some (n : Int)) none)) := by
      intro hn
      rw [pick_upto _ _ (by lia), Int.toNat_natCast]
      have := limbs_uniq hB (hL.take n) (by
        rcases hn with rfl | hn
        · exact .inl rfl
        · rcases Nat.eq_zero_or_pos n with rfl | h0
          · exact .inl rfl
          · right
            rw [List.length_take_of_le h1, List.getD_eq_getElem?_getD, List.getElem?_take_of_lt (by lia), ← List.getD_eq_getElem?_getD]
            exact hn)
      rw [this, h2]
      exact hG
    refine ⟨fun h => ⟨by lia, by lia, fun e => ?_, fun e => ?_⟩, fun h => ?_⟩
    · have hn : ((n : Int) - 1) = ((n - 1 : Nat) : Int) := by lia
      rw [hn] at e ⊢
      rw [Int.toNat_natCast] at e
      refine hK (n - 1) _ (by lia) ⟨by lia, ?_, rfl⟩
      have := val_take_succ ((2 ^ w : Nat) : Int) L (n - 1) (by lia)
      rw [e, Int.mul_zero, Int.add_zero, show n - 1 + 1 = n by lia] at this
      rw [← this, h2]
    · refine fin (.inr ?_)
      rw [show ((n : Int) - 1).toNat = n - 1 by lia] at e
      exact e
    · exact fin (.inl (by lia))
end Mine

open PySem PySem.Calls PyProof.Rows
set_option Elab.async false
set_option maxRecDepth 100000
set_option maxHeartbeats 4000000
namespace Mine
theorem compare_w {prog : Program} {w : World} {h0 : Heap} {mg mb : Str → Option Value} {ads : Ads} (S : Stat h0 mg mb) (T : Tops h0 mg ads) : FnOk prog w h0 1 (ads 5) (P_compare ads) := by
  refine' fnOk_of (d := 0) S T.compare ["a", "b"] ["at"] ?hb ?hl ?hn rfl rfl rfl ?hc (fun A L cd O => ?hB) (P_compare ads) ?hP
  case hb =>
    intro pm cd doc vs h
    exact vs2 (P := fun vs => bindArgs _ ⟨vs, []⟩ = pure (List.zip _ vs)) (by intros; rfl) h
  case hl => decide
  case hn => decide
  case hc => decide
  case hB =>
    exact (SSs.cons (SS.ite (STr.cmp O ne_ok (SE.len O (SB.of (SE.name O 0 "a" _ rfl)) _ _ rfl S.len.1 S.len.2) (SE.len O (SB.of (SE.name O 1 "b" _ rfl)) _ _ rfl S.len.1 S.len.2) _) (SSs.cons (SS.ret (SE.ifexp (STr.cmp O lt_ok (SE.len O (SB.of (SE.name O 0 "a" _ rfl)) _ _ rfl S.len.1 S.len.2) (SE.len O (SB.of (SE.name O 1 "b" _ rfl)) _ _ rfl S.len.1 S.len.2) _) (SE.neg (SE.int 1 _ _) _) (SE.int 1 _ _) _) _)
    SSs.nil) SSs.nil _)
    (SSs.cons (SS.forRD O 2 "at" (SE.bin sub_ok (SE.len O (SB.of (SE.name O 0 "a" _ rfl)) _ _ rfl S.len.1 S.len.2) (SE.int 1 _ _) _) (SSs.cons (SS.ite (STr.cmp O ne_ok (SE.item (SB.of (SE.name O 0 "a" _ rfl)) (SE.name O 2 "at" _ rfl) _) (SE.item (SB.of (SE.name O 1 "b" _ rfl)) (SE.name O 2 "at" _ rfl) _) _) (SSs.cons (SS.ret (SE.ifexp (STr.cmp O lt_ok (SE.item (SB.of (SE.name O 0 "a" _ rfl)) (SE.name O 2 "at" _ rfl) _) (SE.item (SB.of (SE.name O 1 "b" _ rfl)) (SE.name O 2 "at" _ rfl) _) _) (SE.neg (SE.int 1 _ _) _) (SE.int 1 _ _) _) _)
    SSs.nil) SSs.nil _)
    SSs.nil) _ _ _ _ _ _ _ _ _ _ rfl (.inl ⟨rfl, rfl⟩) rfl S.range.1 S.range.2)
    (SSs.cons (SS.ret (SE.int 0 _ _) _)
    SSs.nil)))
  case hP =>
    intro xs G h
    obtain ⟨w, m, n, ⟨hw, hm, hn⟩, rfl, hG⟩ := h
    refine ⟨rfl, ?_⟩
    have hB := B2 hw
    have la := limbs_len hB hm
    have lb := limbs_len hB hn
    have da := limbs_dg hB m
    have db := limbs_dg hB n
    have va := limbs_val hB m
    have vb := limbs_val hB n
    ((try dsimp only [zaa, zab, zac, zad, zae, zaf, zag, zah, zai, zaj, zak, zal, zam, zan, zao, zap, zaq, zar, zas, zat, zau, zav, zaw, zax, zay, zaz, zba, zbb, zbc, zbd, zbe, zbf, zbg, zbh, zbi, zbj, zbk, zbl, zbm, zbn, zbo, zbp, zbq, zbr, zbs, zbt, zbu, zbv, zbw, zbx, zby, zbz, zca, zcb, zcc, zcd, zce, zcf, zcg, zch, zci, zcj, zck, zcl, zcm, zcn, zco, zcp, zcq, zcr, zcs, zct, zcu, zcv, zcw, zcx, zcy, zcz, zda, zdb, zdc, zdd, zde, zdf, zdg, zdh, zdi, zdj, zdk, zdl, zdm, zdn, zdo, zdp, zdq, zdr, zds, zdt, zdu, zdv, zdw, zdx, zdy, zdz, zea, zeb, zec, zed, zee, zef, zeg, zeh, zei, zej, zek, zel, zem, zen, zeo, zep, zeq, zer, zes, zet, zeu, zev, zew, zex, zey, zez, zfa, zfb, zfc, zfd, zfe, zff, zfg, zfh, zfi, zfj, zfk, zfl, zfm, zfn, zfo, zfp, zfq, zfr, zfs, zft, zfu, zfv, zfw, zfx, zfy, zfz, zga, zgb, zgc, Nat.reduceAdd] at hG ⊢); (try simp only [zgd, zge, zgf, zgg, true_and, and_true] at hG ⊢))
    refine ⟨fun h => ⟨fun h' => ?_, fun h' => ?_⟩, fun h => ⟨by lia, by lia, ?_⟩⟩
    · have := limbs_len_lt hB (show (limbs (2 ^ w) m).length < (limbs (2 ^ w) n).length by lia)
      rw [Int.sign_eq_neg_one_of_neg (by lia)] at hG
      exact hG
    · have := limbs_len_lt hB (show (limbs (2 ^ w) n).length < (limbs (2 ^ w) m).length by lia)
      rw [Int.sign_eq_one_of_pos (by lia)] at hG
      exact hG
    · generalize limbs (2 ^ w) m = A at *
      generalize limbs (2 ^ w) n = C at *
      have hl : A.length = C.length := by lia
      refine forR_inv (fun k σ => ∃ t, A.drop (A.length - k) = C.drop (A.length - k) ∧ σ = [.val (.ints A), .val (.ints C), t]) (fun r _ => G r) ⟨_, ?_, rfl⟩ ?_ ?_ (fun r _ h => h)
      · rw [Nat.sub_zero, List.drop_length, hl, List.drop_length]
      · rintro k σ K hk ⟨t, hd, rfl⟩ hK hR
        ((try dsimp only [zaa, zab, zac, zad, zae, zaf, zag, zah, zai, zaj, zak, zal, zam, zan, zao, zap, zaq, zar, zas, zat, zau, zav, zaw, zax, zay, zaz, zba, zbb, zbc, zbd, zbe, zbf, zbg, zbh, zbi, zbj, zbk, zbl, zbm, zbn, zbo, zbp, zbq, zbr, zbs, zbt, zbu, zbv, zbw, zbx, zby, zbz, zca, zcb, zcc, zcd, zce, zcf, zcg, zch, zci, zcj, zck, zcl, zcm, zcn, zco, zcp, zcq, zcr, zcs, zct, zcu, zcv, zcw, zcx, zcy, zcz, zda, zdb, zdc, zdd, zde, zdf, zdg, zdh, zdi, zdj, zdk, zdl, zdm, zdn, zdo, zdp, zdq, zdr, zds, zdt, zdu, zdv, zdw, zdx, zdy, zdz, zea, zeb, zec, zed, zee, zef, zeg, zeh, zei, zej, zek, zel, zem, zen, zeo, zep, zeq, zer, zes, zet, zeu, zev, zew, zex, zey, zez, zfa, zfb, zfc, zfd, zfe, zff, zfg, zfh, zfi, zfj, zfk, zfl, zfm, zfn, zfo, zfp, zfq, zfr, zfs, zft, zfu, zfv, zfw, zfx, zfy, zfz, zga, zgb, zgc, Nat.reduceAdd]); (try simp only [zgd, zge, zgf, zgg, true_and, and_true]))
        obtain ⟨i, hi⟩ : ∃ i, A.length = i + 1 + k := ⟨A.length - 1 - k, by lia⟩
        have hat : ((A.length : Int) - 1 - (k : Int)).toNat = i := by rw [hi]; lia
        rw [hat]
        have hd' : A.drop (i + 1) = C.drop (i + 1) := by rw [show i + 1 = A.length - k by lia]; exact hd
        refine ⟨by lia, by lia, by lia, by lia, fun h => ⟨by lia, by lia, by lia, by lia, fun h' => hR _ _ ?_, fun h' => hR _ _ ?_⟩, fun h => hK _ ⟨_, ?_, rfl⟩⟩
        · have := val_lt_of hB da db hl i (by lia) hd' h'
          rw [Int.sign_eq_neg_one_of_neg (by lia)] at hG
          exact hG
        · have := val_lt_of hB db da hl.symm i (by lia) hd'.symm (by lia)
          rw [Int.sign_eq_one_of_pos (by lia)] at hG
          exact hG
        · have e1 := drop_succ_getD A i (by lia)
          have e2 := drop_succ_getD C i (by lia)
          rw [show A.length - (k + 1) = i by lia, e1, e2, hd', show A.getD i 0 = C.getD i 0 by lia]
      · rintro σ' ⟨t, hd, rfl⟩
        ((try dsimp only [zaa, zab, zac, zad, zae, zaf, zag, zah, zai, zaj, zak, zal, zam, zan, zao, zap, zaq, zar, zas, zat, zau, zav, zaw, zax, zay, zaz, zba, zbb, zbc, zbd, zbe, zbf, zbg, zbh, zbi, zbj, zbk, zbl, zbm, zbn, zbo, zbp, zbq, zbr, zbs, zbt, zbu, zbv, zbw, zbx, zby, zbz, zca, zcb, zcc, zcd, zce, zcf, zcg, zch, zci, zcj, zck, zcl, zcm, zcn, zco, zcp, zcq, zcr, zcs, zct, zcu, zcv, zcw, zcx, zcy, zcz, zda, zdb, zdc, zdd, zde, zdf, zdg, zdh, zdi, zdj, zdk, zdl, zdm, zdn, zdo, zdp, zdq, zdr, zds, zdt, zdu, zdv, zdw, zdx, zdy, zdz, zea, zeb, zec, zed, zee, zef, zeg, zeh, zei, zej, zek, zel, zem, zen, zeo, zep, zeq, zer, zes, zet, zeu, zev, zew, zex, zey, zez, zfa, zfb, zfc, zfd, zfe, zff, zfg, zfh, zfi, zfj, zfk, zfl, zfm, zfn, zfo, zfp, zfq, zfr, zfs, zft, zfu, zfv, zfw, zfx, zfy, zfz, zga, zgb, zgc, Nat.reduceAdd]); (try simp only [zgd, zge, zgf, zgg, true_and, and_true]))
        rw [show A.length - ((A.length : Int) - 1 + 1).toNat = 0 by lia, List.drop_zero, List.drop_zero] at hd
        rw [← va, ← vb, hd, Int.sub_self] at hG
        exact hG
end Mine

open PySem PySem.Calls PyProof.Rows
set_option Elab.async false
set_option maxRecDepth 100000
set_option maxHeartbeats 4000000
namespace Mine
theorem add_w {prog : Program} {w : World} {h0 : Heap} {mg mb : Str → Option Value} {ads : Ads} (S : Stat h0 mg mb) (T : Tops h0 mg ads) : FnOk prog w h0 1 (ads 6) (P_add ads) := by
  refine' fnOk_of (d := 0) S T.add ["a", "b", "w"] ["found", "carry", "mask", "at"] ?hb ?hl ?hn rfl rfl rfl ?hc (fun A L cd O => ?hB) (P_add ads) ?hP
  case hb =>
    intro pm cd doc vs h
    exact vs3 (P := fun vs => bindArgs _ ⟨vs, []⟩ = pure (List.zip _ vs)) (by intros; rfl) h
  case hl => decide
  case hn => decide
  case hc => decide
  case hB =>
    exact (SSs.cons (SS.ite (STr.cmp O lt_ok (SE.len O (SB.of (SE.name O 0 "a" _ rfl)) _ _ rfl S.len.1 S.len.2) (SE.len O (SB.of (SE.name O 1 "b" _ rfl)) _ _ rfl S.len.1 S.len.2) _) (SSs.cons (SS.assignTS O [(0, "a", ⟨0, 0, 0, 0⟩), (1, "b", ⟨0, 0, 0, 0⟩)] (SR.val (SE.name O 1 "b" _ rfl) (SR.val (SE.name O 0 "a" _ rfl) SR.nil)) _ _ _ _ _ (all2 ⟨rfl, (.inl ⟨rfl, rfl⟩)⟩ ⟨rfl, (.inl ⟨rfl, rfl⟩)⟩))
    SSs.nil) SSs.nil _)
    (SSs.cons (SS.assignTS O [(3, "found", ⟨0, 0, 0, 0⟩), (4, "carry", ⟨0, 0, 0, 0⟩), (5, "mask", ⟨0, 0, 0, 0⟩)] (SR.own (SO.listI SEs.nil _) (SR.val (SE.int 0 _ _) (SR.val (SE.bin sub_ok (SE.bin shl_ok (SE.int 1 _ _) (SE.name O 2 "w" _ rfl) _) (SE.int 1 _ _) _) SR.nil))) _ _ _ _ _ (all3 ⟨rfl, (.inl ⟨rfl, rfl⟩)⟩ ⟨rfl, (.inl ⟨rfl, rfl⟩)⟩ ⟨rfl, (.inl ⟨rfl, rfl⟩)⟩))
    (SSs.cons (SS.forR1 O 6 "at" (SE.len O (SB.of (SE.name O 1 "b" _ rfl)) _ _ rfl S.len.1 S.len.2) (SSs.cons (SS.aug O iadd_ok 4 "carry" (SE.bin add_ok (SE.item (SB.of (SE.name O 0 "a" _ rfl)) (SE.name O 6 "at" _ rfl) _) (SE.item (SB.of (SE.name O 1 "b" _ rfl)) (SE.name O 6 "at" _ rfl) _) _) _ _ rfl (.inl ⟨rfl, rfl⟩))
    (SSs.cons (SS.append O 3 "found" (SE.bin and_ok (SE.name O 4 "carry" _ rfl) (SE.name O 5 "mask" _ rfl) _) _ _ _ _ rfl)
    (SSs.cons (SS.aug O ishr_ok 4 "carry" (SE.name O 2 "w" _ rfl) _ _ rfl (.inl ⟨rfl, rfl⟩))
    SSs.nil))) _ _ _ _ rfl (.inl ⟨rfl, rfl⟩) rfl S.range.1 S.range.2)
    (SSs.cons (SS.forR2 O 6 "at" (SE.len O (SB.of (SE.name O 1 "b" _ rfl)) _ _ rfl S.len.1 S.len.2) (SE.len O (SB.of (SE.name O 0 "a" _ rfl)) _ _ rfl S.len.1 S.len.2) (SSs.cons (SS.aug O iadd_ok 4 "carry" (SE.item (SB.of (SE.name O 0 "a" _ rfl)) (SE.name O 6 "at" _ rfl) _) _ _ rfl (.inl ⟨rfl, rfl⟩))
    (SSs.cons (SS.append O 3 "found" (SE.bin and_ok (SE.name O 4 "carry" _ rfl) (SE.name O 5 "mask" _ rfl) _) _ _ _ _ rfl)
    (SSs.cons (SS.aug O ishr_ok 4 "carry" (SE.name O 2 "w" _ rfl) _ _ rfl (.inl ⟨rfl, rfl⟩))
    SSs.nil))) _ _ _ _ rfl (.inl ⟨rfl, rfl⟩) rfl S.range.1 S.range.2)
    (SSs.cons (SS.ite (STr.cmp O gt_ok (SE.name O 4 "carry" _ rfl) (SE.int 0 _ _) _) (SSs.cons (SS.append O 3 "found" (SE.name O 4 "carry" _ rfl) _ _ _ _ rfl)
    SSs.nil) SSs.nil _)
    (SSs.cons (SS.freeze 3 (SS.ret (SE.name O 3 "found" _ rfl) _))
    SSs.nil))))))
  case hP =>
    intro xs G h
    obtain ⟨w, m, n, ⟨hw, hm, hn⟩, rfl, hG⟩ := h
    refine ⟨rfl, ?_⟩
    have hB := B2 hw
    have h256 := B256 hw
    have la := limbs_len hB hm
    have da := limbs_dg hB m
    have va := limbs_val hB m
    have ga := limbs_ge' hB m
    have lb := limbs_len hB hn
    have db := limbs_dg hB n
    have vb := limbs_val hB n
    have gb := limbs_ge' hB n
    have hmask : ∀ x : Int, Builtin.bitAnd x (((2 ^ w : Nat) : Int) - 1) = x % ((2 ^ w : Nat) : Int) := fun x => by rw [Bc]; exact mask' x w
    dsimp only [zaa, zab, zac, zad, zae, zaf, zag, zah, zai, zaj, zak, zal, zam, zan, zao, zap, zaq, zar, zas, zat, zau, zav, zaw, zax, zay, zaz, zba, zbb, zbc, zbd, zbe, zbf, zbg, zbh, zbi, zbj, zbk, zbl, zbm, zbn, zbo, zbp, zbq, zbr, zbs, zbt, zbu, zbv, zbw, zbx, zby, zbz, zca, zcb, zcc, zcd, zce, zcf, zcg, zch, zci, zcj, zck, zcl, zcm, zcn, zco, zcp, zcq, zcr, zcs, zct, zcu, zcv, zcw, zcx, zcy, zcz, zda, zdb, zdc, zdd, zde, zdf, zdg, zdh, zdi, zdj, zdk, zdl, zdm, zdn, zdo, zdp, zdq, zdr, zds, zdt, zdu, zdv, zdw, zdx, zdy, zdz, zea, zeb, zec, zed, zee, zef, zeg, zeh, zei, zej, zek, zel, zem, zen, zeo, zep, zeq, zes, zet, zeu, zev, zew, zex, zey, zez, zfa, zfb, zfc, zfd, zfe, zff, zfg, zfh, zfi, zfj, zfk, zfl, zfm, zfn, zfo, zfp, zfq, zfr, zfs, zft, zfu, zfv, zfw, zfx, zfy, zfz, zga, zgb, zgc, Nat.reduceAdd] at hG ⊢
    simp only [zgd, zge, zgf, zgg, true_and, and_true]
    refine two_ways2 (fun σ => ∃ (A C : List Int) (m' n' : Nat), m' + n' = m + n ∧ C.length ≤ A.length ∧ A.length ≤ 400 ∧ C.length ≤ 400 ∧ Dg (2 ^ w) A ∧ Dg (2 ^ w) C ∧ val ((2 ^ w : Nat) : Int) A = m' ∧ val ((2 ^ w : Nat) : Int) C = n' ∧ (A = [] ∨ (2 ^ w) ^ (A.length - 1) ≤ m') ∧ σ = [.val (.ints A), .val (.ints C), .val (.int (w : Int)), .un, .un, .un, .un]) ?_ (fun hlen => ⟨_, _, n, m, Nat.add_comm n m, by lia, lb, la, db, da, vb, va, gb, rfl⟩) (fun hlen => ⟨_, _, m, n, rfl, by lia, la, lb, da, db, va, vb, ga, rfl⟩)
    rintro _ ⟨A, C, m', n', hmn, hlen, la, lb, da, db, va, vb, ga, rfl⟩
    rw [← hmn] at hG
    ((try dsimp only [zaa, zab, zac, zad, zae, zaf, zag, zah, zai, zaj, zak, zal, zam, zan, zao, zap, zaq, zar, zas, zat, zau, zav, zaw, zax, zay, zaz, zba, zbb, zbc, zbd, zbe, zbf, zbg, zbh, zbi, zbj, zbk, zbl, zbm, zbn, zbo, zbp, zbq, zbr, zbs, zbt, zbu, zbv, zbw, zbx, zby, zbz, zca, zcb, zcc, zcd, zce, zcf, zcg, zch, zci, zcj, zck, zcl, zcm, zcn, zco, zcp, zcq, zcr, zcs, zct, zcu, zcv, zcw, zcx, zcy, zcz, zda, zdb, zdc, zdd, zde, zdf, zdg, zdh, zdi, zdj, zdk, zdl, zdm, zdn, zdo, zdp, zdq, zdr, zds, zdt, zdu, zdv, zdw, zdx, zdy, zdz, zea, zeb, zec, zed, zee, zef, zeg, zeh, zei, zej, zek, zel, zem, zen, zeo, zep, zeq, zer, zes, zet, zeu, zev, zew, zex, zey, zez, zfa, zfb, zfc, zfd, zfe, zff, zfg, zfh, zfi, zfj, zfk, zfl, zfm, zfn, zfo, zfp, zfq, zfr, zfs, zft, zfu, zfv, zfw, zfx, zfy, zfz, zga, zgb, zgc, Nat.reduceAdd]); (try simp only [zgd, zge, zgf, zgg, true_and, and_true, Int.one_mul]); (try dsimp only [zaa, zab, zac, zad, zae, zaf, zag, zah, zai, zaj, zak, zal, zam, zan, zao, zap, zaq, zar, zas, zat, zau, zav, zaw, zax, zay, zaz, zba, zbb, zbc, zbd, zbe, zbf, zbg, zbh, zbi, zbj, zbk, zbl, zbm, zbn, zbo, zbp, zbq, zbr, zbs, zbt, zbu, zbv, zbw, zbx, zby, zbz, zca, zcb, zcc, zcd, zce, zcf, zcg, zch, zci, zcj, zck, zcl, zcm, zcn, zco, zcp, zcq, zcr, zcs, zct, zcu, zcv, zcw, zcx, zcy, zcz, zda, zdb, zdc, zdd, zde, zdf, zdg, zdh, zdi, zdj, zdk, zdl, zdm, zdn, zdo, zdp, zdq, zdr, zds, zdt, zdu, zdv, zdw, zdx, zdy, zdz, zea, zeb, zec, zed, zee, zef, zeg, zeh, zei, zej, zek, zel, zem, zen, zeo, zep, zeq, zer, zes, zet, zeu, zev, zew, zex, zey, zez, zfa, zfb, zfc, zfd, zfe, zff, zfg, zfh, zfi, zfj, zfk, zfl, zfm, zfn, zfo, zfp, zfq, zfr, zfs, zft, zfu, zfv, zfw, zfx, zfy, zfz, zga, zgb, zgc, Nat.reduceAdd]))
    refine ⟨by lia, by have := hw.hi; lia, by decide, by decide, by decide, by lia, by lia, ?_⟩
    rw [← Bc]
    generalize hBe : (2 ^ w : Nat) = B at *
    refine forR_inv (fun k σ => ∃ (F : List Int) (c : Int) (t : Sl), Dg B F ∧ F.length = k ∧ 0 ≤ c ∧ c ≤ 1 ∧ val B F + (B : Int) ^ k * c = val B (A.take k) + val B (C.take k) ∧ σ = [.val (.ints A), .val (.ints C), .val (.int (w : Int)), .own (.ints F), .val (.int c), .val (.int ((B : Int) - 1)), t]) (fun _ _ => False) ⟨[], 0, _, Dg.nil, rfl, by lia, by lia, by simp [val], rfl⟩ ?_ ?_ (fun _ _ h => h.elim)
    · rintro k σ K hk ⟨F, c, t, dF, lF, c0, c1, hv, rfl⟩ hK -
      have hda := da.getD (by lia) k
      have hdb := db.getD (by lia) k
      have ha := val_take_succ' (B : Int) A k
      have hb := val_take_succ' (B : Int) C k
      ((try dsimp only [zaa, zab, zac, zad, zae, zaf, zag, zah, zai, zaj, zak, zal, zam, zan, zao, zap, zaq, zar, zas, zat, zau, zav, zaw, zax, zay, zaz, zba, zbb, zbc, zbd, zbe, zbf, zbg, zbh, zbi, zbj, zbk, zbl, zbm, zbn, zbo, zbp, zbq, zbr, zbs, zbt, zbu, zbv, zbw, zbx, zby, zbz, zca, zcb, zcc, zcd, zce, zcf, zcg, zch, zci, zcj, zck, zcl, zcm, zcn, zco, zcp, zcq, zcr, zcs, zct, zcu, zcv, zcw, zcx, zcy, zcz, zda, zdb, zdc, zdd, zde, zdf, zdg, zdh, zdi, zdj, zdk, zdl, zdm, zdn, zdo, zdp, zdq, zdr, zds, zdt, zdu, zdv, zdw, zdx, zdy, zdz, zea, zeb, zec, zed, zee, zef, zeg, zeh, zei, zej, zek, zel, zem, zen, zeo, zep, zeq, zer, zes, zet, zeu, zev, zew, zex, zey, zez, zfa, zfb, zfc, zfd, zfe, zff, zfg, zfh, zfi, zfj, zfk, zfl, zfm, zfn, zfo, zfp, zfq, zfr, zfs, zft, zfu, zfv, zfw, zfx, zfy, zfz, zga, zgb, zgc, Nat.reduceAdd]); (try simp only [zgd, zge, zgf, zgg, true_and, and_true]))
      rw [hmask, ← Bc, hBe, fd (by lia)]
      generalize hT : c + (A.getD k 0 + C.getD k 0) = T at *
      have q0 : 0 ≤ T / (B : Int) := Int.ediv_nonneg (by lia) (by lia)
      have q1 : T / (B : Int) < 2 := Int.ediv_lt_of_lt_mul (by lia) (by lia)
      refine ⟨by lia, by lia, by lia, by lia, by lia, by lia, hK _ ⟨_, _, _, dF.append (Dg.one (Int.emod_nonneg _ (by lia)) (Int.emod_lt_of_pos _ (by lia))), by simp [lF], q0, by lia, ?_, rfl⟩⟩
      rw [val_snoc, lF, ha, hb]
      have h1 := carry_step hB k T
      grind
    rintro σ' ⟨F0, c, t, dF, lF, c0, c1, hv, rfl⟩
    ((try dsimp only [zaa, zab, zac, zad, zae, zaf, zag, zah, zai, zaj, zak, zal, zam, zan, zao, zap, zaq, zar, zas, zat, zau, zav, zaw, zax, zay, zaz, zba, zbb, zbc, zbd, zbe, zbf, zbg, zbh, zbi, zbj, zbk, zbl, zbm, zbn, zbo, zbp, zbq, zbr, zbs, zbt, zbu, zbv, zbw, zbx, zby, zbz, zca, zcb, zcc, zcd, zce, zcf, zcg, zch, zci, zcj, zck, zcl, zcm, zcn, zco, zcp, zcq, zcr, zcs, zct, zcu, zcv, zcw, zcx, zcy, zcz, zda, zdb, zdc, zdd, zde, zdf, zdg, zdh, zdi, zdj, zdk, zdl, zdm, zdn, zdo, zdp, zdq, zdr, zds, zdt, zdu, zdv, zdw, zdx, zdy, zdz, zea, zeb, zec, zed, zee, zef, zeg, zeh, zei, zej, zek, zel, zem, zen, zeo, zep, zeq, zer, zes, zet, zeu, zev, zew, zex, zey, zez, zfa, zfb, zfc, zfd, zfe, zff, zfg, zfh, zfi, zfj, zfk, zfl, zfm, zfn, zfo, zfp, zfq, zfr, zfs, zft, zfu, zfv, zfw, zfx, zfy, zfz, zga, zgb, zgc, Nat.reduceAdd]); (try simp only [zgd, zge, zgf, zgg, true_and, and_true]))
    refine ⟨by lia, by lia, by lia, by lia, ?_⟩
    rw [List.take_length, vb] at hv
    refine forR_inv (fun k σ => ∃ (F : List Int) (c : Int) (t : Sl), Dg B F ∧ F.length = C.length + k ∧ 0 ≤ c ∧ c ≤ 1 ∧ val B F + (B : Int) ^ (C.length + k) * c = val B (A.take (C.length + k)) + n' ∧ σ = [.val (.ints A), .val (.ints C), .val (.int (w : Int)), .own (.ints F), .val (.int c), .val (.int ((B : Int) - 1)), t]) (fun _ _ => False) ⟨F0, c, _, dF, lF, c0, c1, hv, rfl⟩ ?_ ?_ (fun _ _ h => h.elim)
    · clear hv lF dF c0 c1 F0 c t
      rintro k σ K hk ⟨F, c, t, dF, lF, c0, c1, hv, rfl⟩ hK -
      have hda := da.getD (by lia) (C.length + k)
      have ha := val_take_succ' (B : Int) A (C.length + k)
      ((try dsimp only [zaa, zab, zac, zad, zae, zaf, zag, zah, zai, zaj, zak, zal, zam, zan, zao, zap, zaq, zar, zas, zat, zau, zav, zaw, zax, zay, zaz, zba, zbb, zbc, zbd, zbe, zbf, zbg, zbh, zbi, zbj, zbk, zbl, zbm, zbn, zbo, zbp, zbq, zbr, zbs, zbt, zbu, zbv, zbw, zbx, zby, zbz, zca, zcb, zcc, zcd, zce, zcf, zcg, zch, zci, zcj, zck, zcl, zcm, zcn, zco, zcp, zcq, zcr, zcs, zct, zcu, zcv, zcw, zcx, zcy, zcz, zda, zdb, zdc, zdd, zde, zdf, zdg, zdh, zdi, zdj, zdk, zdl, zdm, zdn, zdo, zdp, zdq, zdr, zds, zdt, zdu, zdv, zdw, zdx, zdy, zdz, zea, zeb, zec, zed, zee, zef, zeg, zeh, zei, zej, zek, zel, zem, zen, zeo, zep, zeq, zer, zes, zet, zeu, zev, zew, zex, zey, zez, zfa, zfb, zfc, zfd, zfe, zff, zfg, zfh, zfi, zfj, zfk, zfl, zfm, zfn, zfo, zfp, zfq, zfr, zfs, zft, zfu, zfv, zfw, zfx, zfy, zfz, zga, zgb, zgc, Nat.reduceAdd]); (try simp only [zgd, zge, zgf, zgg, true_and, and_true]))
      rw [show ((C.length : Int) + (k : Int)).toNat = C.length + k by lia, hmask, ← Bc, hBe, fd (by lia)]
      generalize hT : c + A.getD (C.length + k) 0 = T at *
      have q0 : 0 ≤ T / (B : Int) := Int.ediv_nonneg (by lia) (by lia)
      have q1 : T / (B : Int) < 2 := Int.ediv_lt_of_lt_mul (by lia) (by lia)
      refine ⟨by lia, by lia, by lia, by lia, hK _ ⟨_, _, _, dF.append (Dg.one (Int.emod_nonneg _ (by lia)) (Int.emod_lt_of_pos _ (by lia))), by simp [lF]; lia, q0, by lia, ?_, rfl⟩⟩
      rw [val_snoc, lF, ← Nat.add_assoc, ha]
      have h1 := carry_step hB (C.length + k) T
      grind
    clear hv lF dF c0 c1 F0 c t
    rintro σ' ⟨F, c, t, dF, lF, c0, c1, hv, rfl⟩
    ((try dsimp only [zaa, zab, zac, zad, zae, zaf, zag, zah, zai, zaj, zak, zal, zam, zan, zao, zap, zaq, zar, zas, zat, zau, zav, zaw, zax, zay, zaz, zba, zbb, zbc, zbd, zbe, zbf, zbg, zbh, zbi, zbj, zbk, zbl, zbm, zbn, zbo, zbp, zbq, zbr, zbs, zbt, zbu, zbv, zbw, zbx, zby, zbz, zca, zcb, zcc, zcd, zce, zcf, zcg, zch, zci, zcj, zck, zcl, zcm, zcn, zco, zcp, zcq, zcr, zcs, zct, zcu, zcv, zcw, zcx, zcy, zcz, zda, zdb, zdc, zdd, zde, zdf, zdg, zdh, zdi, zdj, zdk, zdl, zdm, zdn, zdo, zdp, zdq, zdr, zds, zdt, zdu, zdv, zdw, zdx, zdy, zdz, zea, zeb, zec, zed, zee, zef, zeg, zeh, zei, zej, zek, zel, zem, zen, zeo, zep, zeq, zer, zes, zet, zeu, zev, zew, zex, zey, zez, zfa, zfb, zfc, zfd, zfe, zff, zfg, zfh, zfi, zfj, zfk, zfl, zfm, zfn, zfo, zfp, zfq, zfr, zfs, zft, zfu, zfv, zfw, zfx, zfy, zfz, zga, zgb, zgc, Nat.reduceAdd]); (try simp only [zgd, zge, zgf, zgg, true_and, and_true]))
    rw [show C.length + ((A.length : Int) - C.length).toNat = A.length by lia] at hv lF
    rw [List.take_length, va] at hv
    refine ⟨fun h => ⟨by lia, ?_⟩, fun h => ?_⟩
    · rw [show F ++ [c] = limbs B (m' + n') from limbs_of' hB (dF.append (Dg.one c0 (by lia))) (by rw [val_snoc, lF, hv]; lia) (.inr ?_)]
      · exact hG
      · have h2 := val_nonneg dF
        have h3 : (B : Int) ^ A.length * 1 ≤ (B : Int) ^ A.length * c := Int.mul_le_mul_of_nonneg_left (by lia) (Int.le_of_lt (pow_pos' hB _))
        rw [List.length_append, List.length_singleton, Nat.add_sub_cancel, lF]
        have : ((B ^ A.length : Nat) : Int) = (B : Int) ^ A.length := Int.natCast_pow _ _
        lia
    · have hc : c = 0 := by lia
      rw [hc, Int.mul_zero, Int.add_zero] at hv
      rw [show F = limbs B (m' + n') from limbs_of' hB dF (by lia) ?_]
      · exact hG
      · rcases ga with ga | ga
        · left; rw [ga] at lF; exact List.length_eq_zero_iff.mp lF
        · right; rw [lF]; lia
end Mine

open PySem PySem.Calls PyProof.Rows
set_option Elab.async false
set_option maxRecDepth 100000
set_option maxHeartbeats 4000000
namespace Mine
theorem add_limb_w {prog : Program} {w : World} {h0 : Heap} {mg mb : Str → Option Value} {ads : Ads} (S : Stat h0 mg mb) (T : Tops h0 mg ads) : FnOk prog w h0 1 (ads 8) (P_add_limb ads) := by
  refine' fnOk_of (d := 0) S T.add_limb ["a", "limb", "w"] ["found", "mask", "one"] ?hb ?hl ?hn rfl rfl rfl ?hc (fun A L cd O => ?hB) (P_add_limb ads) ?hP
  case hb =>
    intro pm cd doc vs h
    exact vs3 (P := fun vs => bindArgs _ ⟨vs, []⟩ = pure (List.zip _ vs)) (by intros; rfl) h
  case hl => decide
  case hn => decide
  case hc => decide
  case hB =>
    exact (SSs.cons (SS.assignTS O [(3, "found", ⟨0, 0, 0, 0⟩), (4, "mask", ⟨0, 0, 0, 0⟩)] (SR.own (SO.listI SEs.nil _) (SR.val (SE.bin sub_ok (SE.bin shl_ok (SE.int 1 _ _) (SE.name O 2 "w" _ rfl) _) (SE.int 1 _ _) _) SR.nil)) _ _ _ _ _ (all2 ⟨rfl, (.inl ⟨rfl, rfl⟩)⟩ ⟨rfl, (.inl ⟨rfl, rfl⟩)⟩))
    (SSs.cons (SS.forL O 5 "one" (SE.name O 0 "a" _ rfl) (SSs.cons (SS.aug O iadd_ok 1 "limb" (SE.name O 5 "one" _ rfl) _ _ rfl (.inl ⟨rfl, rfl⟩))
    (SSs.cons (SS.append O 3 "found" (SE.bin and_ok (SE.name O 1 "limb" _ rfl) (SE.name O 4 "mask" _ rfl) _) _ _ _ _ rfl)
    (SSs.cons (SS.aug O ishr_ok 1 "limb" (SE.name O 2 "w" _ rfl) _ _ rfl (.inl ⟨rfl, rfl⟩))
    SSs.nil))) _ _ rfl (.inl ⟨rfl, rfl⟩))
    (SSs.cons (SS.ite (STr.cmp O gt_ok (SE.name O 1 "limb" _ rfl) (SE.int 0 _ _) _) (SSs.cons (SS.append O 3 "found" (SE.name O 1 "limb" _ rfl) _ _ _ _ rfl)
    SSs.nil) SSs.nil _)
    (SSs.cons (SS.freeze 3 (SS.ret (SE.name O 3 "found" _ rfl) _))
    SSs.nil))))
  case hP =>
    intro xs G h
    obtain ⟨w, m, k, ⟨hw, hm, hk⟩, rfl, hG⟩ := h
    refine ⟨rfl, ?_⟩
    have hB := B2 hw
    have h256 := B256 hw
    have la := limbs_len hB hm
    have da := limbs_dg hB m
    have va := limbs_val hB m
    have ga := limbs_ge' hB m
    ((try dsimp only [zaa, zab, zac, zad, zae, zaf, zag, zah, zai, zaj, zak, zal, zam, zan, zao, zap, zaq, zar, zas, zat, zau, zav, zaw, zax, zay, zaz, zba, zbb, zbc, zbd, zbe, zbf, zbg, zbh, zbi, zbj, zbk, zbl, zbm, zbn, zbo, zbp, zbq, zbr, zbs, zbt, zbu, zbv, zbw, zbx, zby, zbz, zca, zcb, zcc, zcd, zce, zcf, zcg, zch, zci, zcj, zck, zcl, zcm, zcn, zco, zcp, zcq, zcr, zcs, zct, zcu, zcv, zcw, zcx, zcy, zcz, zda, zdb, zdc, zdd, zde, zdf, zdg, zdh, zdi, zdj, zdk, zdl, zdm, zdn, zdo, zdp, zdq, zdr, zds, zdt, zdu, zdv, zdw, zdx, zdy, zdz, zea, zeb, zec, zed, zee, zef, zeg, zeh, zei, zej, zek, zel, zem, zen, zeo, zep, zeq, zer, zes, zet, zeu, zev, zew, zex, zey, zez, zfa, zfb, zfc, zfd, zfe, zff, zfg, zfh, zfi, zfj, zfk, zfl, zfm, zfn, zfo, zfp, zfq, zfr, zfs, zft, zfu, zfv, zfw, zfx, zfy, zfz, zga, zgb, zgc, Nat.reduceAdd] at hG ⊢); (try simp only [zgd, zge, zgf, zgg, true_and, and_true] at hG ⊢))
    generalize limbs (2 ^ w) m = A at *
    refine ⟨by lia, by have := hw.hi; lia, by decide, ?_⟩
    ((try dsimp only [zaa, zab, zac, zad, zae, zaf, zag, zah, zai, zaj, zak, zal, zam, zan, zao, zap, zaq, zar, zas, zat, zau, zav, zaw, zax, zay, zaz, zba, zbb, zbc, zbd, zbe, zbf, zbg, zbh, zbi, zbj, zbk, zbl, zbm, zbn, zbo, zbp, zbq, zbr, zbs, zbt, zbu, zbv, zbw, zbx, zby, zbz, zca, zcb, zcc, zcd, zce, zcf, zcg, zch, zci, zcj, zck, zcl, zcm, zcn, zco, zcp, zcq, zcr, zcs, zct, zcu, zcv, zcw, zcx, zcy, zcz, zda, zdb, zdc, zdd, zde, zdf, zdg, zdh, zdi, zdj, zdk, zdl, zdm, zdn, zdo, zdp, zdq, zdr, zds, zdt, zdu, zdv, zdw, zdx, zdy, zdz, zea, zeb, zec, zed, zee, zef, zeg, zeh, zei, zej, zek, zel, zem, zen, zeo, zep, zeq, zer, zes, zet, zeu, zev, zew, zex, zey, zez, zfa, zfb, zfc, zfd, zfe, zff, zfg, zfh, zfi, zfj, zfk, zfl, zfm, zfn, zfo, zfp, zfq, zfr, zfs, zft, zfu, zfv, zfw, zfx, zfy, zfz, zga, zgb, zgc, Nat.reduceAdd]); (try simp only [zgd, zge, zgf, zgg, true_and, and_true, Int.one_mul]); (try dsimp only [zaa, zab, zac, zad, zae, zaf, zag, zah, zai, zaj, zak, zal, zam, zan, zao, zap, zaq, zar, zas, zat, zau, zav, zaw, zax, zay, zaz, zba, zbb, zbc, zbd, zbe, zbf, zbg, zbh, zbi, zbj, zbk, zbl, zbm, zbn, zbo, zbp, zbq, zbr, zbs, zbt, zbu, zbv, zbw, zbx, zby, zbz, zca, zcb, zcc, zcd, zce, zcf, zcg, zch, zci, zcj, zck, zcl, zcm, zcn, zco, zcp, zcq, zcr, zcs, zct, zcu, zcv, zcw, zcx, zcy, zcz, zda, zdb, zdc, zdd, zde, zdf, zdg, zdh, zdi, zdj, zdk, zdl, zdm, zdn, zdo, zdp, zdq, zdr, zds, zdt, zdu, zdv, zdw, zdx, zdy, zdz, zea, zeb, zec, zed, zee, zef, zeg, zeh, zei, zej, zek, zel, zem, zen, zeo, zep, zeq, zer, zes, zet, zeu, zev, zew, zex, zey, zez, zfa, zfb, zfc, zfd, zfe, zff, zfg, zfh, zfi, zfj, zfk, zfl, zfm, zfn, zfo, zfp, zfq, zfr, zfs, zft, zfu, zfv, zfw, zfx, zfy, zfz, zga, zgb, zgc, Nat.reduceAdd]))
    rw [← Bc]
    have hmask : ∀ x : Int, Builtin.bitAnd x (((2 ^ w : Nat) : Int) - 1) = x % ((2 ^ w : Nat) : Int) := fun x => by rw [Bc]; exact mask' x w
    generalize hBe : (2 ^ w : Nat) = B at *
    refine ⟨by decide, by decide, ?_⟩
    refine forL_inv (fun j σ => ∃ (F : List Int) (c : Int) (t : Sl), Dg B F ∧ F.length = j ∧ 0 ≤ c ∧ c < B ∧ val B F + (B : Int) ^ j * c = val B (A.take j) + k ∧ σ = [.val (.ints A), .val (.int c), .val (.int (w : Int)), .own (.ints F), .val (.int ((B : Int) - 1)), t]) (fun _ _ => False) ⟨[], (k : Int), _, Dg.nil, rfl, by lia, by lia, by simp [val], rfl⟩ ?_ ?_ (fun _ _ h => h.elim)
    · rintro j σ K hj ⟨F, c, t, dF, lF, c0, c1, hv, rfl⟩ hK -
      ((try dsimp only [zaa, zab, zac, zad, zae, zaf, zag, zah, zai, zaj, zak, zal, zam, zan, zao, zap, zaq, zar, zas, zat, zau, zav, zaw, zax, zay, zaz, zba, zbb, zbc, zbd, zbe, zbf, zbg, zbh, zbi, zbj, zbk, zbl, zbm, zbn, zbo, zbp, zbq, zbr, zbs, zbt, zbu, zbv, zbw, zbx, zby, zbz, zca, zcb, zcc, zcd, zce, zcf, zcg, zch, zci, zcj, zck, zcl, zcm, zcn, zco, zcp, zcq, zcr, zcs, zct, zcu, zcv, zcw, zcx, zcy, zcz, zda, zdb, zdc, zdd, zde, zdf, zdg, zdh, zdi, zdj, zdk, zdl, zdm, zdn, zdo, zdp, zdq, zdr, zds, zdt, zdu, zdv, zdw, zdx, zdy, zdz, zea, zeb, zec, zed, zee, zef, zeg, zeh, zei, zej, zek, zel, zem, zen, zeo, zep, zeq, zer, zes, zet, zeu, zev, zew, zex, zey, zez, zfa, zfb, zfc, zfd, zfe, zff, zfg, zfh, zfi, zfj, zfk, zfl, zfm, zfn, zfo, zfp, zfq, zfr, zfs, zft, zfu, zfv, zfw, zfx, zfy, zfz, zga, zgb, zgc, Nat.reduceAdd]); (try simp only [zgd, zge, zgf, zgg, true_and, and_true]))
      have hd := da.getD (by lia) j
      refine ⟨by lia, by lia, ?_⟩
      rw [hmask, ← Bc, hBe, fd (by lia)]
      have hm0 := Int.emod_nonneg (c + A.getD j 0) (show (B : Int) ≠ 0 by lia)
      have hm1 := Int.emod_lt_of_pos (c + A.getD j 0) (show (0 : Int) < (B : Int) by lia)
      have hq0 : 0 ≤ (c + A.getD j 0) / (B : Int) := Int.ediv_nonneg (by lia) (by lia)
      have hq1 : (c + A.getD j 0) / (B : Int) < B := Int.ediv_lt_of_lt_mul (by lia) (by have : (B : Int) * 2 ≤ B * B := Int.mul_le_mul_of_nonneg_left (by lia) (by lia); lia)
      refine hK _ ⟨_, _, _, dF.append (Dg.one hm0 hm1), by simp [lF], hq0, hq1, ?_, rfl⟩
      rw [val_snoc, lF, val_take_succ _ _ _ hj]
      have := carry_step hB j (c + A.getD j 0)
      rw [Int.mul_add] at this
      lia
    · rintro σ' ⟨F, c, t, dF, lF, c0, c1, hv, rfl⟩
      ((try dsimp only [zaa, zab, zac, zad, zae, zaf, zag, zah, zai, zaj, zak, zal, zam, zan, zao, zap, zaq, zar, zas, zat, zau, zav, zaw, zax, zay, zaz, zba, zbb, zbc, zbd, zbe, zbf, zbg, zbh, zbi, zbj, zbk, zbl, zbm, zbn, zbo, zbp, zbq, zbr, zbs, zbt, zbu, zbv, zbw, zbx, zby, zbz, zca, zcb, zcc, zcd, zce, zcf, zcg, zch, zci, zcj, zck, zcl, zcm, zcn, zco, zcp, zcq, zcr, zcs, zct, zcu, zcv, zcw, zcx, zcy, zcz, zda, zdb, zdc, zdd, zde, zdf, zdg, zdh, zdi, zdj, zdk, zdl, zdm, zdn, zdo, zdp, zdq, zdr, zds, zdt, zdu, zdv, zdw, zdx, zdy, zdz, zea, zeb, zec, zed, zee, zef, zeg, zeh, zei, zej, zek, zel, zem, zen, zeo, zep, zeq, zer, zes, zet, zeu, zev, zew, zex, zey, zez, zfa, zfb, zfc, zfd, zfe, zff, zfg, zfh, zfi, zfj, zfk, zfl, zfm, zfn, zfo, zfp, zfq, zfr, zfs, zft, zfu, zfv, zfw, zfx, zfy, zfz, zga, zgb, zgc, Nat.reduceAdd]); (try simp only [zgd, zge, zgf, zgg, true_and, and_true]))
      rw [List.take_length, va] at hv
      refine ⟨fun h => ⟨by lia, ?_⟩, fun h => ?_⟩
      · rw [show F ++ [c] = limbs B (m + k) from limbs_of' hB (dF.append (Dg.one c0 c1)) (by rw [val_snoc, lF, hv]; lia) (.inr ?_)]
        · exact hG
        · have h2 := val_nonneg dF
          have h3 : (B : Int) ^ A.length * 1 ≤ (B : Int) ^ A.length * c := Int.mul_le_mul_of_nonneg_left (by lia) (Int.le_of_lt (pow_pos' hB _))
          rw [List.length_append, List.length_singleton, Nat.add_sub_cancel, lF]
          have : ((B ^ A.length : Nat) : Int) = (B : Int) ^ A.length := Int.natCast_pow _ _
          lia
      · have hc : c = 0 := by lia
        rw [hc, Int.mul_zero, Int.add_zero] at hv
        rw [show F = limbs B (m + k) from limbs_of' hB dF (by lia) ?_]
        · exact hG
        · rcases ga with ga | ga
          · left; rw [ga] at lF; exact List.length_eq_zero_iff.mp lF
          · right; rw [lF]; lia
end Mine

open PySem PySem.Calls PyProof.Rows
set_option Elab.async false
set_option maxRecDepth 100000
set_option maxHeartbeats 4000000
namespace Mine
theorem shift_left_w {prog : Program} {w : World} {h0 : Heap} {mg mb : Str → Option Value} {ads : Ads} (S : Stat h0 mg mb) (T : Tops h0 mg ads) : FnOk prog w h0 1 (ads 10) (P_shift_left ads) := by
  refine' fnOk_of (d := 0) S T.shift_left ["a", "n", "w"] ["spots", "few", "found", "carry", "mask", "one"] ?hb ?hl ?hn rfl rfl rfl ?hc (fun A L cd O => ?hB) (P_shift_left ads) ?hP
  case hb =>
    intro pm cd doc vs h
    exact vs3 (P := fun vs => bindArgs _ ⟨vs, []⟩ = pure (List.zip _ vs)) (by intros; rfl) h
  case hl => decide
  case hn => decide
  case hc => decide
  case hB =>
    exact (SSs.cons (SS.ite (STr.cmp O eq_ok (SE.len O (SB.of (SE.name O 0 "a" _ rfl)) _ _ rfl S.len.1 S.len.2) (SE.int 0 _ _) _) (SSs.cons (SS.ret (SE.listI SEs.nil _) _)
    SSs.nil) SSs.nil _)
    (SSs.cons (SS.assignTS O [(3, "spots", ⟨0, 0, 0, 0⟩), (4, "few", ⟨0, 0, 0, 0⟩)] (SR.val (SE.bin fdiv_ok (SE.name O 1 "n" _ rfl) (SE.name O 2 "w" _ rfl) _) (SR.val (SE.bin fmod_ok (SE.name O 1 "n" _ rfl) (SE.name O 2 "w" _ rfl) _) SR.nil)) _ _ _ _ _ (all2 ⟨rfl, (.inl ⟨rfl, rfl⟩)⟩ ⟨rfl, (.inl ⟨rfl, rfl⟩)⟩))
    (SSs.cons (SS.assignTS O [(5, "found", ⟨0, 0, 0, 0⟩), (6, "carry", ⟨0, 0, 0, 0⟩), (7, "mask", ⟨0, 0, 0, 0⟩)] (SR.own (SO.mul (SE.listI (SEs.cons (SE.int 0 _ _) SEs.nil) _) (SE.name O 3 "spots" _ rfl) _) (SR.val (SE.int 0 _ _) (SR.val (SE.bin sub_ok (SE.bin shl_ok (SE.int 1 _ _) (SE.name O 2 "w" _ rfl) _) (SE.int 1 _ _) _) SR.nil))) _ _ _ _ _ (all3 ⟨rfl, (.inl ⟨rfl, rfl⟩)⟩ ⟨rfl, (.inl ⟨rfl, rfl⟩)⟩ ⟨rfl, (.inl ⟨rfl, rfl⟩)⟩))
    (SSs.cons (SS.forL O 8 "one" (SE.name O 0 "a" _ rfl) (SSs.cons (SS.aug O ior_ok 6 "carry" (SE.bin shl_ok (SE.name O 8 "one" _ rfl) (SE.name O 4 "few" _ rfl) _) _ _ rfl (.inl ⟨rfl, rfl⟩))
    (SSs.cons (SS.append O 5 "found" (SE.bin and_ok (SE.name O 6 "carry" _ rfl) (SE.name O 7 "mask" _ rfl) _) _ _ _ _ rfl)
    (SSs.cons (SS.aug O ishr_ok 6 "carry" (SE.name O 2 "w" _ rfl) _ _ rfl (.inl ⟨rfl, rfl⟩))
    SSs.nil))) _ _ rfl (.inl ⟨rfl, rfl⟩))
    (SSs.cons (SS.ite (STr.cmp O gt_ok (SE.name O 6 "carry" _ rfl) (SE.int 0 _ _) _) (SSs.cons (SS.append O 5 "found" (SE.name O 6 "carry" _ rfl) _ _ _ _ rfl)
    SSs.nil) SSs.nil _)
    (SSs.cons (SS.freeze 5 (SS.ret (SE.name O 5 "found" _ rfl) _))
    SSs.nil))))))
  case hP =>
    intro xs G h
    obtain ⟨w, m, n, ⟨hw, hm, hn⟩, rfl, hG⟩ := h
    refine ⟨rfl, ?_⟩
    have hB := B2 hw
    have h256 := B256 hw
    have la := limbs_len hB hm
    have da := limbs_dg hB m
    have va := limbs_val hB m
    have l0 := limbs_len0 hB m
    have ga := limbs_ge' hB m
    have hmask : ∀ x : Int, Builtin.bitAnd x (((2 ^ w : Nat) : Int) - 1) = x % ((2 ^ w : Nat) : Int) := fun x => by rw [Bc]; exact mask' x w
    ((try dsimp only [zaa, zab, zac, zad, zae, zaf, zag, zah, zai, zaj, zak, zal, zam, zan, zao, zap, zaq, zar, zas, zat, zau, zav, zaw, zax, zay, zaz, zba, zbb, zbc, zbd, zbe, zbf, zbg, zbh, zbi, zbj, zbk, zbl, zbm, zbn, zbo, zbp, zbq, zbr, zbs, zbt, zbu, zbv, zbw, zbx, zby, zbz, zca, zcb, zcc, zcd, zce, zcf, zcg, zch, zci, zcj, zck, zcl, zcm, zcn, zco, zcp, zcq, zcr, zcs, zct, zcu, zcv, zcw, zcx, zcy, zcz, zda, zdb, zdc, zdd, zde, zdf, zdg, zdh, zdi, zdj, zdk, zdl, zdm, zdn, zdo, zdp, zdq, zdr, zds, zdt, zdu, zdv, zdw, zdx, zdy, zdz, zea, zeb, zec, zed, zee, zef, zeg, zeh, zei, zej, zek, zel, zem, zen, zeo, zep, zeq, zer, zes, zet, zeu, zev, zew, zex, zey, zez, zfa, zfb, zfc, zfd, zfe, zff, zfg, zfh, zfi, zfj, zfk, zfl, zfm, zfn, zfo, zfp, zfq, zfr, zfs, zft, zfu, zfv, zfw, zfx, zfy, zfz, zga, zgb, zgc, Nat.reduceAdd] at hG ⊢); (try simp only [zgd, zge, zgf, zgg, true_and, and_true, Int.one_mul] at hG ⊢); (try dsimp only [zaa, zab, zac, zad, zae, zaf, zag, zah, zai, zaj, zak, zal, zam, zan, zao, zap, zaq, zar, zas, zat, zau, zav, zaw, zax, zay, zaz, zba, zbb, zbc, zbd, zbe, zbf, zbg, zbh, zbi, zbj, zbk, zbl, zbm, zbn, zbo, zbp, zbq, zbr, zbs, zbt, zbu, zbv, zbw, zbx, zby, zbz, zca, zcb, zcc, zcd, zce, zcf, zcg, zch, zci, zcj, zck, zcl, zcm, zcn, zco, zcp, zcq, zcr, zcs, zct, zcu, zcv, zcw, zcx, zcy, zcz, zda, zdb, zdc, zdd, zde, zdf, zdg, zdh, zdi, zdj, zdk, zdl, zdm, zdn, zdo, zdp, zdq, zdr, zds, zdt, zdu, zdv, zdw, zdx, zdy, zdz, zea, zeb, zec, zed, zee, zef, zeg, zeh, zei, zej, zek, zel, zem, zen, zeo, zep, zeq, zer, zes, zet, zeu, zev, zew, zex, zey, zez, zfa, zfb, zfc, zfd, zfe, zff, zfg, zfh, zfi, zfj, zfk, zfl, zfm, zfn, zfo, zfp, zfq, zfr, zfs, zft, zfu, zfv, zfw, zfx, zfy, zfz, zga, zgb, zgc, Nat.reduceAdd] at hG ⊢))
    refine ⟨fun h => ?_, fun h => ?_⟩
    · rw [l0.mp (by lia), Nat.zero_mul, limbs_zero] at hG; exact hG
    have hw0 := hw.lo
    have hfd : (n : Int).fdiv (w : Int) = ((n / w : Nat) : Int) := by rw [fd (by lia), Int.natCast_ediv]
    have hfm : (n : Int).fmod (w : Int) = ((n % w : Nat) : Int) := by rw [fm (by lia), Int.natCast_emod]
    rw [hfd, hfm]
    have hnw := Nat.div_add_mod n w
    have hfew := Nat.mod_lt n (show w > 0 by lia)
    have hsp : n / w ≤ n := Nat.div_le_self n w
    generalize n / w = sp' at *
    generalize n % w = few at *
    generalize limbs (2 ^ w) m = A at *
    have h8 := hw.hi
    refine ⟨by lia, by lia, by lia, by decide, by lia, by lia, by lia, by lia, by lia, by decide, by decide, by decide, ?_⟩
    rw [← Bc, Int.toNat_natCast, flat1]
    have hpw : (2 ^ w) ^ sp' * 2 ^ few = 2 ^ n := by rw [← Nat.pow_mul, ← Nat.pow_add, hnw]
    have hfl : 2 ^ few < 2 ^ w := Nat.pow_lt_pow_right (by lia) hfew
    have hfc : ((2 ^ few : Nat) : Int) = (2 : Int) ^ few := Bc few
    have hf1 : 1 ≤ 2 ^ few := Nat.one_le_two_pow
    generalize hBe : (2 ^ w : Nat) = B at *
    generalize hFe : (2 ^ few : Nat) = E at *
    refine forL_inv (fun j σ => ∃ (F : List Int) (c : Int) (t : Sl), Dg B F ∧ F.length = sp' + j ∧ 0 ≤ c ∧ c < E ∧ val B F + (B : Int) ^ (sp' + j) * c = (B : Int) ^ sp' * (val B (A.take j) * E) ∧ σ = [.val (.ints A), .val (.int (n : Int)), .val (.int (w : Int)), .val (.int (sp' : Int)), .val (.int (few : Int)), .own (.ints F), .val (.int c), .val (.int ((B : Int) - 1)), t]) (fun _ _ => False) ⟨List.replicate sp' 0, 0, _, Dg.rep (by lia) _, by simp, by lia, by lia, by rw [val_rep]; simp [val], rfl⟩ ?_ ?_ (fun _ _ h => h.elim)
    · rintro j σ K hj ⟨F, c, t, dF, lF, c0, c1, hv, rfl⟩ hK -
      have hd := da.getD (by lia) j
      have hor := or_low' (x := A.getD j 0) (y := c) (k := few) hd.1 c0 (by rw [← hfc]; exact c1)
      ((try dsimp only [zaa, zab, zac, zad, zae, zaf, zag, zah, zai, zaj, zak, zal, zam, zan, zao, zap, zaq, zar, zas, zat, zau, zav, zaw, zax, zay, zaz, zba, zbb, zbc, zbd, zbe, zbf, zbg, zbh, zbi, zbj, zbk, zbl, zbm, zbn, zbo, zbp, zbq, zbr, zbs, zbt, zbu, zbv, zbw, zbx, zby, zbz, zca, zcb, zcc, zcd, zce, zcf, zcg, zch, zci, zcj, zck, zcl, zcm, zcn, zco, zcp, zcq, zcr, zcs, zct, zcu, zcv, zcw, zcx, zcy, zcz, zda, zdb, zdc, zdd, zde, zdf, zdg, zdh, zdi, zdj, zdk, zdl, zdm, zdn, zdo, zdp, zdq, zdr, zds, zdt, zdu, zdv, zdw, zdx, zdy, zdz, zea, zeb, zec, zed, zee, zef, zeg, zeh, zei, zej, zek, zel, zem, zen, zeo, zep, zeq, zer, zes, zet, zeu, zev, zew, zex, zey, zez, zfa, zfb, zfc, zfd, zfe, zff, zfg, zfh, zfi, zfj, zfk, zfl, zfm, zfn, zfo, zfp, zfq, zfr, zfs, zft, zfu, zfv, zfw, zfx, zfy, zfz, zga, zgb, zgc, Nat.reduceAdd]); (try simp only [zgd, zge, zgf, zgg, true_and, and_true, hor]); (try dsimp only [zaa, zab, zac, zad, zae, zaf, zag, zah, zai, zaj, zak, zal, zam, zan, zao, zap, zaq, zar, zas, zat, zau, zav, zaw, zax, zay, zaz, zba, zbb, zbc, zbd, zbe, zbf, zbg, zbh, zbi, zbj, zbk, zbl, zbm, zbn, zbo, zbp, zbq, zbr, zbs, zbt, zbu, zbv, zbw, zbx, zby, zbz, zca, zcb, zcc, zcd, zce, zcf, zcg, zch, zci, zcj, zck, zcl, zcm, zcn, zco, zcp, zcq, zcr, zcs, zct, zcu, zcv, zcw, zcx, zcy, zcz, zda, zdb, zdc, zdd, zde, zdf, zdg, zdh, zdi, zdj, zdk, zdl, zdm, zdn, zdo, zdp, zdq, zdr, zds, zdt, zdu, zdv, zdw, zdx, zdy, zdz, zea, zeb, zec, zed, zee, zef, zeg, zeh, zei, zej, zek, zel, zem, zen, zeo, zep, zeq, zer, zes, zet, zeu, zev, zew, zex, zey, zez, zfa, zfb, zfc, zfd, zfe, zff, zfg, zfh, zfi, zfj, zfk, zfl, zfm, zfn, zfo, zfp, zfq, zfr, zfs, zft, zfu, zfv, zfw, zfx, zfy, zfz, zga, zgb, zgc, Nat.reduceAdd]))
      rw [← hfc, hmask, ← Bc, hBe, fd (by lia)]
      have hx0 : 0 ≤ A.getD j 0 * (E : Int) := Int.mul_nonneg hd.1 (by lia)
      have hx1 : (A.getD j 0 + 1) * (E : Int) ≤ B * E := Int.mul_le_mul_of_nonneg_right (by lia) (by lia)
      rw [Int.add_mul, Int.one_mul] at hx1
      generalize hT : c + A.getD j 0 * (E : Int) = T at *
      have q0 : 0 ≤ T / (B : Int) := Int.ediv_nonneg (by lia) (by lia)
      have q1 : T / (B : Int) < E := Int.ediv_lt_of_lt_mul (by lia) (by rw [Int.mul_comm]; lia)
      refine ⟨by lia, by lia, by lia, by lia, by lia, hK _ ⟨_, _, _, dF.append (Dg.one (Int.emod_nonneg _ (by lia)) (Int.emod_lt_of_pos _ (by lia))), by simp [lF]; lia, q0, q1, ?_, rfl⟩⟩
      rw [val_snoc, lF, val_take_succ' _ _ j, show sp' + (j + 1) = sp' + j + 1 by lia]
      have h1 := carry_step hB (sp' + j) T
      have h2 : (B : Int) ^ (sp' + j) = (B : Int) ^ sp' * (B : Int) ^ j := Int.pow_add _ _ _
      grind
    · rintro σ' ⟨F, c, t, dF, lF, c0, c1, hv, rfl⟩
      ((try dsimp only [zaa, zab, zac, zad, zae, zaf, zag, zah, zai, zaj, zak, zal, zam, zan, zao, zap, zaq, zar, zas, zat, zau, zav, zaw, zax, zay, zaz, zba, zbb, zbc, zbd, zbe, zbf, zbg, zbh, zbi, zbj, zbk, zbl, zbm, zbn, zbo, zbp, zbq, zbr, zbs, zbt, zbu, zbv, zbw, zbx, zby, zbz, zca, zcb, zcc, zcd, zce, zcf, zcg, zch, zci, zcj, zck, zcl, zcm, zcn, zco, zcp, zcq, zcr, zcs, zct, zcu, zcv, zcw, zcx, zcy, zcz, zda, zdb, zdc, zdd, zde, zdf, zdg, zdh, zdi, zdj, zdk, zdl, zdm, zdn, zdo, zdp, zdq, zdr, zds, zdt, zdu, zdv, zdw, zdx, zdy, zdz, zea, zeb, zec, zed, zee, zef, zeg, zeh, zei, zej, zek, zel, zem, zen, zeo, zep, zeq, zer, zes, zet, zeu, zev, zew, zex, zey, zez, zfa, zfb, zfc, zfd, zfe, zff, zfg, zfh, zfi, zfj, zfk, zfl, zfm, zfn, zfo, zfp, zfq, zfr, zfs, zft, zfu, zfv, zfw, zfx, zfy, zfz, zga, zgb, zgc, Nat.reduceAdd]); (try simp only [zgd, zge, zgf, zgg, true_and, and_true]))
      rw [List.take_length, va] at hv
      have hv' : (B : Int) ^ sp' * ((m : Int) * E) = ((m * 2 ^ n : Nat) : Int) := by
        rw [← hpw, Int.natCast_mul, Int.natCast_mul, Int.natCast_pow]; grind
      rw [hv'] at hv
      have hpc : ∀ k : Nat, ((B ^ k : Nat) : Int) = (B : Int) ^ k := fun k => Int.natCast_pow _ _
      refine ⟨fun h' => ⟨by lia, ?_⟩, fun h' => ?_⟩
      · rw [show F ++ [c] = limbs B (m * 2 ^ n) from limbs_of' hB (dF.append (Dg.one c0 (by lia))) (by rw [val_snoc, lF]; exact hv) (.inr ?_)]
        · exact hG
        · have h2 := val_nonneg dF
          have h3 : (B : Int) ^ (sp' + A.length) * 1 ≤ (B : Int) ^ (sp' + A.length) * c := Int.mul_le_mul_of_nonneg_left (by lia) (Int.le_of_lt (pow_pos' hB _))
          rw [List.length_append, List.length_singleton, Nat.add_sub_cancel, lF]
          have := hpc (sp' + A.length)
          lia
      · have hc : c = 0 := by lia
        rw [hc, Int.mul_zero, Int.add_zero] at hv
        rw [show F = limbs B (m * 2 ^ n) from limbs_of' hB dF hv ?_]
        · exact hG
        · rcases ga with ga | ga
          · rw [ga] at h; simp at h
          · right
            rw [lF, show sp' + A.length - 1 = sp' + (A.length - 1) by lia, Nat.pow_add, ← hpw]
            have h4 : B ^ sp' * B ^ (A.length - 1) ≤ B ^ sp' * m := Nat.mul_le_mul_left _ ga
            have h5 : m * (B ^ sp' * 1) ≤ m * (B ^ sp' * E) := Nat.mul_le_mul_left _ (Nat.mul_le_mul_left _ hf1)
            rw [Nat.mul_one, Nat.mul_comm m] at h5
            lia
end Mine

open PySem PySem.Calls PyProof.Rows
set_option Elab.async false
set_option maxRecDepth 100000
set_option maxHeartbeats 4000000
namespace Mine
theorem bits_w {prog : Program} {w : World} {h0 : Heap} {mg mb : Str → Option Value} {ads : Ads} (S : Stat h0 mg mb) (T : Tops h0 mg ads) : FnOk prog w h0 1 (ads 12) (P_bits ads) := by
  refine' fnOk_of (d := 0) S T.bits ["a", "w"] [] ?hb ?hl ?hn rfl rfl rfl ?hc (fun A L cd O => ?hB) (P_bits ads) ?hP
  case hb =>
    intro pm cd doc vs h
    exact vs2 (P := fun vs => bindArgs _ ⟨vs, []⟩ = pure (List.zip _ vs)) (by intros; rfl) h
  case hl => decide
  case hn => decide
  case hc => decide
  case hB =>
    exact (SSs.cons (SS.ret (SE.ifexp (STr.cmp O gt_ok (SE.len O (SB.of (SE.name O 0 "a" _ rfl)) _ _ rfl S.len.1 S.len.2) (SE.int 0 _ _) _) (SE.bin add_ok (SE.bin mul_ok (SE.bin sub_ok (SE.len O (SB.of (SE.name O 0 "a" _ rfl)) _ _ rfl S.len.1 S.len.2) (SE.int 1 _ _) _) (SE.name O 1 "w" _ rfl) _) (SE.bitlen (SE.last (SB.of (SE.name O 0 "a" _ rfl)) _ _ _ _) _ _) _) (SE.int 0 _ _) _) _)
    SSs.nil)
  case hP =>
    intro xs G h
    obtain ⟨w, x, ⟨hw, hx, hx'⟩, rfl, hG⟩ := h
    refine ⟨rfl, ?_⟩
    ((try dsimp only [zaa, zab, zac, zad, zae, zaf, zag, zah, zai, zaj, zak, zal, zam, zan, zao, zap, zaq, zar, zas, zat, zau, zav, zaw, zax, zay, zaz, zba, zbb, zbc, zbd, zbe, zbf, zbg, zbh, zbi, zbj, zbk, zbl, zbm, zbn, zbo, zbp, zbq, zbr, zbs, zbt, zbu, zbv, zbw, zbx, zby, zbz, zca, zcb, zcc, zcd, zce, zcf, zcg, zch, zci, zcj, zck, zcl, zcm, zcn, zco, zcp, zcq, zcr, zcs, zct, zcu, zcv, zcw, zcx, zcy, zcz, zda, zdb, zdc, zdd, zde, zdf, zdg, zdh, zdi, zdj, zdk, zdl, zdm, zdn, zdo, zdp, zdq, zdr, zds, zdt, zdu, zdv, zdw, zdx, zdy, zdz, zea, zeb, zec, zed, zee, zef, zeg, zeh, zei, zej, zek, zel, zem, zen, zeo, zep, zeq, zer, zes, zet, zeu, zev, zew, zex, zey, zez, zfa, zfb, zfc, zfd, zfe, zff, zfg, zfh, zfi, zfj, zfk, zfl, zfm, zfn, zfo, zfp, zfq, zfr, zfs, zft, zfu, zfv, zfw, zfx, zfy, zfz, zga, zgb, zgc, Nat.reduceAdd] at hG ⊢); (try simp only [zgd, zge, zgf, zgg, true_and, and_true] at hG ⊢))
    refine ⟨fun _ => ⟨by decide, ?_⟩, fun h => absurd (by decide) h⟩
    simpa using hG
end Mine

open PySem PySem.Calls PyProof.Rows
set_option Elab.async false
set_option maxRecDepth 100000
set_option maxHeartbeats 4000000
namespace Mine
theorem signed_w {prog : Program} {w : World} {h0 : Heap} {mg mb : Str → Option Value} {ads : Ads} (S : Stat h0 mg mb) (T : Tops h0 mg ads) : FnOk prog w h0 1 (ads 15) (P_signed ads) := by
  refine' fnOk_of (d := 0) S T.signed ["is_below", "nat"] [] ?hb ?hl ?hn rfl rfl rfl ?hc (fun A L cd O => ?hB) (P_signed ads) ?hP
  case hb =>
    intro pm cd doc vs h
    exact vs2 (P := fun vs => bindArgs _ ⟨vs, []⟩ = pure (List.zip _ vs)) (by intros; rfl) h
  case hl => decide
  case hn => decide
  case hc => decide
  case hB =>
    exact (SSs.cons (SS.ret (SE.tuple (SEs.cons (SE.and2 (SE.name O 0 "is_below" _ rfl) (SE.cmp O gt_ok (SE.len O (SB.of (SE.name O 1 "nat" _ rfl)) _ _ rfl S.len.1 S.len.2) (SE.int 0 _ _) _) _) (SEs.cons (SE.name O 1 "nat" _ rfl) SEs.nil)) _ _) _)
    SSs.nil)
  case hP =>
    intro xs G h
    obtain ⟨w, b, n, hw, rfl, hG⟩ := h
    refine ⟨rfl, ?_⟩
    have hl := limbs_len0 (B2 hw) n
    ((try dsimp only [zaa, zab, zac, zad, zae, zaf, zag, zah, zai, zaj, zak, zal, zam, zan, zao, zap, zaq, zar, zas, zat, zau, zav, zaw, zax, zay, zaz, zba, zbb, zbc, zbd, zbe, zbf, zbg, zbh, zbi, zbj, zbk, zbl, zbm, zbn, zbo, zbp, zbq, zbr, zbs, zbt, zbu, zbv, zbw, zbx, zby, zbz, zca, zcb, zcc, zcd, zce, zcf, zcg, zch, zci, zcj, zck, zcl, zcm, zcn, zco, zcp, zcq, zcr, zcs, zct, zcu, zcv, zcw, zcx, zcy, zcz, zda, zdb, zdc, zdd, zde, zdf, zdg, zdh, zdi, zdj, zdk, zdl, zdm, zdn, zdo, zdp, zdq, zdr, zds, zdt, zdu, zdv, zdw, zdx, zdy, zdz, zea, zeb, zec, zed, zee, zef, zeg, zeh, zei, zej, zek, zel, zem, zen, zeo, zep, zeq, zer, zes, zet, zeu, zev, zew, zex, zey, zez, zfa, zfb, zfc, zfd, zfe, zff, zfg, zfh, zfi, zfj, zfk, zfl, zfm, zfn, zfo, zfp, zfq, zfr, zfs, zft, zfu, zfv, zfw, zfx, zfy, zfz, zga, zgb, zgc, Nat.reduceAdd] at hG ⊢); (try simp only [zgd, zge, zgf, zgg, true_and, and_true] at hG ⊢))
    have e : decide (0 < ((limbs (2 ^ w) n).length : Int)) = decide (n ≠ 0) := by
      apply decide_eq_decide.mpr
      lia
    rw [e]
    cases b
    · exact zgg.symm ▸ hG
    · rw [zgf]; exact hG
end Mine

open PySem PySem.Calls PyProof.Rows
set_option Elab.async false
set_option maxRecDepth 100000
set_option maxHeartbeats 4000000
namespace Mine
theorem signed_of_w {prog : Program} {w : World} {h0 : Heap} {mg mb : Str → Option Value} {ads : Ads} (S : Stat h0 mg mb) (T : Tops h0 mg ads) : FnOk prog w h0 1 (ads 27) (P_signed_of ads) := by
  refine' fnOk_of (d := 0) S T.signed_of ["nat"] [] ?hb ?hl ?hn rfl rfl rfl ?hc (fun A L cd O => ?hB) (P_signed_of ads) ?hP
  case hb =>
    intro pm cd doc vs h
    exact vs1 (P := fun vs => bindArgs _ ⟨vs, []⟩ = pure (List.zip _ vs)) (by intros; rfl) h
  case hl => decide
  case hn => decide
  case hc => decide
  case hB =>
    exact (SSs.cons (SS.ret (SE.tuple (SEs.cons (SE.bool false _ _) (SEs.cons (SE.name O 0 "nat" _ rfl) SEs.nil)) _ _) _)
    SSs.nil)
  case hP =>
    intro xs G h
    obtain ⟨w, n, -, rfl, hG⟩ := h
    refine ⟨rfl, ?_⟩
    ((try dsimp only [zaa, zab, zac, zad, zae, zaf, zag, zah, zai, zaj, zak, zal, zam, zan, zao, zap, zaq, zar, zas, zat, zau, zav, zaw, zax, zay, zaz, zba, zbb, zbc, zbd, zbe, zbf, zbg, zbh, zbi, zbj, zbk, zbl, zbm, zbn, zbo, zbp, zbq, zbr, zbs, zbt, zbu, zbv, zbw, zbx, zby, zbz, zca, zcb, zcc, zcd, zce, zcf, zcg, zch, zci, zcj, zck, zcl, zcm, zcn, zco, zcp, zcq, zcr, zcs, zct, zcu, zcv, zcw, zcx, zcy, zcz, zda, zdb, zdc, zdd, zde, zdf, zdg, zdh, zdi, zdj, zdk, zdl, zdm, zdn, zdo, zdp, zdq, zdr, zds, zdt, zdu, zdv, zdw, zdx, zdy, zdz, zea, zeb, zec, zed, zee, zef, zeg, zeh, zei, zej, zek, zel, zem, zen, zeo, zep, zeq, zer, zes, zet, zeu, zev, zew, zex, zey, zez, zfa, zfb, zfc, zfd, zfe, zff, zfg, zfh, zfi, zfj, zfk, zfl, zfm, zfn, zfo, zfp, zfq, zfr, zfs, zft, zfu, zfv, zfw, zfx, zfy, zfz, zga, zgb, zgc, Nat.reduceAdd] at hG ⊢); (try simp only [zgd, zge, zgf, zgg, true_and, and_true] at hG ⊢))
    rw [show decide ((n : Int) < 0) = false by simp, Int.natAbs_natCast] at hG
    exact hG
end Mine

open PySem PySem.Calls PyProof.Rows
set_option Elab.async false
set_option maxRecDepth 100000
set_option maxHeartbeats 4000000
namespace Mine
theorem r_inverse_w {prog : Program} {w : World} {h0 : Heap} {mg mb : Str → Option Value} {ads : Ads} (S : Stat h0 mg mb) (T : Tops h0 mg ads) : FnOk prog w h0 1 (ads 33) (P_r_inverse ads) := by
  refine' fnOk_of (d := 0) S T.r_inverse ["x"] [] ?hb ?hl ?hn rfl rfl rfl ?hc (fun A L cd O => ?hB) (P_r_inverse ads) ?hP
  case hb =>
    intro pm cd doc vs h
    exact vs1 (P := fun vs => bindArgs _ ⟨vs, []⟩ = pure (List.zip _ vs)) (by intros; rfl) h
  case hl => decide
  case hn => decide
  case hc => decide
  case hB =>
    exact (SSs.cons (SS.guard (STr.cmp O eq_ok (SE.len O (SB.of (SE.item (SB.of (SE.item (SB.of (SE.name O 0 "x" _ rfl)) (SE.int 0 _ _) _)) (SE.int 1 _ _) _)) _ _ rfl S.len.1 S.len.2) (SE.int 0 _ _) _) _)
    (SSs.cons (SS.ret (SE.tuple (SEs.cons (SE.tuple (SEs.cons (SE.item (SB.of (SE.item (SB.of (SE.name O 0 "x" _ rfl)) (SE.int 0 _ _) _)) (SE.int 0 _ _) _) (SEs.cons (SE.item (SB.of (SE.name O 0 "x" _ rfl)) (SE.int 1 _ _) _) SEs.nil)) _ _) (SEs.cons (SE.item (SB.of (SE.item (SB.of (SE.name O 0 "x" _ rfl)) (SE.int 0 _ _) _)) (SE.int 1 _ _) _) SEs.nil)) _ _) _)
    SSs.nil))
  case hP =>
    intro xs G h
    obtain ⟨w, q, ⟨hw, hq⟩, rfl, hG⟩ := h
    refine ⟨rfl, ?_⟩
    have l0 := limbs_len0 (B2 hw) q.num.natAbs
    have hn : q.num ≠ 0 := fun e => hq (Rat.num_eq_zero.mp e)
    have hd := q.den_pos
    have e1 : q⁻¹.den = q.num.natAbs := by
      show (Rat.inv q).den = _
      unfold Rat.inv
      split
      · rfl
      · split
        · rfl
        · lia
    have e2 : q⁻¹.num = if q.num < 0 then -(q.den : Int) else q.den := by
      show (Rat.inv q).num = _
      unfold Rat.inv
      split
      · rfl
      · split
        · rfl
        · lia
    ((try dsimp only [zaa, zab, zac, zad, zae, zaf, zag, zah, zai, zaj, zak, zal, zam, zan, zao, zap, zaq, zar, zas, zat, zau, zav, zaw, zax, zay, zaz, zba, zbb, zbc, zbd, zbe, zbf, zbg, zbh, zbi, zbj, zbk, zbl, zbm, zbn, zbo, zbp, zbq, zbr, zbs, zbt, zbu, zbv, zbw, zbx, zby, zbz, zca, zcb, zcc, zcd, zce, zcf, zcg, zch, zci, zcj, zck, zcl, zcm, zcn, zco, zcp, zcq, zcr, zcs, zct, zcu, zcv, zcw, zcx, zcy, zcz, zda, zdb, zdc, zdd, zde, zdf, zdg, zdh, zdi, zdj, zdk, zdl, zdm, zdn, zdo, zdp, zdq, zdr, zds, zdt, zdu, zdv, zdw, zdx, zdy, zdz, zea, zeb, zec, zed, zee, zef, zeg, zeh, zei, zej, zek, zel, zem, zen, zeo, zep, zeq, zer, zes, zet, zeu, zev, zew, zex, zey, zez, zfa, zfb, zfc, zfd, zfe, zff, zfg, zfh, zfi, zfj, zfk, zfl, zfm, zfn, zfo, zfp, zfq, zfr, zfs, zft, zfu, zfv, zfw, zfx, zfy, zfz, zga, zgb, zgc, Nat.reduceAdd] at hG ⊢); (try simp only [zgd, zge, zgf, zgg, true_and, and_true] at hG ⊢))
    refine ⟨by simp only [decide_eq_false_iff_not]; lia, ?_⟩
    rw [e1, show decide (q⁻¹.num < 0) = decide (q.num < 0) by apply decide_eq_decide.mpr; rw [e2]; split <;> lia, show q⁻¹.num.natAbs = q.den by rw [e2]; split <;> lia] at hG
    exact hG
end Mine

open PySem PySem.Calls PyProof.Rows
set_option Elab.async false
set_option maxRecDepth 100000
set_option maxHeartbeats 4000000
namespace Mine
theorem guessed_limb_w {prog : Program} {w : World} {h0 : Heap} {mg mb : Str → Option Value} {ads : Ads} (S : Stat h0 mg mb) (T : Tops h0 mg ads) : FnOk prog w h0 1 (ads 39) (P_guessed_limb ads) := by
  refine' fnOk_of (d := 0) S T.guessed_limb ["top", "first", "second", "w"] ["high", "base", "limb", "rest"] ?hb ?hl ?hn rfl rfl rfl ?hc (fun A L cd O => ?hB) (P_guessed_limb ads) ?hP
  case hb =>
    intro pm cd doc vs h
    exact vs4 (P := fun vs => bindArgs _ ⟨vs, []⟩ = pure (List.zip _ vs)) (by intros; rfl) h
  case hl => decide
  case hn => decide
  case hc => decide
  case hB =>
    exact (SSs.cons (SS.assignTS O [(4, "high", ⟨0, 0, 0, 0⟩), (5, "base", ⟨0, 0, 0, 0⟩)] (SR.val (SE.bin or_ok (SE.bin shl_ok (SE.item (SB.of (SE.name O 0 "top" _ rfl)) (SE.int 2 _ _) _) (SE.name O 3 "w" _ rfl) _) (SE.item (SB.of (SE.name O 0 "top" _ rfl)) (SE.int 1 _ _) _) _) (SR.val (SE.bin shl_ok (SE.int 1 _ _) (SE.name O 3 "w" _ rfl) _) SR.nil)) _ _ _ _ _ (all2 ⟨rfl, (.inl ⟨rfl, rfl⟩)⟩ ⟨rfl, (.inl ⟨rfl, rfl⟩)⟩))
    (SSs.cons (SS.assign O 6 "limb" (SE.min O (SE.bin fdiv_ok (SE.name O 4 "high" _ rfl) (SE.name O 1 "first" _ rfl) _) (SE.bin sub_ok (SE.name O 5 "base" _ rfl) (SE.int 1 _ _) _) _ _ rfl S.min.1 S.min.2) _ _ rfl (.inl ⟨rfl, rfl⟩))
    (SSs.cons (SS.assign O 7 "rest" (SE.bin sub_ok (SE.name O 4 "high" _ rfl) (SE.bin mul_ok (SE.name O 6 "limb" _ rfl) (SE.name O 1 "first" _ rfl) _) _) _ _ rfl (.inl ⟨rfl, rfl⟩))
    (SSs.cons (SS.while O (STr.and (STr.cmp O lt_ok (SE.name O 7 "rest" _ rfl) (SE.name O 5 "base" _ rfl) _) (STr.cmp O gt_ok (SE.bin mul_ok (SE.name O 6 "limb" _ rfl) (SE.name O 2 "second" _ rfl) _) (SE.bin or_ok (SE.bin shl_ok (SE.name O 7 "rest" _ rfl) (SE.name O 3 "w" _ rfl) _) (SE.item (SB.of (SE.name O 0 "top" _ rfl)) (SE.int 0 _ _) _) _) _) _) (SSs.cons (SS.aug O isub_ok 6 "limb" (SE.int 1 _ _) _ _ rfl (.inl ⟨rfl, rfl⟩))
    (SSs.cons (SS.aug O iadd_ok 7 "rest" (SE.name O 1 "first" _ rfl) _ _ rfl (.inl ⟨rfl, rfl⟩))
    SSs.nil)) _)
    (SSs.cons (SS.ret (SE.name O 6 "limb" _ rfl) _)
    SSs.nil)))))
  case hP =>
    intro xs G h
    obtain ⟨w, t0, t1, t2, f, s, ⟨hw, h0, h1, h2, hf0, hf1, hs⟩, rfl, hG⟩ := h
    refine ⟨rfl, ?_⟩
    have hB := B2 hw
    have h256 := B256 hw
    have h8 := hw.hi
    ((try dsimp only [zaa, zab, zac, zad, zae, zaf, zag, zah, zai, zaj, zak, zal, zam, zan, zao, zap, zaq, zar, zas, zat, zau, zav, zaw, zax, zay, zaz, zba, zbb, zbc, zbd, zbe, zbf, zbg, zbh, zbi, zbj, zbk, zbl, zbm, zbn, zbo, zbp, zbq, zbr, zbs, zbt, zbu, zbv, zbw, zbx, zby, zbz, zca, zcb, zcc, zcd, zce, zcf, zcg, zch, zci, zcj, zck, zcl, zcm, zcn, zco, zcp, zcq, zcr, zcs, zct, zcu, zcv, zcw, zcx, zcy, zcz, zda, zdb, zdc, zdd, zde, zdf, zdg, zdh, zdi, zdj, zdk, zdl, zdm, zdn, zdo, zdp, zdq, zdr, zds, zdt, zdu, zdv, zdw, zdx, zdy, zdz, zea, zeb, zec, zed, zee, zef, zeg, zeh, zei, zej, zek, zel, zem, zen, zeo, zep, zeq, zer, zes, zet, zeu, zev, zew, zex, zey, zez, zfa, zfb, zfc, zfd, zfe, zff, zfg, zfh, zfi, zfj, zfk, zfl, zfm, zfn, zfo, zfp, zfq, zfr, zfs, zft, zfu, zfv, zfw, zfx, zfy, zfz, zga, zgb, zgc, Nat.reduceAdd] at hG ⊢); (try simp only [zgd, zge, zgf, zgg, true_and, and_true, Int.one_mul] at hG ⊢); (try dsimp only [zaa, zab, zac, zad, zae, zaf, zag, zah, zai, zaj, zak, zal, zam, zan, zao, zap, zaq, zar, zas, zat, zau, zav, zaw, zax, zay, zaz, zba, zbb, zbc, zbd, zbe, zbf, zbg, zbh, zbi, zbj, zbk, zbl, zbm, zbn, zbo, zbp, zbq, zbr, zbs, zbt, zbu, zbv, zbw, zbx, zby, zbz, zca, zcb, zcc, zcd, zce, zcf, zcg, zch, zci, zcj, zck, zcl, zcm, zcn, zco, zcp, zcq, zcr, zcs, zct, zcu, zcv, zcw, zcx, zcy, zcz, zda, zdb, zdc, zdd, zde, zdf, zdg, zdh, zdi, zdj, zdk, zdl, zdm, zdn, zdo, zdp, zdq, zdr, zds, zdt, zdu, zdv, zdw, zdx, zdy, zdz, zea, zeb, zec, zed, zee, zef, zeg, zeh, zei, zej, zek, zel, zem, zen, zeo, zep, zeq, zer, zes, zet, zeu, zev, zew, zex, zey, zez, zfa, zfb, zfc, zfd, zfe, zff, zfg, zfh, zfi, zfj, zfk, zfl, zfm, zfn, zfo, zfp, zfq, zfr, zfs, zft, zfu, zfv, zfw, zfx, zfy, zfz, zga, zgb, zgc, Nat.reduceAdd] at hG ⊢))
    have g0 : [(t0 : Int), (t1 : Int), (t2 : Int)].getD (Int.toNat 0) 0 = t0 := rfl
    have g1 : [(t0 : Int), (t1 : Int), (t2 : Int)].getD (Int.toNat 1) 0 = t1 := rfl
    have g2 : [(t0 : Int), (t1 : Int), (t2 : Int)].getD (Int.toNat 2) 0 = t2 := rfl
    rw [g1, g2, or_low (by lia) (by lia) (by rw [← Bc]; lia), ← Bc]
    have hor : ∀ x : Int, 0 ≤ x → Builtin.bitOr (x * 2 ^ w) t0 = x * ((2 ^ w : Nat) : Int) + t0 := fun x hx => by rw [or_low hx (by lia) (by rw [← Bc]; lia), ← Bc]
    generalize hBe : (2 ^ w : Nat) = B at *
    have hhi : ((t2 : Int) * B + t1) = ((t2 * B + t1 : Nat) : Int) := by rw [Int.natCast_add, Int.natCast_mul]
    have hhb : t2 * B + t1 < 65536 := by
      have : t2 * B ≤ 255 * 256 := Nat.mul_le_mul (by lia) h256
      lia
    rw [hhi]
    generalize t2 * B + t1 = hi at *
    rw [fd (by lia), ← Int.natCast_ediv]
    have hmin : (if (B : Int) - 1 < ((hi / f : Nat) : Int) then (B : Int) - 1 else ((hi / f : Nat) : Int)) = ((min (hi / f) (B - 1) : Nat) : Int) := by
      split <;> lia
    rw [hmin]
    have hml : min (hi / f) (B - 1) ≤ B - 1 := Nat.min_le_right _ _
    have hq : hi / f ≤ hi := Nat.div_le_self _ _
    have hl0 : min (hi / f) (B - 1) * f ≤ hi := Nat.le_trans (Nat.mul_le_mul_right _ (Nat.min_le_left _ _)) (Nat.div_mul_le_self _ _)
    have hSpos : 0 < f * B + s := by have := Nat.mul_pos hf0 (show 0 < B by lia); lia
    refine ⟨by decide, by decide, by lia, by lia, by lia, by decide, by decide, by lia, by lia, by decide, by decide, by lia, by lia, by rw [Int.natAbs_natCast]; lia, ?_⟩
    have hTop : ∀ q, min (hi / f) (B - 1) < q → q ≤ B - 1 → hi * B + t0 < q * (f * B + s) := by
      intro q hq1 hq2
      have h3 : hi / f < q := by lia
      have h4 : hi < q * f := by rw [Nat.div_lt_iff_lt_mul hf0] at h3; exact h3
      have h5 : (hi + 1) * B ≤ q * f * B := Nat.mul_le_mul_right _ h4
      rw [Nat.mul_add, ← Nat.mul_assoc]
      rw [Nat.add_mul] at h5
      lia
    refine whN_inv (fun n σ => ∃ r : Nat, n ≤ B - 1 ∧ n * f + r = hi ∧ (∀ q, n < q → q ≤ B - 1 → hi * B + t0 < q * (f * B + s)) ∧ σ = [.val (.ints [(t0 : Int), (t1 : Int), (t2 : Int)]), .val (.int (f : Int)), .val (.int (s : Int)), .val (.int (w : Int)), .val (.int (hi : Int)), .val (.int (B : Int)), .val (.int (n : Int)), .val (.int (r : Int))]) (fun _ _ => False) (min (hi / f) (B - 1)) _ ⟨hi - min (hi / f) (B - 1) * f, by lia, by lia, hTop, ?_⟩ ?_ (fun _ _ h => h.elim)
    · rw [Int.natCast_sub hl0, Int.natCast_mul]
    · rintro n σ K ⟨r, hn, hr, hmax, rfl⟩ hK -
      have fin : n * (f * B + s) ≤ hi * B + t0 → G (.int (n : Int)) := by
        intro hle
        have e : min ((hi * B + t0) / (f * B + s)) (B - 1) = n := by
          have a1 : n ≤ (hi * B + t0) / (f * B + s) := (Nat.le_div_iff_mul_le hSpos).mpr hle
          rcases Nat.lt_or_ge n (min ((hi * B + t0) / (f * B + s)) (B - 1)) with h | h
          · have a2 := hmax _ h (Nat.min_le_right _ _)
            have a3 : min ((hi * B + t0) / (f * B + s)) (B - 1) * (f * B + s) ≤ hi * B + t0 := Nat.le_trans (Nat.mul_le_mul_right _ (Nat.min_le_left _ _)) (Nat.div_mul_le_self _ _)
            lia
          · lia
        rw [e] at hG
        exact hG
      have hexp : n * (f * B + s) = n * f * B + n * s := by rw [Nat.mul_add, ← Nat.mul_assoc]
      have hexp2 : hi * B = n * f * B + r * B := by rw [← Nat.add_mul, hr]
      have hns : n * s ≤ 255 * 255 := Nat.mul_le_mul (by lia) (by lia)
      ((try dsimp only [zaa, zab, zac, zad, zae, zaf, zag, zah, zai, zaj, zak, zal, zam, zan, zao, zap, zaq, zar, zas, zat, zau, zav, zaw, zax, zay, zaz, zba, zbb, zbc, zbd, zbe, zbf, zbg, zbh, zbi, zbj, zbk, zbl, zbm, zbn, zbo, zbp, zbq, zbr, zbs, zbt, zbu, zbv, zbw, zbx, zby, zbz, zca, zcb, zcc, zcd, zce, zcf, zcg, zch, zci, zcj, zck, zcl, zcm, zcn, zco, zcp, zcq, zcr, zcs, zct, zcu, zcv, zcw, zcx, zcy, zcz, zda, zdb, zdc, zdd, zde, zdf, zdg, zdh, zdi, zdj, zdk, zdl, zdm, zdn, zdo, zdp, zdq, zdr, zds, zdt, zdu, zdv, zdw, zdx, zdy, zdz, zea, zeb, zec, zed, zee, zef, zeg, zeh, zei, zej, zek, zel, zem, zen, zeo, zep, zeq, zer, zes, zet, zeu, zev, zew, zex, zey, zez, zfa, zfb, zfc, zfd, zfe, zff, zfg, zfh, zfi, zfj, zfk, zfl, zfm, zfn, zfo, zfp, zfq, zfr, zfs, zft, zfu, zfv, zfw, zfx, zfy, zfz, zga, zgb, zgc, Nat.reduceAdd]); (try simp only [zgd, zge, zgf, zgg, true_and, and_true, g0]); (try dsimp only [zaa, zab, zac, zad, zae, zaf, zag, zah, zai, zaj, zak, zal, zam, zan, zao, zap, zaq, zar, zas, zat, zau, zav, zaw, zax, zay, zaz, zba, zbb, zbc, zbd, zbe, zbf, zbg, zbh, zbi, zbj, zbk, zbl, zbm, zbn, zbo, zbp, zbq, zbr, zbs, zbt, zbu, zbv, zbw, zbx, zby, zbz, zca, zcb, zcc, zcd, zce, zcf, zcg, zch, zci, zcj, zck, zcl, zcm, zcn, zco, zcp, zcq, zcr, zcs, zct, zcu, zcv, zcw, zcx, zcy, zcz, zda, zdb, zdc, zdd, zde, zdf, zdg, zdh, zdi, zdj, zdk, zdl, zdm, zdn, zdo, zdp, zdq, zdr, zds, zdt, zdu, zdv, zdw, zdx, zdy, zdz, zea, zeb, zec, zed, zee, zef, zeg, zeh, zei, zej, zek, zel, zem, zen, zeo, zep, zeq, zer, zes, zet, zeu, zev, zew, zex, zey, zez, zfa, zfb, zfc, zfd, zfe, zff, zfg, zfh, zfi, zfj, zfk, zfl, zfm, zfn, zfo, zfp, zfq, zfr, zfs, zft, zfu, zfv, zfw, zfx, zfy, zfz, zga, zgb, zgc, Nat.reduceAdd]))
      rw [hor _ (by lia)]
      have cns : (n : Int) * (s : Int) = ((n * s : Nat) : Int) := (Int.natCast_mul _ _).symm
      have crb : (r : Int) * (B : Int) = ((r * B : Nat) : Int) := (Int.natCast_mul _ _).symm
      rw [cns, crb]
      have hrB : r < B → r * B ≤ 255 * 256 := fun h => Nat.mul_le_mul (by lia) h256
      refine ⟨fun h => ⟨by lia, by lia, by lia, by lia, by decide, by decide, fun h' => ?_, fun h' => ?_⟩, fun h => ?_⟩
      · have n0 : 0 < n := by
          rcases Nat.eq_zero_or_pos n with e | e
          · subst e; rw [Nat.zero_mul] at h'; lia
          · exact e
        refine hK (n - 1) _ (by lia) ⟨r + f, by lia, ?_, ?_, ?_⟩
        · have : n * f = (n - 1) * f + f := by rw [← Nat.succ_mul]; congr 1; lia
          lia
        · intro q hq1 hq2
          rcases Nat.lt_or_ge n q with h3 | h3
          · exact hmax q h3 hq2
          · rw [show q = n by lia]; lia
        · rw [Int.natCast_sub n0]; rfl
      · exact fin (by lia)
      · refine fin ?_
        have : 256 * 255 ≥ 0 := by lia
        have h5 : n * s ≤ (B - 1) * (B - 1) := Nat.mul_le_mul hn (by lia)
        have h6 : B * B ≤ r * B := Nat.mul_le_mul_right _ (by lia)
        have h7 : (B - 1) * (B - 1) ≤ B * B := Nat.mul_le_mul (by lia) (by lia)
        lia
end Mine

open PySem PySem.Calls PyProof.Rows
set_option Elab.async false
set_option maxRecDepth 100000
set_option maxHeartbeats 4000000
namespace Mine
theorem take_away_w {prog : Program} {w : World} {h0 : Heap} {mg mb : Str → Option Value} {ads : Ads} (S : Stat h0 mg mb) (T : Tops h0 mg ads) : FnOkM prog w h0 1 (ads 40) (P_take_away ads) := by
  refine' fnOkM_of (d := 0) S T.take_away "rest" ["b", "limb", "at", "w"] ["carry", "base", "spot", "other", "here"] ?hb ?hl ?hn rfl rfl rfl ?hc (fun A L cd O => ?hB) (P_take_away ads) ?hP
  case hb =>
    intro pm cd doc vs h
    exact vs5 (P := fun vs => bindArgs _ ⟨vs, []⟩ = pure (List.zip _ vs)) (by intros; rfl) h
  case hl => decide
  case hn => decide
  case hc => decide
  case hB =>
    exact (SSs.cons (SS.assignTS O [(5, "carry", ⟨0, 0, 0, 0⟩), (6, "base", ⟨0, 0, 0, 0⟩)] (SR.val (SE.int 0 _ _) (SR.val (SE.bin shl_ok (SE.int 1 _ _) (SE.name O 4 "w" _ rfl) _) SR.nil)) _ _ _ _ _ (all2 ⟨rfl, (.inl ⟨rfl, rfl⟩)⟩ ⟨rfl, (.inl ⟨rfl, rfl⟩)⟩))
    (SSs.cons (SS.forE O (7, "spot", _) (8, "other", _) (SE.name O 1 "b" _ rfl) (SSs.cons (SS.assign O 9 "here" (SE.bin sub_ok (SE.item (SB.own O 0 "rest" _ rfl) (SE.bin add_ok (SE.name O 3 "at" _ rfl) (SE.name O 7 "spot" _ rfl) _) _) (SE.bin fmod_ok (SE.bin add_ok (SE.bin mul_ok (SE.name O 2 "limb" _ rfl) (SE.name O 8 "other" _ rfl) _) (SE.name O 5 "carry" _ rfl) _) (SE.name O 6 "base" _ rfl) _) _) _ _ rfl (.inl ⟨rfl, rfl⟩))
    (SSs.cons (SS.assign O 5 "carry" (SE.bin add_ok (SE.bin fdiv_ok (SE.bin add_ok (SE.bin mul_ok (SE.name O 2 "limb" _ rfl) (SE.name O 8 "other" _ rfl) _) (SE.name O 5 "carry" _ rfl) _) (SE.name O 6 "base" _ rfl) _) (SE.ifexp (STr.cmp O lt_ok (SE.name O 9 "here" _ rfl) (SE.int 0 _ _) _) (SE.int 1 _ _) (SE.int 0 _ _) _) _) _ _ rfl (.inl ⟨rfl, rfl⟩))
    (SSs.cons (SS.setitem O 0 "rest" (SE.ifexp (STr.cmp O lt_ok (SE.name O 9 "here" _ rfl) (SE.int 0 _ _) _) (SE.bin add_ok (SE.name O 9 "here" _ rfl) (SE.name O 6 "base" _ rfl) _) (SE.name O 9 "here" _ rfl) _) (SE.bin add_ok (SE.name O 3 "at" _ rfl) (SE.name O 7 "spot" _ rfl) _) _ _ _ rfl)
    SSs.nil))) _ _ _ _ _ (all2 ⟨rfl, .inl ⟨rfl, rfl⟩⟩ ⟨rfl, .inl ⟨rfl, rfl⟩⟩) rfl rfl S.enum.1 S.enum.2)
    (SSs.cons (SS.assign O 9 "here" (SE.bin sub_ok (SE.item (SB.own O 0 "rest" _ rfl) (SE.bin add_ok (SE.name O 3 "at" _ rfl) (SE.len O (SB.of (SE.name O 1 "b" _ rfl)) _ _ rfl S.len.1 S.len.2) _) _) (SE.name O 5 "carry" _ rfl) _) _ _ rfl (.inl ⟨rfl, rfl⟩))
    (SSs.cons (SS.setitem O 0 "rest" (SE.ifexp (STr.cmp O lt_ok (SE.name O 9 "here" _ rfl) (SE.int 0 _ _) _) (SE.bin add_ok (SE.name O 9 "here" _ rfl) (SE.name O 6 "base" _ rfl) _) (SE.name O 9 "here" _ rfl) _) (SE.bin add_ok (SE.name O 3 "at" _ rfl) (SE.len O (SB.of (SE.name O 1 "b" _ rfl)) _ _ rfl S.len.1 S.len.2) _) _ _ _ rfl)
    (SSs.cons (SS.ret (SE.ifexp (STr.cmp O lt_ok (SE.name O 9 "here" _ rfl) (SE.int 0 _ _) _) (SE.int 1 _ _) (SE.int 0 _ _) _) _)
    SSs.nil)))))
  case hP =>
    intro p xs G h
    obtain ⟨w, limb, pre, win, post, b, ⟨hw, dW, dB, lW, hlimb, hlen⟩, rfl, rfl, hG⟩ := h
    refine ⟨rfl, ?_⟩
    have hB := B2 hw
    have h256 := B256 hw
    have h8 := hw.hi
    ((try dsimp only [zaa, zab, zac, zad, zae, zaf, zag, zah, zai, zaj, zak, zal, zam, zan, zao, zap, zaq, zar, zas, zat, zau, zav, zaw, zax, zay, zaz, zba, zbb, zbc, zbd, zbe, zbf, zbg, zbh, zbi, zbj, zbk, zbl, zbm, zbn, zbo, zbp, zbq, zbr, zbs, zbt, zbu, zbv, zbw, zbx, zby, zbz, zca, zcb, zcc, zcd, zce, zcf, zcg, zch, zci, zcj, zck, zcl, zcm, zcn, zco, zcp, zcq, zcr, zcs, zct, zcu, zcv, zcw, zcx, zcy, zcz, zda, zdb, zdc, zdd, zde, zdf, zdg, zdh, zdi, zdj, zdk, zdl, zdm, zdn, zdo, zdp, zdq, zdr, zds, zdt, zdu, zdv, zdw, zdx, zdy, zdz, zea, zeb, zec, zed, zee, zef, zeg, zeh, zei, zej, zek, zel, zem, zen, zeo, zep, zeq, zer, zes, zet, zeu, zev, zew, zex, zey, zez, zfa, zfb, zfc, zfd, zfe, zff, zfg, zfh, zfi, zfj, zfk, zfl, zfm, zfn, zfo, zfp, zfq, zfr, zfs, zft, zfu, zfv, zfw, zfx, zfy, zfz, zga, zgb, zgc, Nat.reduceAdd] at hG ⊢); (try simp only [zgd, zge, zgf, zgg, true_and, and_true, Int.one_mul] at hG ⊢); (try dsimp only [zaa, zab, zac, zad, zae, zaf, zag, zah, zai, zaj, zak, zal, zam, zan, zao, zap, zaq, zar, zas, zat, zau, zav, zaw, zax, zay, zaz, zba, zbb, zbc, zbd, zbe, zbf, zbg, zbh, zbi, zbj, zbk, zbl, zbm, zbn, zbo, zbp, zbq, zbr, zbs, zbt, zbu, zbv, zbw, zbx, zby, zbz, zca, zcb, zcc, zcd, zce, zcf, zcg, zch, zci, zcj, zck, zcl, zcm, zcn, zco, zcp, zcq, zcr, zcs, zct, zcu, zcv, zcw, zcx, zcy, zcz, zda, zdb, zdc, zdd, zde, zdf, zdg, zdh, zdi, zdj, zdk, zdl, zdm, zdn, zdo, zdp, zdq, zdr, zds, zdt, zdu, zdv, zdw, zdx, zdy, zdz, zea, zeb, zec, zed, zee, zef, zeg, zeh, zei, zej, zek, zel, zem, zen, zeo, zep, zeq, zer, zes, zet, zeu, zev, zew, zex, zey, zez, zfa, zfb, zfc, zfd, zfe, zff, zfg, zfh, zfi, zfj, zfk, zfl, zfm, zfn, zfo, zfp, zfq, zfr, zfs, zft, zfu, zfv, zfw, zfx, zfy, zfz, zga, zgb, zgc, Nat.reduceAdd] at hG ⊢))
    rw [← Bc]
    generalize hBe : (2 ^ w : Nat) = B at *
    refine ⟨by lia, by lia, by decide, by decide, ?_⟩
    have hget : ∀ (W : List Int) (i : Nat), i < W.length → (pre ++ W ++ post).getD (pre.length + i) 0 = W.getD i 0 := by
      intro W i hi
      rw [List.getD_eq_getElem?_getD, List.getD_eq_getElem?_getD, List.append_assoc, List.getElem?_append_right (by lia), Nat.add_sub_cancel_left, List.getElem?_append_left hi]
    have hset : ∀ (W : List Int) (i : Nat) (v : Int), i < W.length → (pre ++ W ++ post).set (pre.length + i) v = pre ++ W.set i v ++ post := by
      intro W i v hi
      rw [List.append_assoc, List.set_append_right _ _ (by lia), Nat.add_sub_cancel_left, List.set_append_left _ _ hi, ← List.append_assoc]
    have hlen2 : pre.length + (win.length + post.length) ≤ 100000 := by simpa [Nat.add_assoc] using hlen
    refine enL_inv (fun k σ => ∃ (W : List Int) (c : Int) (t u v : Sl), Dg B W ∧ W.length = win.length ∧ 0 ≤ c ∧ c ≤ B ∧ W.getD b.length 0 = win.getD b.length 0 ∧ val B W = val B win - limb * val B (b.take k) + (B : Int) ^ k * c ∧ σ = [.own (.ints (pre ++ W ++ post)), .val (.ints b), .val (.int (limb : Int)), .val (.int (pre.length : Int)), .val (.int (w : Int)), .val (.int c), .val (.int (B : Int)), t, u, v]) (fun _ _ => False) ⟨win, 0, _, _, _, dW, rfl, by lia, by lia, rfl, by simp [val], rfl⟩ ?_ ?_ (fun _ _ h => h.elim)
    · rintro k σ K hk ⟨W, c, t, u, v, dF, lF, c0, c1, htop, hv, rfl⟩ hK -
      have hda := dF.getD (by lia) k
      have hdb := dB.getD (by lia) k
      have hb := val_take_succ' (B : Int) b k
      have hat : ((pre.length : Int) + (k : Int)).toNat = pre.length + k := by lia
      ((try dsimp only [zaa, zab, zac, zad, zae, zaf, zag, zah, zai, zaj, zak, zal, zam, zan, zao, zap, zaq, zar, zas, zat, zau, zav, zaw, zax, zay, zaz, zba, zbb, zbc, zbd, zbe, zbf, zbg, zbh, zbi, zbj, zbk, zbl, zbm, zbn, zbo, zbp, zbq, zbr, zbs, zbt, zbu, zbv, zbw, zbx, zby, zbz, zca, zcb, zcc, zcd, zce, zcf, zcg, zch, zci, zcj, zck, zcl, zcm, zcn, zco, zcp, zcq, zcr, zcs, zct, zcu, zcv, zcw, zcx, zcy, zcz, zda, zdb, zdc, zdd, zde, zdf, zdg, zdh, zdi, zdj, zdk, zdl, zdm, zdn, zdo, zdp, zdq, zdr, zds, zdt, zdu, zdv, zdw, zdx, zdy, zdz, zea, zeb, zec, zed, zee, zef, zeg, zeh, zei, zej, zek, zel, zem, zen, zeo, zep, zeq, zer, zes, zet, zeu, zev, zew, zex, zey, zez, zfa, zfb, zfc, zfd, zfe, zff, zfg, zfh, zfi, zfj, zfk, zfl, zfm, zfn, zfo, zfp, zfq, zfr, zfs, zft, zfu, zfv, zfw, zfx, zfy, zfz, zga, zgb, zgc, Nat.reduceAdd]); (try simp only [zgd, zge, zgf, zgg, true_and, and_true, hat]); (try dsimp only [zaa, zab, zac, zad, zae, zaf, zag, zah, zai, zaj, zak, zal, zam, zan, zao, zap, zaq, zar, zas, zat, zau, zav, zaw, zax, zay, zaz, zba, zbb, zbc, zbd, zbe, zbf, zbg, zbh, zbi, zbj, zbk, zbl, zbm, zbn, zbo, zbp, zbq, zbr, zbs, zbt, zbu, zbv, zbw, zbx, zby, zbz, zca, zcb, zcc, zcd, zce, zcf, zcg, zch, zci, zcj, zck, zcl, zcm, zcn, zco, zcp, zcq, zcr, zcs, zct, zcu, zcv, zcw, zcx, zcy, zcz, zda, zdb, zdc, zdd, zde, zdf, zdg, zdh, zdi, zdj, zdk, zdl, zdm, zdn, zdo, zdp, zdq, zdr, zds, zdt, zdu, zdv, zdw, zdx, zdy, zdz, zea, zeb, zec, zed, zee, zef, zeg, zeh, zei, zej, zek, zel, zem, zen, zeo, zep, zeq, zer, zes, zet, zeu, zev, zew, zex, zey, zez, zfa, zfb, zfc, zfd, zfe, zff, zfg, zfh, zfi, zfj, zfk, zfl, zfm, zfn, zfo, zfp, zfq, zfr, zfs, zft, zfu, zfv, zfw, zfx, zfy, zfz, zga, zgb, zgc, Nat.reduceAdd]))
      rw [hget W k (by lia)]
      have hlo0 : 0 ≤ (limb : Int) * b.getD k 0 := Int.mul_nonneg (by lia) hdb.1
      have hlo1 : (limb : Int) * b.getD k 0 ≤ (B - 1) * (B - 1) := Int.mul_le_mul (by lia) (by lia) hdb.1 (by lia)
      have hsq : ((B : Int) - 1) * (B - 1) = B * B - 2 * B + 1 := by grind
      have hBB : (B : Int) * 2 ≤ B * B := Int.mul_le_mul_of_nonneg_left (by lia) (by lia)
      rw [fd (by lia), fm (by lia)]
      generalize hT : (limb : Int) * b.getD k 0 + c = T at *
      have m0 := Int.emod_nonneg T (show (B : Int) ≠ 0 by lia)
      have m1 := Int.emod_lt_of_pos T (show (0 : Int) < B by lia)
      have q0 : 0 ≤ T / (B : Int) := Int.ediv_nonneg (by lia) (by lia)
      have q1 : T / (B : Int) < B := Int.ediv_lt_of_lt_mul (by lia) (by lia)
      have hdm := Int.emod_add_mul_ediv T B
      have hp : (B : Int) ^ (k + 1) = (B : Int) ^ k * B := Int.pow_succ _ _
      rw [hset W k _ (by lia), hset W k _ (by lia)]
      have hll : (pre ++ W ++ post).length = pre.length + (win.length + post.length) := by simp [lF, Nat.add_assoc]
      have k1 : W.getD k 0 - T % B < 0 → K .next [.own (.ints (pre ++ W.set k (W.getD k 0 - T % B + B) ++ post)), .val (.ints b), .val (.int (limb : Int)), .val (.int (pre.length : Int)), .val (.int (w : Int)), .val (.int (T / B + 1)), .val (.int (B : Int)), .val (.int (k : Int)), .val (.int (b.getD k 0)), .val (.int (W.getD k 0 - T % B))] := by
        intro h
        refine hK _ ⟨_, _, _, _, _, dF.set k (by lia) (by lia), by simp [lF], by lia, by lia, by rw [getD_set_ne _ _ _ _ (by lia)]; exact htop, ?_, rfl⟩
        rw [val_set _ _ _ _ (by lia), hv, hb, hp]
        grind
      have k2 : ¬ W.getD k 0 - T % B < 0 → K .next [.own (.ints (pre ++ W.set k (W.getD k 0 - T % B) ++ post)), .val (.ints b), .val (.int (limb : Int)), .val (.int (pre.length : Int)), .val (.int (w : Int)), .val (.int (T / B + 0)), .val (.int (B : Int)), .val (.int (k : Int)), .val (.int (b.getD k 0)), .val (.int (W.getD k 0 - T % B))] := by
        intro h
        refine hK _ ⟨_, _, _, _, _, dF.set k (by lia) (by lia), by simp [lF], by lia, by lia, by rw [getD_set_ne _ _ _ _ (by lia)]; exact htop, ?_, rfl⟩
        rw [val_set _ _ _ _ (by lia), hv, hb, hp]
        grind
      rw [hll]
      exact ⟨by lia, by lia, by lia, by lia, by lia, by lia, by lia, fun h => ⟨fun _ => ⟨by lia, by lia, k1 h⟩, fun h' => absurd h h'⟩, fun h => ⟨fun h' => absurd h' h, fun _ => ⟨by lia, by lia, k2 h⟩⟩⟩
    · rintro σ' ⟨W, c, t, u, v, dF, lF, c0, c1, htop, hv, rfl⟩
      ((try dsimp only [zaa, zab, zac, zad, zae, zaf, zag, zah, zai, zaj, zak, zal, zam, zan, zao, zap, zaq, zar, zas, zat, zau, zav, zaw, zax, zay, zaz, zba, zbb, zbc, zbd, zbe, zbf, zbg, zbh, zbi, zbj, zbk, zbl, zbm, zbn, zbo, zbp, zbq, zbr, zbs, zbt, zbu, zbv, zbw, zbx, zby, zbz, zca, zcb, zcc, zcd, zce, zcf, zcg, zch, zci, zcj, zck, zcl, zcm, zcn, zco, zcp, zcq, zcr, zcs, zct, zcu, zcv, zcw, zcx, zcy, zcz, zda, zdb, zdc, zdd, zde, zdf, zdg, zdh, zdi, zdj, zdk, zdl, zdm, zdn, zdo, zdp, zdq, zdr, zds, zdt, zdu, zdv, zdw, zdx, zdy, zdz, zea, zeb, zec, zed, zee, zef, zeg, zeh, zei, zej, zek, zel, zem, zen, zeo, zep, zeq, zer, zes, zet, zeu, zev, zew, zex, zey, zez, zfa, zfb, zfc, zfd, zfe, zff, zfg, zfh, zfi, zfj, zfk, zfl, zfm, zfn, zfo, zfp, zfq, zfr, zfs, zft, zfu, zfv, zfw, zfx, zfy, zfz, zga, zgb, zgc, Nat.reduceAdd]); (try simp only [zgd, zge, zgf, zgg, true_and, and_true]))
      rw [show ((pre.length : Int) + (b.length : Int)).toNat = pre.length + b.length by lia, hget W b.length (by lia), hset W b.length _ (by lia), hset W b.length _ (by lia)]
      have hll : (pre ++ W ++ post).length = pre.length + (win.length + post.length) := by simp [lF, Nat.add_assoc]
      have hda := dF.getD (by lia) b.length
      rw [List.take_length] at hv
      have hp : (B : Int) ^ win.length = (B : Int) ^ b.length * B := by rw [lW]; exact Int.pow_succ _ _
      rw [hll]
      refine ⟨by lia, by lia, fun h => ⟨by lia, by lia, fun _ => ?_, fun h' => absurd h h'⟩, fun h => ⟨by lia, by lia, fun h' => absurd h' h, fun _ => ?_⟩⟩
      · refine hG (W.set b.length (W.getD b.length 0 - c + B)) 1 (dF.set _ (by lia) (by lia)) (by simp [lF]) (by lia) ?_
        rw [val_set _ _ _ _ (by lia), hv, hp]
        grind
      · refine hG (W.set b.length (W.getD b.length 0 - c)) 0 (dF.set _ (by lia) (by lia)) (by simp [lF]) (by lia) ?_
        rw [val_set _ _ _ _ (by lia), hv, hp]
        grind
end Mine

open PySem PySem.Calls PyProof.Rows
set_option Elab.async false
set_option maxRecDepth 100000
set_option maxHeartbeats 4000000
namespace Mine
theorem put_back_w {prog : Program} {w : World} {h0 : Heap} {mg mb : Str → Option Value} {ads : Ads} (S : Stat h0 mg mb) (T : Tops h0 mg ads) : FnOkM prog w h0 1 (ads 41) (P_put_back ads) := by
  refine' fnOkM_of (d := 0) S T.put_back "rest" ["b", "at", "w"] ["carry", "mask", "spot", "other"] ?hb ?hl ?hn rfl rfl rfl ?hc (fun A L cd O => ?hB) (P_put_back ads) ?hP
  case hb =>
    intro pm cd doc vs h
    exact vs4 (P := fun vs => bindArgs _ ⟨vs, []⟩ = pure (List.zip _ vs)) (by intros; rfl) h
  case hl => decide
  case hn => decide
  case hc => decide
  case hB =>
    exact (SSs.cons (SS.assignTS O [(4, "carry", ⟨0, 0, 0, 0⟩), (5, "mask", ⟨0, 0, 0, 0⟩)] (SR.val (SE.int 0 _ _) (SR.val (SE.bin sub_ok (SE.bin shl_ok (SE.int 1 _ _) (SE.name O 3 "w" _ rfl) _) (SE.int 1 _ _) _) SR.nil)) _ _ _ _ _ (all2 ⟨rfl, (.inl ⟨rfl, rfl⟩)⟩ ⟨rfl, (.inl ⟨rfl, rfl⟩)⟩))
    (SSs.cons (SS.forE O (6, "spot", _) (7, "other", _) (SE.name O 1 "b" _ rfl) (SSs.cons (SS.aug O iadd_ok 4 "carry" (SE.bin add_ok (SE.item (SB.own O 0 "rest" _ rfl) (SE.bin add_ok (SE.name O 2 "at" _ rfl) (SE.name O 6 "spot" _ rfl) _) _) (SE.name O 7 "other" _ rfl) _) _ _ rfl (.inl ⟨rfl, rfl⟩))
    (SSs.cons (SS.setitem O 0 "rest" (SE.bin and_ok (SE.name O 4 "carry" _ rfl) (SE.name O 5 "mask" _ rfl) _) (SE.bin add_ok (SE.name O 2 "at" _ rfl) (SE.name O 6 "spot" _ rfl) _) _ _ _ rfl)
    (SSs.cons (SS.aug O ishr_ok 4 "carry" (SE.name O 3 "w" _ rfl) _ _ rfl (.inl ⟨rfl, rfl⟩))
    SSs.nil))) _ _ _ _ _ (all2 ⟨rfl, .inl ⟨rfl, rfl⟩⟩ ⟨rfl, .inl ⟨rfl, rfl⟩⟩) rfl rfl S.enum.1 S.enum.2)
    (SSs.cons (SS.setitem O 0 "rest" (SE.bin and_ok (SE.bin add_ok (SE.item (SB.own O 0 "rest" _ rfl) (SE.bin add_ok (SE.name O 2 "at" _ rfl) (SE.len O (SB.of (SE.name O 1 "b" _ rfl)) _ _ rfl S.len.1 S.len.2) _) _) (SE.name O 4 "carry" _ rfl) _) (SE.name O 5 "mask" _ rfl) _) (SE.bin add_ok (SE.name O 2 "at" _ rfl) (SE.len O (SB.of (SE.name O 1 "b" _ rfl)) _ _ rfl S.len.1 S.len.2) _) _ _ _ rfl)
    SSs.nil)))
  case hP =>
    intro p xs G h
    obtain ⟨w, pre, win, post, b, ⟨hw, dW, dB, lW, hlen⟩, rfl, rfl, hG⟩ := h
    refine ⟨rfl, ?_⟩
    have hB := B2 hw
    have h256 := B256 hw
    have h8 := hw.hi
    have hmask : ∀ x : Int, Builtin.bitAnd x (((2 ^ w : Nat) : Int) - 1) = x % ((2 ^ w : Nat) : Int) := fun x => by rw [Bc]; exact mask' x w
    ((try dsimp only [zaa, zab, zac, zad, zae, zaf, zag, zah, zai, zaj, zak, zal, zam, zan, zao, zap, zaq, zar, zas, zat, zau, zav, zaw, zax, zay, zaz, zba, zbb, zbc, zbd, zbe, zbf, zbg, zbh, zbi, zbj, zbk, zbl, zbm, zbn, zbo, zbp, zbq, zbr, zbs, zbt, zbu, zbv, zbw, zbx, zby, zbz, zca, zcb, zcc, zcd, zce, zcf, zcg, zch, zci, zcj, zck, zcl, zcm, zcn, zco, zcp, zcq, zcr, zcs, zct, zcu, zcv, zcw, zcx, zcy, zcz, zda, zdb, zdc, zdd, zde, zdf, zdg, zdh, zdi, zdj, zdk, zdl, zdm, zdn, zdo, zdp, zdq, zdr, zds, zdt, zdu, zdv, zdw, zdx, zdy, zdz, zea, zeb, zec, zed, zee, zef, zeg, zeh, zei, zej, zek, zel, zem, zen, zeo, zep, zeq, zer, zes, zet, zeu, zev, zew, zex, zey, zez, zfa, zfb, zfc, zfd, zfe, zff, zfg, zfh, zfi, zfj, zfk, zfl, zfm, zfn, zfo, zfp, zfq, zfr, zfs, zft, zfu, zfv, zfw, zfx, zfy, zfz, zga, zgb, zgc, Nat.reduceAdd] at hG ⊢); (try simp only [zgd, zge, zgf, zgg, true_and, and_true, Int.one_mul] at hG ⊢); (try dsimp only [zaa, zab, zac, zad, zae, zaf, zag, zah, zai, zaj, zak, zal, zam, zan, zao, zap, zaq, zar, zas, zat, zau, zav, zaw, zax, zay, zaz, zba, zbb, zbc, zbd, zbe, zbf, zbg, zbh, zbi, zbj, zbk, zbl, zbm, zbn, zbo, zbp, zbq, zbr, zbs, zbt, zbu, zbv, zbw, zbx, zby, zbz, zca, zcb, zcc, zcd, zce, zcf, zcg, zch, zci, zcj, zck, zcl, zcm, zcn, zco, zcp, zcq, zcr, zcs, zct, zcu, zcv, zcw, zcx, zcy, zcz, zda, zdb, zdc, zdd, zde, zdf, zdg, zdh, zdi, zdj, zdk, zdl, zdm, zdn, zdo, zdp, zdq, zdr, zds, zdt, zdu, zdv, zdw, zdx, zdy, zdz, zea, zeb, zec, zed, zee, zef, zeg, zeh, zei, zej, zek, zel, zem, zen, zeo, zep, zeq, zer, zes, zet, zeu, zev, zew, zex, zey, zez, zfa, zfb, zfc, zfd, zfe, zff, zfg, zfh, zfi, zfj, zfk, zfl, zfm, zfn, zfo, zfp, zfq, zfr, zfs, zft, zfu, zfv, zfw, zfx, zfy, zfz, zga, zgb, zgc, Nat.reduceAdd] at hG ⊢))
    rw [← Bc]
    refine ⟨by lia, by lia, by decide, by decide, ?_⟩
    have hget : ∀ (W : List Int) (i : Nat), i < W.length → (pre ++ W ++ post).getD (pre.length + i) 0 = W.getD i 0 := by
      intro W i hi
      rw [List.getD_eq_getElem?_getD, List.getD_eq_getElem?_getD, List.append_assoc, List.getElem?_append_right (by lia), Nat.add_sub_cancel_left, List.getElem?_append_left hi]
    have hset : ∀ (W : List Int) (i : Nat) (v : Int), i < W.length → (pre ++ W ++ post).set (pre.length + i) v = pre ++ W.set i v ++ post := by
      intro W i v hi
      rw [List.append_assoc, List.set_append_right _ _ (by lia), Nat.add_sub_cancel_left, List.set_append_left _ _ hi, ← List.append_assoc]
    have hlen2 : pre.length + (win.length + post.length) ≤ 100000 := by simpa [Nat.add_assoc] using hlen
    generalize hBe : (2 ^ w : Nat) = B at *
    refine enL_inv (fun k σ => ∃ (W : List Int) (c : Int) (t u : Sl), Dg B W ∧ W.length = win.length ∧ 0 ≤ c ∧ c ≤ 1 ∧ W.getD b.length 0 = win.getD b.length 0 ∧ val B W + (B : Int) ^ k * c = val B win + val B (b.take k) ∧ σ = [.own (.ints (pre ++ W ++ post)), .val (.ints b), .val (.int (pre.length : Int)), .val (.int (w : Int)), .val (.int c), .val (.int ((B : Int) - 1)), t, u]) (fun _ _ => False) ⟨win, 0, _, _, dW, rfl, by lia, by lia, rfl, by simp [val], rfl⟩ ?_ ?_ (fun _ _ h => h.elim)
    · rintro k σ K hk ⟨W, c, t, u, dF, lF, c0, c1, htop, hv, rfl⟩ hK -
      have hda := dF.getD (by lia) k
      have hdb := dB.getD (by lia) k
      have hb := val_take_succ' (B : Int) b k
      have hat : ((pre.length : Int) + (k : Int)).toNat = pre.length + k := by lia
      ((try dsimp only [zaa, zab, zac, zad, zae, zaf, zag, zah, zai, zaj, zak, zal, zam, zan, zao, zap, zaq, zar, zas, zat, zau, zav, zaw, zax, zay, zaz, zba, zbb, zbc, zbd, zbe, zbf, zbg, zbh, zbi, zbj, zbk, zbl, zbm, zbn, zbo, zbp, zbq, zbr, zbs, zbt, zbu, zbv, zbw, zbx, zby, zbz, zca, zcb, zcc, zcd, zce, zcf, zcg, zch, zci, zcj, zck, zcl, zcm, zcn, zco, zcp, zcq, zcr, zcs, zct, zcu, zcv, zcw, zcx, zcy, zcz, zda, zdb, zdc, zdd, zde, zdf, zdg, zdh, zdi, zdj, zdk, zdl, zdm, zdn, zdo, zdp, zdq, zdr, zds, zdt, zdu, zdv, zdw, zdx, zdy, zdz, zea, zeb, zec, zed, zee, zef, zeg, zeh, zei, zej, zek, zel, zem, zen, zeo, zep, zeq, zer, zes, zet, zeu, zev, zew, zex, zey, zez, zfa, zfb, zfc, zfd, zfe, zff, zfg, zfh, zfi, zfj, zfk, zfl, zfm, zfn, zfo, zfp, zfq, zfr, zfs, zft, zfu, zfv, zfw, zfx, zfy, zfz, zga, zgb, zgc, Nat.reduceAdd]); (try simp only [zgd, zge, zgf, zgg, true_and, and_true, hat]); (try dsimp only [zaa, zab, zac, zad, zae, zaf, zag, zah, zai, zaj, zak, zal, zam, zan, zao, zap, zaq, zar, zas, zat, zau, zav, zaw, zax, zay, zaz, zba, zbb, zbc, zbd, zbe, zbf, zbg, zbh, zbi, zbj, zbk, zbl, zbm, zbn, zbo, zbp, zbq, zbr, zbs, zbt, zbu, zbv, zbw, zbx, zby, zbz, zca, zcb, zcc, zcd, zce, zcf, zcg, zch, zci, zcj, zck, zcl, zcm, zcn, zco, zcp, zcq, zcr, zcs, zct, zcu, zcv, zcw, zcx, zcy, zcz, zda, zdb, zdc, zdd, zde, zdf, zdg, zdh, zdi, zdj, zdk, zdl, zdm, zdn, zdo, zdp, zdq, zdr, zds, zdt, zdu, zdv, zdw, zdx, zdy, zdz, zea, zeb, zec, zed, zee, zef, zeg, zeh, zei, zej, zek, zel, zem, zen, zeo, zep, zeq, zer, zes, zet, zeu, zev, zew, zex, zey, zez, zfa, zfb, zfc, zfd, zfe, zff, zfg, zfh, zfi, zfj, zfk, zfl, zfm, zfn, zfo, zfp, zfq, zfr, zfs, zft, zfu, zfv, zfw, zfx, zfy, zfz, zga, zgb, zgc, Nat.reduceAdd]))
      rw [hget W k (by lia), hset W k _ (by lia), hmask, ← Bc, hBe, fd (by lia)]
      generalize hT : c + (W.getD k 0 + b.getD k 0) = T at *
      have q0 : 0 ≤ T / (B : Int) := Int.ediv_nonneg (by lia) (by lia)
      have q1 : T / (B : Int) < 2 := Int.ediv_lt_of_lt_mul (by lia) (by lia)
      have h1 := Int.emod_add_mul_ediv T B
      have hp : (B : Int) ^ (k + 1) = (B : Int) ^ k * B := Int.pow_succ _ _
      have hll : (pre ++ W ++ post).length = pre.length + (win.length + post.length) := by simp [lF, Nat.add_assoc]
      rw [hll]
      refine ⟨by lia, by lia, by lia, by lia, by lia, hK _ ⟨_, _, _, _, dF.set k (Int.emod_nonneg _ (by lia)) (Int.emod_lt_of_pos _ (by lia)), by simp [lF], q0, by lia, by rw [getD_set_ne _ _ _ _ (by lia)]; exact htop, ?_, rfl⟩⟩
      rw [val_set _ _ _ _ (by lia), hb, hp]
      grind
    · rintro σ' ⟨W, c, t, u, dF, lF, c0, c1, htop, hv, rfl⟩
      ((try dsimp only [zaa, zab, zac, zad, zae, zaf, zag, zah, zai, zaj, zak, zal, zam, zan, zao, zap, zaq, zar, zas, zat, zau, zav, zaw, zax, zay, zaz, zba, zbb, zbc, zbd, zbe, zbf, zbg, zbh, zbi, zbj, zbk, zbl, zbm, zbn, zbo, zbp, zbq, zbr, zbs, zbt, zbu, zbv, zbw, zbx, zby, zbz, zca, zcb, zcc, zcd, zce, zcf, zcg, zch, zci, zcj, zck, zcl, zcm, zcn, zco, zcp, zcq, zcr, zcs, zct, zcu, zcv, zcw, zcx, zcy, zcz, zda, zdb, zdc, zdd, zde, zdf, zdg, zdh, zdi, zdj, zdk, zdl, zdm, zdn, zdo, zdp, zdq, zdr, zds, zdt, zdu, zdv, zdw, zdx, zdy, zdz, zea, zeb, zec, zed, zee, zef, zeg, zeh, zei, zej, zek, zel, zem, zen, zeo, zep, zeq, zer, zes, zet, zeu, zev, zew, zex, zey, zez, zfa, zfb, zfc, zfd, zfe, zff, zfg, zfh, zfi, zfj, zfk, zfl, zfm, zfn, zfo, zfp, zfq, zfr, zfs, zft, zfu, zfv, zfw, zfx, zfy, zfz, zga, zgb, zgc, Nat.reduceAdd]); (try simp only [zgd, zge, zgf, zgg, true_and, and_true]))
      rw [show ((pre.length : Int) + (b.length : Int)).toNat = pre.length + b.length by lia, hget W b.length (by lia), hset W b.length _ (by lia), hmask]
      have hll : (pre ++ W ++ post).length = pre.length + (win.length + post.length) := by simp [lF, Nat.add_assoc]
      have hda := dF.getD (by lia) b.length
      rw [List.take_length] at hv
      have hp : (B : Int) ^ win.length = (B : Int) ^ b.length * B := by rw [lW]; exact Int.pow_succ _ _
      rw [hll]
      generalize hT : W.getD b.length 0 + c = T at *
      have q0 : 0 ≤ T / (B : Int) := Int.ediv_nonneg (by lia) (by lia)
      have q1 : T / (B : Int) < 2 := Int.ediv_lt_of_lt_mul (by lia) (by lia)
      have h1 := Int.emod_add_mul_ediv T B
      refine ⟨by lia, by lia, by lia, by lia, hG (W.set b.length (T % B)) (T / B).toNat (dF.set _ (Int.emod_nonneg _ (by lia)) (Int.emod_lt_of_pos _ (by lia))) (by simp [lF]) (by lia) ?_⟩
      rw [val_set _ _ _ _ (by lia), hp, Int.toNat_of_nonneg q0]
      grind
end Mine

open PySem PySem.Calls PyProof.Rows
set_option Elab.async false
set_option maxRecDepth 100000
set_option maxHeartbeats 4000000
namespace Mine
theorem law_spelled_w {prog : Program} {w : World} {h0 : Heap} {mg mb : Str → Option Value} {ads : Ads} (S : Stat h0 mg mb) (T : Tops h0 mg ads) : FnOkM prog w h0 1 (ads 45) (P_law_spelled ads) := by
  refine' fnOkM_of (d := 0) S T.law_spelled "letter" ["many"] [] ?hb ?hl ?hn rfl rfl rfl ?hc (fun A L cd O => ?hB) (P_law_spelled ads) ?hP
  case hb =>
    intro pm cd doc vs h
    exact vs2 (P := fun vs => bindArgs _ ⟨vs, []⟩ = pure (List.zip _ vs)) (by intros; rfl) h
  case hl => decide
  case hn => decide
  case hc => decide
  case hB =>
    exact (SSs.cons (SS.setitem O 0 "letter" (SE.bin add_ok (SE.item (SB.own O 0 "letter" _ rfl) (SE.int 0 _ _) _) (SE.int 1 _ _) _) (SE.int 0 _ _) _ _ _ rfl)
    (SSs.cons (SS.ite (STr.cmp O le_ok (SE.item (SB.own O 0 "letter" _ rfl) (SE.int 0 _ _) _) (SE.len O (SB.of (SE.item (SB.own O 0 "letter" _ rfl) (SE.int 1 _ _) _)) _ _ rfl S.len.1 S.len.2) _) (SSs.cons (SS.ret (SE.bin fmod_ok (SE.item (SB.of (SE.item (SB.own O 0 "letter" _ rfl) (SE.int 1 _ _) _)) (SE.bin sub_ok (SE.item (SB.own O 0 "letter" _ rfl) (SE.int 0 _ _) _) (SE.int 1 _ _) _) _) (SE.name O 1 "many" _ rfl) _) _)
    SSs.nil) SSs.nil _)
    (SSs.cons (SS.ret (SE.bin fmod_ok (SE.bin add_ok (SE.bin add_ok (SE.bin mul_ok (SE.int 9 _ _) (SE.item (SB.own O 0 "letter" _ rfl) (SE.int 0 _ _) _) _) (SE.bin fdiv_ok (SE.item (SB.own O 0 "letter" _ rfl) (SE.int 0 _ _) _) (SE.int 2 _ _) _) _) (SE.int 2 _ _) _) (SE.name O 1 "many" _ rfl) _) _)
    SSs.nil)))
  case hP =>
    intro p xs G h
    obtain ⟨L, k, many, ⟨hk, hm0, hm1, hL, hpos⟩, rfl, rfl, hG⟩ := h
    refine ⟨rfl, ?_⟩
    have e1 : Int.toNat 1 = 1 := rfl
    have e0 : Int.toNat 0 = 0 := rfl
    ((try dsimp only [zaa, zab, zac, zad, zae, zaf, zag, zah, zai, zaj, zak, zal, zam, zan, zao, zap, zaq, zar, zas, zat, zau, zav, zaw, zax, zay, zaz, zba, zbb, zbc, zbd, zbe, zbf, zbg, zbh, zbi, zbj, zbk, zbl, zbm, zbn, zbo, zbp, zbq, zbr, zbs, zbt, zbu, zbv, zbw, zbx, zby, zbz, zca, zcb, zcc, zcd, zce, zcf, zcg, zch, zci, zcj, zck, zcl, zcm, zcn, zco, zcp, zcq, zcr, zcs, zct, zcu, zcv, zcw, zcx, zcy, zcz, zda, zdb, zdc, zdd, zde, zdf, zdg, zdh, zdi, zdj, zdk, zdl, zdm, zdn, zdo, zdp, zdq, zdr, zds, zdt, zdu, zdv, zdw, zdx, zdy, zdz, zea, zeb, zec, zed, zee, zef, zeg, zeh, zei, zej, zek, zel, zem, zen, zeo, zep, zeq, zer, zes, zet, zeu, zev, zew, zex, zey, zez, zfa, zfb, zfc, zfd, zfe, zff, zfg, zfh, zfi, zfj, zfk, zfl, zfm, zfn, zfo, zfp, zfq, zfr, zfs, zft, zfu, zfv, zfw, zfx, zfy, zfz, zga, zgb, zgc, Nat.reduceAdd] at hG ⊢); (try simp only [zgd, zge, zgf, zgg, true_and, and_true, zdr, zeh, e1, e0, List.set_cons_zero] at hG ⊢); (try dsimp only [zaa, zab, zac, zad, zae, zaf, zag, zah, zai, zaj, zak, zal, zam, zan, zao, zap, zaq, zar, zas, zat, zau, zav, zaw, zax, zay, zaz, zba, zbb, zbc, zbd, zbe, zbf, zbg, zbh, zbi, zbj, zbk, zbl, zbm, zbn, zbo, zbp, zbq, zbr, zbs, zbt, zbu, zbv, zbw, zbx, zby, zbz, zca, zcb, zcc, zcd, zce, zcf, zcg, zch, zci, zcj, zck, zcl, zcm, zcn, zco, zcp, zcq, zcr, zcs, zct, zcu, zcv, zcw, zcx, zcy, zcz, zda, zdb, zdc, zdd, zde, zdf, zdg, zdh, zdi, zdj, zdk, zdl, zdm, zdn, zdo, zdp, zdq, zdr, zds, zdt, zdu, zdv, zdw, zdx, zdy, zdz, zea, zeb, zec, zed, zee, zef, zeg, zeh, zei, zej, zek, zel, zem, zen, zeo, zep, zeq, zer, zes, zet, zeu, zev, zew, zex, zey, zez, zfa, zfb, zfc, zfd, zfe, zff, zfg, zfh, zfi, zfj, zfk, zfl, zfm, zfn, zfo, zfp, zfq, zfr, zfs, zft, zfu, zfv, zfw, zfx, zfy, zfz, zga, zgb, zgc, Nat.reduceAdd] at hG ⊢))
    have ek : ((k : Int) + 1) = ((k + 1 : Nat) : Int) := rfl
    refine ⟨by decide, by decide, by decide, by decide, by decide, by decide, by decide, by decide, fun h => ⟨by decide, by decide, by decide, by decide, by lia, by lia, by lia, ?_⟩, fun h => ⟨by decide, by decide, by decide, by decide, by decide, by decide, by decide, by lia, ?_⟩⟩
    · rw [show ((k : Int) + 1 - 1).toNat = k by lia]
      unfold spl at hG
      rw [if_pos (by lia), Nat.add_sub_cancel] at hG
      have h0 : 0 ≤ L.getD k 0 := by
        rw [List.getD_eq_getElem?_getD, List.getElem?_eq_getElem (by lia)]
        exact hpos _ (List.getElem_mem _)
      obtain ⟨a, ha⟩ : ∃ a : Nat, L.getD k 0 = (a : Int) := ⟨_, (Int.toNat_of_nonneg h0).symm⟩
      rw [ha] at hG ⊢
      rw [fm (by lia), ← Int.natCast_emod]
      rw [Int.toNat_natCast] at hG
      exact hG
    · unfold spl at hG
      rw [if_neg (by lia)] at hG
      rw [fd (by lia), fm (by lia), ek, show (9 * ((k + 1 : Nat) : Int) + ((k + 1 : Nat) : Int) / 2 + 2) = ((9 * (k + 1) + (k + 1) / 2 + 2 : Nat) : Int) by lia, ← Int.natCast_emod]
      exact hG
end Mine

open PySem PySem.Calls PyProof.Rows
set_option Elab.async false
set_option maxRecDepth 100000
set_option maxHeartbeats 4000000
namespace Mine
theorem law_limbs_w {prog : Program} {w : World} {h0 : Heap} {mg mb : Str → Option Value} {ads : Ads} (S : Stat h0 mg mb) (T : Tops h0 mg ads) : FnOk prog w h0 1 (ads 46) (P_law_limbs ads) := by
  refine' fnOk_of (d := 0) S T.law_limbs ["number", "w"] ["found"] ?hb ?hl ?hn rfl rfl rfl ?hc (fun A L cd O => ?hB) (P_law_limbs ads) ?hP
  case hb =>
    intro pm cd doc vs h
    exact vs2 (P := fun vs => bindArgs _ ⟨vs, []⟩ = pure (List.zip _ vs)) (by intros; rfl) h
  case hl => decide
  case hn => decide
  case hc => decide
  case hB =>
    exact (SSs.cons (SS.assignO O 2 "found" (SO.listI SEs.nil _) _ _ rfl (.inl ⟨rfl, rfl⟩))
    (SSs.cons (SS.while O (STr.cmp O gt_ok (SE.name O 0 "number" _ rfl) (SE.int 0 _ _) _) (SSs.cons (SS.append O 2 "found" (SE.bin fmod_ok (SE.name O 0 "number" _ rfl) (SE.bin pow_ok (SE.int 2 _ _) (SE.name O 1 "w" _ rfl) _) _) _ _ _ _ rfl)
    (SSs.cons (SS.assign O 0 "number" (SE.bin fdiv_ok (SE.name O 0 "number" _ rfl) (SE.bin pow_ok (SE.int 2 _ _) (SE.name O 1 "w" _ rfl) _) _) _ _ rfl (.inl ⟨rfl, rfl⟩))
    SSs.nil)) _)
    (SSs.cons (SS.freeze 2 (SS.ret (SE.name O 2 "found" _ rfl) _))
    SSs.nil)))
  case hP =>
    intro xs G h
    obtain ⟨w, n, ⟨hw, hn⟩, rfl, hG⟩ := h
    refine ⟨rfl, ?_⟩
    have hB := B2 hw
    have h256 := B256 hw
    have h8 := hw.hi
    ((try dsimp only [zaa, zab, zac, zad, zae, zaf, zag, zah, zai, zaj, zak, zal, zam, zan, zao, zap, zaq, zar, zas, zat, zau, zav, zaw, zax, zay, zaz, zba, zbb, zbc, zbd, zbe, zbf, zbg, zbh, zbi, zbj, zbk, zbl, zbm, zbn, zbo, zbp, zbq, zbr, zbs, zbt, zbu, zbv, zbw, zbx, zby, zbz, zca, zcb, zcc, zcd, zce, zcf, zcg, zch, zci, zcj, zck, zcl, zcm, zcn, zco, zcp, zcq, zcr, zcs, zct, zcu, zcv, zcw, zcx, zcy, zcz, zda, zdb, zdc, zdd, zde, zdf, zdg, zdh, zdi, zdj, zdk, zdl, zdm, zdn, zdo, zdp, zdq, zdr, zds, zdt, zdu, zdv, zdw, zdx, zdy, zdz, zea, zeb, zec, zed, zee, zef, zeg, zeh, zei, zej, zek, zel, zem, zen, zeo, zep, zeq, zer, zes, zet, zeu, zev, zew, zex, zey, zez, zfa, zfb, zfc, zfd, zfe, zff, zfg, zfh, zfi, zfj, zfk, zfl, zfm, zfn, zfo, zfp, zfq, zfr, zfs, zft, zfu, zfv, zfw, zfx, zfy, zfz, zga, zgb, zgc, Nat.reduceAdd] at hG ⊢); (try simp only [zgd, zge, zgf, zgg, true_and, and_true] at hG ⊢))
    refine whN_inv (fun k σ => ∃ (F : List Int), F.length + (limbs (2 ^ w) k).length = (limbs (2 ^ w) n).length ∧ F ++ limbs (2 ^ w) k = limbs (2 ^ w) n ∧ σ = [.val (.int (k : Int)), .val (.int (w : Int)), .own (.ints F)]) (fun _ _ => False) n _ ⟨[], by simp, by simp, rfl⟩ ?_ (fun _ _ h => h.elim)
    rintro k σ K ⟨F, lF, hF, rfl⟩ hK -
    have ll := limbs_len hB hn
    ((try dsimp only [zaa, zab, zac, zad, zae, zaf, zag, zah, zai, zaj, zak, zal, zam, zan, zao, zap, zaq, zar, zas, zat, zau, zav, zaw, zax, zay, zaz, zba, zbb, zbc, zbd, zbe, zbf, zbg, zbh, zbi, zbj, zbk, zbl, zbm, zbn, zbo, zbp, zbq, zbr, zbs, zbt, zbu, zbv, zbw, zbx, zby, zbz, zca, zcb, zcc, zcd, zce, zcf, zcg, zch, zci, zcj, zck, zcl, zcm, zcn, zco, zcp, zcq, zcr, zcs, zct, zcu, zcv, zcw, zcx, zcy, zcz, zda, zdb, zdc, zdd, zde, zdf, zdg, zdh, zdi, zdj, zdk, zdl, zdm, zdn, zdo, zdp, zdq, zdr, zds, zdt, zdu, zdv, zdw, zdx, zdy, zdz, zea, zeb, zec, zed, zee, zef, zeg, zeh, zei, zej, zek, zel, zem, zen, zeo, zep, zeq, zer, zes, zet, zeu, zev, zew, zex, zey, zez, zfa, zfb, zfc, zfd, zfe, zff, zfg, zfh, zfi, zfj, zfk, zfl, zfm, zfn, zfo, zfp, zfq, zfr, zfs, zft, zfu, zfv, zfw, zfx, zfy, zfz, zga, zgb, zgc, Nat.reduceAdd]); (try simp only [zgd, zge, zgf, zgg, true_and, and_true]))
    refine ⟨fun h => ?_, fun h => ?_⟩
    · have hk : 0 < k := by lia
      have hp := limbs_pos hB hk
      rw [← Bc, fm (by lia), fd (by lia), ← Int.natCast_emod, ← Int.natCast_ediv]
      refine ⟨by lia, by lia, by decide, by lia, by lia, by lia, by lia, by decide, by lia, by lia, hK (k / 2 ^ w) _ (Nat.div_lt_self hk (by lia)) ⟨_, ?_, ?_, rfl⟩⟩
      · rw [← lF, hp]; simp; lia
      · rw [List.append_assoc, ← hF, hp]; rfl
    · have hk : k = 0 := by lia
      rw [hk, limbs_zero, List.append_nil] at hF
      rw [hF]; exact hG
end Mine

open PySem PySem.Calls PyProof.Rows
set_option Elab.async false
set_option maxRecDepth 100000
set_option maxHeartbeats 4000000
namespace Mine
theorem sub_w {prog : Program} {w : World} {h0 : Heap} {mg mb : Str → Option Value} {ads : Ads} (S : Stat h0 mg mb) (T : Tops h0 mg ads) : FnOk prog w h0 2 (ads 7) (P_sub ads) := by
  refine' fnOk_of (d := 1) S T.sub ["a", "b", "w"] ["found", "borrow", "base", "at", "limb"] ?hb ?hl ?hn rfl rfl rfl ?hc (fun A L cd O => ?hB) (P_sub ads) ?hP
  case hb =>
    intro pm cd doc vs h
    exact vs3 (P := fun vs => bindArgs _ ⟨vs, []⟩ = pure (List.zip _ vs)) (by intros; rfl) h
  case hl => decide
  case hn => decide
  case hc => decide
  case hB =>
    exact (SSs.cons (SS.guard (STr.cmp O lt_ok (SE.call O ((compare_w S T).mono (by decide)) "compare" (SEs.cons (SE.name O 0 "a" _ rfl) (SEs.cons (SE.name O 1 "b" _ rfl) SEs.nil)) _ _ rfl T.compare.gname) (SE.int 0 _ _) _) _)
    (SSs.cons (SS.assignTS O [(3, "found", ⟨0, 0, 0, 0⟩), (4, "borrow", ⟨0, 0, 0, 0⟩), (5, "base", ⟨0, 0, 0, 0⟩)] (SR.own (SO.listI SEs.nil _) (SR.val (SE.int 0 _ _) (SR.val (SE.bin shl_ok (SE.int 1 _ _) (SE.name O 2 "w" _ rfl) _) SR.nil))) _ _ _ _ _ (all3 ⟨rfl, (.inl ⟨rfl, rfl⟩)⟩ ⟨rfl, (.inl ⟨rfl, rfl⟩)⟩ ⟨rfl, (.inl ⟨rfl, rfl⟩)⟩))
    (SSs.cons (SS.forR1 O 6 "at" (SE.len O (SB.of (SE.name O 0 "a" _ rfl)) _ _ rfl S.len.1 S.len.2) (SSs.cons (SS.assign O 7 "limb" (SE.bin sub_ok (SE.bin sub_ok (SE.item (SB.of (SE.name O 0 "a" _ rfl)) (SE.name O 6 "at" _ rfl) _) (SE.name O 4 "borrow" _ rfl) _) (SE.ifexp (STr.cmp O lt_ok (SE.name O 6 "at" _ rfl) (SE.len O (SB.of (SE.name O 1 "b" _ rfl)) _ _ rfl S.len.1 S.len.2) _) (SE.item (SB.of (SE.name O 1 "b" _ rfl)) (SE.name O 6 "at" _ rfl) _) (SE.int 0 _ _) _) _) _ _ rfl (.inl ⟨rfl, rfl⟩))
    (SSs.cons (SS.assign O 4 "borrow" (SE.ifexp (STr.cmp O lt_ok (SE.name O 7 "limb" _ rfl) (SE.int 0 _ _) _) (SE.int 1 _ _) (SE.int 0 _ _) _) _ _ rfl (.inl ⟨rfl, rfl⟩))
    (SSs.cons (SS.append O 3 "found" (SE.ifexp (STr.cmp O lt_ok (SE.name O 7 "limb" _ rfl) (SE.int 0 _ _) _) (SE.bin add_ok (SE.name O 7 "limb" _ rfl) (SE.name O 5 "base" _ rfl) _) (SE.name O 7 "limb" _ rfl) _) _ _ _ _ rfl)
    SSs.nil))) _ _ _ _ rfl (.inl ⟨rfl, rfl⟩) rfl S.range.1 S.range.2)
    (SSs.cons (SS.freeze 3 (SS.ret (SE.call O ((normal_w S T).mono (by decide)) "normal" (SEs.cons (SE.name O 3 "found" _ rfl) SEs.nil) _ _ rfl T.normal.gname) _))
    SSs.nil))))
  case hP =>
    intro xs G h
    obtain ⟨w, m, n, ⟨hw, hm, hn⟩, rfl, hG⟩ := h
    refine ⟨rfl, ?_⟩
    have hB := B2 hw
    have h256 := B256 hw
    have la := limbs_len hB hm
    have da := limbs_dg hB m
    have va := limbs_val hB m
    have db := limbs_dg hB n
    have vb := limbs_val hB n
    ((try dsimp only [zaa, zab, zac, zad, zae, zaf, zag, zah, zai, zaj, zak, zal, zam, zan, zao, zap, zaq, zar, zas, zat, zau, zav, zaw, zax, zay, zaz, zba, zbb, zbc, zbd, zbe, zbf, zbg, zbh, zbi, zbj, zbk, zbl, zbm, zbn, zbo, zbp, zbq, zbr, zbs, zbt, zbu, zbv, zbw, zbx, zby, zbz, zca, zcb, zcc, zcd, zce, zcf, zcg, zch, zci, zcj, zck, zcl, zcm, zcn, zco, zcp, zcq, zcr, zcs, zct, zcu, zcv, zcw, zcx, zcy, zcz, zda, zdb, zdc, zdd, zde, zdf, zdg, zdh, zdi, zdj, zdk, zdl, zdm, zdn, zdo, zdp, zdq, zdr, zds, zdt, zdu, zdv, zdw, zdx, zdy, zdz, zea, zeb, zec, zed, zee, zef, zeg, zeh, zei, zej, zek, zel, zem, zen, zeo, zep, zeq, zer, zes, zet, zeu, zev, zew, zex, zey, zez, zfa, zfb, zfc, zfd, zfe, zff, zfg, zfh, zfi, zfj, zfk, zfl, zfm, zfn, zfo, zfp, zfq, zfr, zfs, zft, zfu, zfv, zfw, zfx, zfy, zfz, zga, zgb, zgc, Nat.reduceAdd] at hG ⊢); (try simp only [zgd, zge, zgf, zgg, true_and, and_true] at hG ⊢))
    refine ⟨w, m, n, ⟨hw, hm, by lia⟩, rfl, ?_⟩
    have hll : (limbs (2 ^ w) n).length ≤ (limbs (2 ^ w) m).length := by
      rcases Nat.lt_or_ge (limbs (2 ^ w) m).length (limbs (2 ^ w) n).length with h | h
      · have := limbs_len_lt hB h; lia
      · exact h
    generalize limbs (2 ^ w) m = A at *
    generalize limbs (2 ^ w) n = C at *
    ((try dsimp only [zaa, zab, zac, zad, zae, zaf, zag, zah, zai, zaj, zak, zal, zam, zan, zao, zap, zaq, zar, zas, zat, zau, zav, zaw, zax, zay, zaz, zba, zbb, zbc, zbd, zbe, zbf, zbg, zbh, zbi, zbj, zbk, zbl, zbm, zbn, zbo, zbp, zbq, zbr, zbs, zbt, zbu, zbv, zbw, zbx, zby, zbz, zca, zcb, zcc, zcd, zce, zcf, zcg, zch, zci, zcj, zck, zcl, zcm, zcn, zco, zcp, zcq, zcr, zcs, zct, zcu, zcv, zcw, zcx, zcy, zcz, zda, zdb, zdc, zdd, zde, zdf, zdg, zdh, zdi, zdj, zdk, zdl, zdm, zdn, zdo, zdp, zdq, zdr, zds, zdt, zdu, zdv, zdw, zdx, zdy, zdz, zea, zeb, zec, zed, zee, zef, zeg, zeh, zei, zej, zek, zel, zem, zen, zeo, zep, zeq, zer, zes, zet, zeu, zev, zew, zex, zey, zez, zfa, zfb, zfc, zfd, zfe, zff, zfg, zfh, zfi, zfj, zfk, zfl, zfm, zfn, zfo, zfp, zfq, zfr, zfs, zft, zfu, zfv, zfw, zfx, zfy, zfz, zga, zgb, zgc, Nat.reduceAdd]); (try simp only [zgd, zge, zgf, zgg, true_and, and_true, Int.one_mul]); (try dsimp only [zaa, zab, zac, zad, zae, zaf, zag, zah, zai, zaj, zak, zal, zam, zan, zao, zap, zaq, zar, zas, zat, zau, zav, zaw, zax, zay, zaz, zba, zbb, zbc, zbd, zbe, zbf, zbg, zbh, zbi, zbj, zbk, zbl, zbm, zbn, zbo, zbp, zbq, zbr, zbs, zbt, zbu, zbv, zbw, zbx, zby, zbz, zca, zcb, zcc, zcd, zce, zcf, zcg, zch, zci, zcj, zck, zcl, zcm, zcn, zco, zcp, zcq, zcr, zcs, zct, zcu, zcv, zcw, zcx, zcy, zcz, zda, zdb, zdc, zdd, zde, zdf, zdg, zdh, zdi, zdj, zdk, zdl, zdm, zdn, zdo, zdp, zdq, zdr, zds, zdt, zdu, zdv, zdw, zdx, zdy, zdz, zea, zeb, zec, zed, zee, zef, zeg, zeh, zei, zej, zek, zel, zem, zen, zeo, zep, zeq, zer, zes, zet, zeu, zev, zew, zex, zey, zez, zfa, zfb, zfc, zfd, zfe, zff, zfg, zfh, zfi, zfj, zfk, zfl, zfm, zfn, zfo, zfp, zfq, zfr, zfs, zft, zfu, zfv, zfw, zfx, zfy, zfz, zga, zgb, zgc, Nat.reduceAdd]))
    refine ⟨by simp [Int.sign_neg_iff]; lia, by lia, by have := hw.hi; lia, by decide, by decide, by decide, by lia, by lia, ?_⟩
    rw [← Bc]
    generalize hBe : (2 ^ w : Nat) = B at *
    refine forR_inv (fun k σ => ∃ (F : List Int) (c : Int) (t u : Sl), Dg B F ∧ F.length = k ∧ 0 ≤ c ∧ c ≤ 1 ∧ val B F = val B (A.take k) - val B (C.take k) + (B : Int) ^ k * c ∧ σ = [.val (.ints A), .val (.ints C), .val (.int (w : Int)), .own (.ints F), .val (.int c), .val (.int (B : Int)), t, u]) (fun _ _ => False) ⟨[], 0, _, _, Dg.nil, rfl, by lia, by lia, by simp [val], rfl⟩ ?_ ?_ (fun _ _ h => h.elim)
    · rintro k σ K hk ⟨F, c, t, u, dF, lF, c0, c1, hv, rfl⟩ hK -
      ((try dsimp only [zaa, zab, zac, zad, zae, zaf, zag, zah, zai, zaj, zak, zal, zam, zan, zao, zap, zaq, zar, zas, zat, zau, zav, zaw, zax, zay, zaz, zba, zbb, zbc, zbd, zbe, zbf, zbg, zbh, zbi, zbj, zbk, zbl, zbm, zbn, zbo, zbp, zbq, zbr, zbs, zbt, zbu, zbv, zbw, zbx, zby, zbz, zca, zcb, zcc, zcd, zce, zcf, zcg, zch, zci, zcj, zck, zcl, zcm, zcn, zco, zcp, zcq, zcr, zcs, zct, zcu, zcv, zcw, zcx, zcy, zcz, zda, zdb, zdc, zdd, zde, zdf, zdg, zdh, zdi, zdj, zdk, zdl, zdm, zdn, zdo, zdp, zdq, zdr, zds, zdt, zdu, zdv, zdw, zdx, zdy, zdz, zea, zeb, zec, zed, zee, zef, zeg, zeh, zei, zej, zek, zel, zem, zen, zeo, zep, zeq, zer, zes, zet, zeu, zev, zew, zex, zey, zez, zfa, zfb, zfc, zfd, zfe, zff, zfg, zfh, zfi, zfj, zfk, zfl, zfm, zfn, zfo, zfp, zfq, zfr, zfs, zft, zfu, zfv, zfw, zfx, zfy, zfz, zga, zgb, zgc, Nat.reduceAdd]); (try simp only [zgd, zge, zgf, zgg, true_and, and_true]))
      have hda := da.getD (by lia) k
      have hdb := db.getD (by lia) k
      have ha := val_take_succ' (B : Int) A k
      have hb := val_take_succ' (B : Int) C k
      have hp : (B : Int) ^ (k + 1) = (B : Int) ^ k * B := Int.pow_succ _ _
      have key : ∀ y : Int, y = C.getD k 0 → (A.getD k 0 - c - y < 0 → K .next [.val (.ints A), .val (.ints C), .val (.int (w : Int)), .own (.ints (F ++ [A.getD k 0 - c - y + B])), .val (.int 1), .val (.int (B : Int)), .val (.int (k : Int)), .val (.int (A.getD k 0 - c - y))]) ∧ (¬ A.getD k 0 - c - y < 0 → K .next [.val (.ints A), .val (.ints C), .val (.int (w : Int)), .own (.ints (F ++ [A.getD k 0 - c - y])), .val (.int 0), .val (.int (B : Int)), .val (.int (k : Int)), .val (.int (A.getD k 0 - c - y))]) := by
        rintro y rfl
        refine ⟨fun h => hK _ ⟨_, _, _, _, dF.append (Dg.one (by lia) (by lia)), by simp [lF], by lia, by lia, ?_, rfl⟩, fun h => hK _ ⟨_, _, _, _, dF.append (Dg.one (by lia) (by lia)), by simp [lF], by lia, by lia, ?_, rfl⟩⟩
        · rw [val_snoc, lF, ha, hb, hp]; grind
        · rw [val_snoc, lF, ha, hb, hp]; grind
      refine ⟨by lia, by lia, fun _ => ⟨by lia, by lia, fun h => ⟨fun _ => ⟨by lia, (key _ rfl).1 h⟩, fun h' => absurd h h'⟩, fun h => ⟨fun h' => absurd h' h, fun _ => ⟨by lia, (key _ rfl).2 h⟩⟩⟩, fun hc => ?_⟩
      have hz : (0 : Int) = C.getD k 0 := by rw [List.getD_eq_getElem?_getD, List.getElem?_eq_none (by lia)]; rfl
      exact ⟨fun h => ⟨fun _ => ⟨by lia, (key 0 hz).1 h⟩, fun h' => absurd h h'⟩, fun h => ⟨fun h' => absurd h' h, fun _ => ⟨by lia, (key 0 hz).2 h⟩⟩⟩
    · rintro σ' ⟨F, c, t, u, dF, lF, c0, c1, hv, rfl⟩
      ((try dsimp only [zaa, zab, zac, zad, zae, zaf, zag, zah, zai, zaj, zak, zal, zam, zan, zao, zap, zaq, zar, zas, zat, zau, zav, zaw, zax, zay, zaz, zba, zbb, zbc, zbd, zbe, zbf, zbg, zbh, zbi, zbj, zbk, zbl, zbm, zbn, zbo, zbp, zbq, zbr, zbs, zbt, zbu, zbv, zbw, zbx, zby, zbz, zca, zcb, zcc, zcd, zce, zcf, zcg, zch, zci, zcj, zck, zcl, zcm, zcn, zco, zcp, zcq, zcr, zcs, zct, zcu, zcv, zcw, zcx, zcy, zcz, zda, zdb, zdc, zdd, zde, zdf, zdg, zdh, zdi, zdj, zdk, zdl, zdm, zdn, zdo, zdp, zdq, zdr, zds, zdt, zdu, zdv, zdw, zdx, zdy, zdz, zea, zeb, zec, zed, zee, zef, zeg, zeh, zei, zej, zek, zel, zem, zen, zeo, zep, zeq, zer, zes, zet, zeu, zev, zew, zex, zey, zez, zfa, zfb, zfc, zfd, zfe, zff, zfg, zfh, zfi, zfj, zfk, zfl, zfm, zfn, zfo, zfp, zfq, zfr, zfs, zft, zfu, zfv, zfw, zfx, zfy, zfz, zga, zgb, zgc, Nat.reduceAdd]); (try simp only [zgd, zge, zgf, zgg, true_and, and_true]))
      rw [List.take_of_length_le (by lia), List.take_of_length_le hll, va, vb] at hv
      have h1 := val_lt dF
      rw [lF] at h1
      have hc : c = 0 := by
        rcases (show c = 0 ∨ c = 1 by lia) with h | h
        · exact h
        · rw [h] at hv; lia
      rw [hc] at hv
      refine ⟨w, F, ⟨hw, by rw [hBe]; exact dF, by lia⟩, rfl, ?_⟩
      rw [hBe, hv, show ((m : Int) - n + (B : Int) ^ A.length * 0).toNat = m - n by lia]
      ((try dsimp only [zaa, zab, zac, zad, zae, zaf, zag, zah, zai, zaj, zak, zal, zam, zan, zao, zap, zaq, zar, zas, zat, zau, zav, zaw, zax, zay, zaz, zba, zbb, zbc, zbd, zbe, zbf, zbg, zbh, zbi, zbj, zbk, zbl, zbm, zbn, zbo, zbp, zbq, zbr, zbs, zbt, zbu, zbv, zbw, zbx, zby, zbz, zca, zcb, zcc, zcd, zce, zcf, zcg, zch, zci, zcj, zck, zcl, zcm, zcn, zco, zcp, zcq, zcr, zcs, zct, zcu, zcv, zcw, zcx, zcy, zcz, zda, zdb, zdc, zdd, zde, zdf, zdg, zdh, zdi, zdj, zdk, zdl, zdm, zdn, zdo, zdp, zdq, zdr, zds, zdt, zdu, zdv, zdw, zdx, zdy, zdz, zea, zeb, zec, zed, zee, zef, zeg, zeh, zei, zej, zek, zel, zem, zen, zeo, zep, zeq, zer, zes, zet, zeu, zev, zew, zex, zey, zez, zfa, zfb, zfc, zfd, zfe, zff, zfg, zfh, zfi, zfj, zfk, zfl, zfm, zfn, zfo, zfp, zfq, zfr, zfs, zft, zfu, zfv, zfw, zfx, zfy, zfz, zga, zgb, zgc, Nat.reduceAdd]); (try simp only [zgd, zge, zgf, zgg, true_and, and_true]))
      rw [hBe]
      exact hG
end Mine

open PySem PySem.Calls PyProof.Rows
set_option Elab.async false
set_option maxRecDepth 100000
set_option maxHeartbeats 4000000
namespace Mine
theorem divrem_limb_w {prog : Program} {w : World} {h0 : Heap} {mg mb : Str → Option Value} {ads : Ads} (S : Stat h0 mg mb) (T : Tops h0 mg ads) : FnOk prog w h0 2 (ads 9) (P_divrem_limb ads) := by
  refine' fnOk_of (d := 1) S T.divrem_limb ["a", "limb", "w"] ["found", "rest", "at"] ?hb ?hl ?hn rfl rfl rfl ?hc (fun A L cd O => ?hB) (P_divrem_limb ads) ?hP
  case hb =>
    intro pm cd doc vs h
    exact vs3 (P := fun vs => bindArgs _ ⟨vs, []⟩ = pure (List.zip _ vs)) (by intros; rfl) h
  case hl => decide
  case hn => decide
  case hc => decide
  case hB =>
    exact (SSs.cons (SS.guard (STr.cmp O eq_ok (SE.name O 1 "limb" _ rfl) (SE.int 0 _ _) _) _)
    (SSs.cons (SS.assignTS O [(3, "found", ⟨0, 0, 0, 0⟩), (4, "rest", ⟨0, 0, 0, 0⟩)] (SR.own (SO.mul (SE.listI (SEs.cons (SE.int 0 _ _) SEs.nil) _) (SE.len O (SB.of (SE.name O 0 "a" _ rfl)) _ _ rfl S.len.1 S.len.2) _) (SR.val (SE.int 0 _ _) SR.nil)) _ _ _ _ _ (all2 ⟨rfl, (.inl ⟨rfl, rfl⟩)⟩ ⟨rfl, (.inl ⟨rfl, rfl⟩)⟩))
    (SSs.cons (SS.forRD O 5 "at" (SE.bin sub_ok (SE.len O (SB.of (SE.name O 0 "a" _ rfl)) _ _ rfl S.len.1 S.len.2) (SE.int 1 _ _) _) (SSs.cons (SS.assign O 4 "rest" (SE.bin or_ok (SE.bin shl_ok (SE.name O 4 "rest" _ rfl) (SE.name O 2 "w" _ rfl) _) (SE.item (SB.of (SE.name O 0 "a" _ rfl)) (SE.name O 5 "at" _ rfl) _) _) _ _ rfl (.inl ⟨rfl, rfl⟩))
    (SSs.cons (SS.setitem O 3 "found" (SE.bin fdiv_ok (SE.name O 4 "rest" _ rfl) (SE.name O 1 "limb" _ rfl) _) (SE.name O 5 "at" _ rfl) _ _ _ rfl)
    (SSs.cons (SS.aug O imod_ok 4 "rest" (SE.name O 1 "limb" _ rfl) _ _ rfl (.inl ⟨rfl, rfl⟩))
    SSs.nil))) _ _ _ _ _ _ _ _ _ _ rfl (.inl ⟨rfl, rfl⟩) rfl S.range.1 S.range.2)
    (SSs.cons (SS.freeze 3 (SS.ret (SE.tuple (SEs.cons (SE.call O ((normal_w S T).mono (by decide)) "normal" (SEs.cons (SE.name O 3 "found" _ rfl) SEs.nil) _ _ rfl T.normal.gname) (SEs.cons (SE.name O 4 "rest" _ rfl) SEs.nil)) _ _) _))
    SSs.nil))))
  case hP =>
    intro xs G h
    obtain ⟨w, m, l, ⟨hw, hm, hl0, hl1⟩, rfl, hG⟩ := h
    refine ⟨rfl, ?_⟩
    have hB := B2 hw
    have h256 := B256 hw
    have h8 := hw.hi
    have la := limbs_len hB hm
    have da := limbs_dg hB m
    have va := limbs_val hB m
    ((try dsimp only [zaa, zab, zac, zad, zae, zaf, zag, zah, zai, zaj, zak, zal, zam, zan, zao, zap, zaq, zar, zas, zat, zau, zav, zaw, zax, zay, zaz, zba, zbb, zbc, zbd, zbe, zbf, zbg, zbh, zbi, zbj, zbk, zbl, zbm, zbn, zbo, zbp, zbq, zbr, zbs, zbt, zbu, zbv, zbw, zbx, zby, zbz, zca, zcb, zcc, zcd, zce, zcf, zcg, zch, zci, zcj, zck, zcl, zcm, zcn, zco, zcp, zcq, zcr, zcs, zct, zcu, zcv, zcw, zcx, zcy, zcz, zda, zdb, zdc, zdd, zde, zdf, zdg, zdh, zdi, zdj, zdk, zdl, zdm, zdn, zdo, zdp, zdq, zdr, zds, zdt, zdu, zdv, zdw, zdx, zdy, zdz, zea, zeb, zec, zed, zee, zef, zeg, zeh, zei, zej, zek, zel, zem, zen, zeo, zep, zeq, zer, zes, zet, zeu, zev, zew, zex, zey, zez, zfa, zfb, zfc, zfd, zfe, zff, zfg, zfh, zfi, zfj, zfk, zfl, zfm, zfn, zfo, zfp, zfq, zfr, zfs, zft, zfu, zfv, zfw, zfx, zfy, zfz, zga, zgb, zgc, Nat.reduceAdd] at hG ⊢); (try simp only [zgd, zge, zgf, zgg, true_and, and_true] at hG ⊢))
    generalize limbs (2 ^ w) m = A at *
    refine ⟨by simp; lia, by lia, by lia, by lia, by decide, by decide, by lia, by lia, ?_⟩
    rw [flat1]
    generalize hBe : (2 ^ w : Nat) = B at *
    refine forR_inv (fun k σ => ∃ (F : List Int) (r : Int) (t : Sl), Dg B F ∧ F.length = A.length ∧ 0 ≤ r ∧ r < l ∧ val B (F.drop (A.length - k)) * l + r = val B (A.drop (A.length - k)) ∧ σ = [.val (.ints A), .val (.int (l : Int)), .val (.int (w : Int)), .own (.ints F), .val (.int r), t]) (fun _ _ => False) ⟨List.replicate A.length 0, 0, _, Dg.rep (by lia) _, by simp, by lia, by lia, ?_, rfl⟩ ?_ ?_ (fun _ _ h => h.elim)
    · rw [Nat.sub_zero, List.drop_length, List.drop_of_length_le (by simp)]; simp [val]
    · rintro k σ K hk ⟨F, r, t, dF, lF, r0, r1, hv, rfl⟩ hK -
      obtain ⟨i, hi⟩ : ∃ i, A.length = i + 1 + k := ⟨A.length - 1 - k, by lia⟩
      have hat : ((A.length : Int) - 1 - (k : Int)).toNat = i := by rw [hi]; lia
      have hda := da.getD (by lia) i
      have hr := or_low (x := r) (y := A.getD i 0) (k := w) r0 hda.1 (by rw [← Bc, hBe]; exact hda.2)
      have hr0 : (0 : Int) ≤ r * B + A.getD i 0 := by have := Int.mul_nonneg r0 (show (0 : Int) ≤ B by lia); lia
      have hr1 : r * B + A.getD i 0 < l * (B : Int) := by
        have : (r + 1) * (B : Int) ≤ l * B := Int.mul_le_mul_of_nonneg_right (by lia) (by lia)
        rw [Int.add_mul] at this; lia
      ((try dsimp only [zaa, zab, zac, zad, zae, zaf, zag, zah, zai, zaj, zak, zal, zam, zan, zao, zap, zaq, zar, zas, zat, zau, zav, zaw, zax, zay, zaz, zba, zbb, zbc, zbd, zbe, zbf, zbg, zbh, zbi, zbj, zbk, zbl, zbm, zbn, zbo, zbp, zbq, zbr, zbs, zbt, zbu, zbv, zbw, zbx, zby, zbz, zca, zcb, zcc, zcd, zce, zcf, zcg, zch, zci, zcj, zck, zcl, zcm, zcn, zco, zcp, zcq, zcr, zcs, zct, zcu, zcv, zcw, zcx, zcy, zcz, zda, zdb, zdc, zdd, zde, zdf, zdg, zdh, zdi, zdj, zdk, zdl, zdm, zdn, zdo, zdp, zdq, zdr, zds, zdt, zdu, zdv, zdw, zdx, zdy, zdz, zea, zeb, zec, zed, zee, zef, zeg, zeh, zei, zej, zek, zel, zem, zen, zeo, zep, zeq, zer, zes, zet, zeu, zev, zew, zex, zey, zez, zfa, zfb, zfc, zfd, zfe, zff, zfg, zfh, zfi, zfj, zfk, zfl, zfm, zfn, zfo, zfp, zfq, zfr, zfs, zft, zfu, zfv, zfw, zfx, zfy, zfz, zga, zgb, zgc, Nat.reduceAdd]); (try simp only [zgd, zge, zgf, zgg, true_and, and_true, hat, hr]); (try dsimp only [zaa, zab, zac, zad, zae, zaf, zag, zah, zai, zaj, zak, zal, zam, zan, zao, zap, zaq, zar, zas, zat, zau, zav, zaw, zax, zay, zaz, zba, zbb, zbc, zbd, zbe, zbf, zbg, zbh, zbi, zbj, zbk, zbl, zbm, zbn, zbo, zbp, zbq, zbr, zbs, zbt, zbu, zbv, zbw, zbx, zby, zbz, zca, zcb, zcc, zcd, zce, zcf, zcg, zch, zci, zcj, zck, zcl, zcm, zcn, zco, zcp, zcq, zcr, zcs, zct, zcu, zcv, zcw, zcx, zcy, zcz, zda, zdb, zdc, zdd, zde, zdf, zdg, zdh, zdi, zdj, zdk, zdl, zdm, zdn, zdo, zdp, zdq, zdr, zds, zdt, zdu, zdv, zdw, zdx, zdy, zdz, zea, zeb, zec, zed, zee, zef, zeg, zeh, zei, zej, zek, zel, zem, zen, zeo, zep, zeq, zer, zes, zet, zeu, zev, zew, zex, zey, zez, zfa, zfb, zfc, zfd, zfe, zff, zfg, zfh, zfi, zfj, zfk, zfl, zfm, zfn, zfo, zfp, zfq, zfr, zfs, zft, zfu, zfv, zfw, zfx, zfy, zfz, zga, zgb, zgc, Nat.reduceAdd]))
      rw [← Bc, hBe]
      generalize hT : r * (B : Int) + A.getD i 0 = T at *
      rw [fd (by lia), fm (by lia)]
      have q0 : 0 ≤ T / (l : Int) := Int.ediv_nonneg hr0 (by lia)
      have q1 : T / (l : Int) < B := Int.ediv_lt_of_lt_mul (by lia) (by rw [Int.mul_comm]; exact hr1)
      refine ⟨by lia, by lia, by lia, by lia, by lia, by lia, by lia, by lia, by lia, by lia, hK _ ⟨_, _, _, dF.set _ q0 q1, by simp [lF], Int.emod_nonneg _ (by lia), Int.emod_lt_of_pos _ (by lia), ?_, rfl⟩⟩
      have e1 := val_drop (B : Int) A i
      have e2 := val_drop (B : Int) (F.set i (T / l)) i
      have e3 : (F.set i (T / l)).drop (i + 1) = F.drop (i + 1) := List.drop_set_of_lt (by lia)
      rw [getD_set_eq _ _ _ (by lia), e3] at e2
      rw [show A.length - (k + 1) = i by lia, e1, e2, show i + 1 = A.length - k by lia, ← hv]
      have := Int.emod_add_mul_ediv T l
      grind
    · rintro σ' ⟨F, r, t, dF, lF, r0, r1, hv, rfl⟩
      ((try dsimp only [zaa, zab, zac, zad, zae, zaf, zag, zah, zai, zaj, zak, zal, zam, zan, zao, zap, zaq, zar, zas, zat, zau, zav, zaw, zax, zay, zaz, zba, zbb, zbc, zbd, zbe, zbf, zbg, zbh, zbi, zbj, zbk, zbl, zbm, zbn, zbo, zbp, zbq, zbr, zbs, zbt, zbu, zbv, zbw, zbx, zby, zbz, zca, zcb, zcc, zcd, zce, zcf, zcg, zch, zci, zcj, zck, zcl, zcm, zcn, zco, zcp, zcq, zcr, zcs, zct, zcu, zcv, zcw, zcx, zcy, zcz, zda, zdb, zdc, zdd, zde, zdf, zdg, zdh, zdi, zdj, zdk, zdl, zdm, zdn, zdo, zdp, zdq, zdr, zds, zdt, zdu, zdv, zdw, zdx, zdy, zdz, zea, zeb, zec, zed, zee, zef, zeg, zeh, zei, zej, zek, zel, zem, zen, zeo, zep, zeq, zer, zes, zet, zeu, zev, zew, zex, zey, zez, zfa, zfb, zfc, zfd, zfe, zff, zfg, zfh, zfi, zfj, zfk, zfl, zfm, zfn, zfo, zfp, zfq, zfr, zfs, zft, zfu, zfv, zfw, zfx, zfy, zfz, zga, zgb, zgc, Nat.reduceAdd]); (try simp only [zgd, zge, zgf, zgg, true_and, and_true]))
      rw [show A.length - ((A.length : Int) - 1 + 1).toNat = 0 by lia, List.drop_zero, List.drop_zero, va] at hv
      have hq := (Int.ediv_emod_unique (a := (m : Int)) (b := (l : Int)) (r := r) (q := val B F) (by lia)).mpr ⟨by rw [← hv, Int.mul_comm]; lia, r0, r1⟩
      refine ⟨w, F, ⟨hw, by rw [hBe]; exact dF, by lia⟩, rfl, ?_⟩
      rw [hBe, ← hq.1, ← hq.2, show ((m : Int) / l).toNat = m / l by rw [← Int.natCast_ediv, Int.toNat_natCast]]
      ((try dsimp only [zaa, zab, zac, zad, zae, zaf, zag, zah, zai, zaj, zak, zal, zam, zan, zao, zap, zaq, zar, zas, zat, zau, zav, zaw, zax, zay, zaz, zba, zbb, zbc, zbd, zbe, zbf, zbg, zbh, zbi, zbj, zbk, zbl, zbm, zbn, zbo, zbp, zbq, zbr, zbs, zbt, zbu, zbv, zbw, zbx, zby, zbz, zca, zcb, zcc, zcd, zce, zcf, zcg, zch, zci, zcj, zck, zcl, zcm, zcn, zco, zcp, zcq, zcr, zcs, zct, zcu, zcv, zcw, zcx, zcy, zcz, zda, zdb, zdc, zdd, zde, zdf, zdg, zdh, zdi, zdj, zdk, zdl, zdm, zdn, zdo, zdp, zdq, zdr, zds, zdt, zdu, zdv, zdw, zdx, zdy, zdz, zea, zeb, zec, zed, zee, zef, zeg, zeh, zei, zej, zek, zel, zem, zen, zeo, zep, zeq, zer, zes, zet, zeu, zev, zew, zex, zey, zez, zfa, zfb, zfc, zfd, zfe, zff, zfg, zfh, zfi, zfj, zfk, zfl, zfm, zfn, zfo, zfp, zfq, zfr, zfs, zft, zfu, zfv, zfw, zfx, zfy, zfz, zga, zgb, zgc, Nat.reduceAdd]); (try simp only [zgd, zge, zgf, zgg, true_and, and_true]))
      rw [hBe, ← Int.natCast_emod]
      exact hG
end Mine

open PySem PySem.Calls PyProof.Rows
set_option Elab.async false
set_option maxRecDepth 100000
set_option maxHeartbeats 4000000
namespace Mine
theorem shift_right_w {prog : Program} {w : World} {h0 : Heap} {mg mb : Str → Option Value} {ads : Ads} (S : Stat h0 mg mb) (T : Tops h0 mg ads) : FnOk prog w h0 2 (ads 11) (P_shift_right ads) := by
  refine' fnOk_of (d := 1) S T.shift_right ["a", "n", "w"] ["spots", "few", "found", "mask", "at", "above"] ?hb ?hl ?hn rfl rfl rfl ?hc (fun A L cd O => ?hB) (P_shift_right ads) ?hP
  case hb =>
    intro pm cd doc vs h
    exact vs3 (P := fun vs => bindArgs _ ⟨vs, []⟩ = pure (List.zip _ vs)) (by intros; rfl) h
  case hl => decide
  case hn => decide
  case hc => decide
  case hB =>
    exact (SSs.cons (SS.assignTS O [(3, "spots", ⟨0, 0, 0, 0⟩), (4, "few", ⟨0, 0, 0, 0⟩)] (SR.val (SE.bin fdiv_ok (SE.name O 1 "n" _ rfl) (SE.name O 2 "w" _ rfl) _) (SR.val (SE.bin fmod_ok (SE.name O 1 "n" _ rfl) (SE.name O 2 "w" _ rfl) _) SR.nil)) _ _ _ _ _ (all2 ⟨rfl, (.inl ⟨rfl, rfl⟩)⟩ ⟨rfl, (.inl ⟨rfl, rfl⟩)⟩))
    (SSs.cons (SS.assignTS O [(5, "found", ⟨0, 0, 0, 0⟩), (6, "mask", ⟨0, 0, 0, 0⟩)] (SR.own (SO.listI SEs.nil _) (SR.val (SE.bin sub_ok (SE.bin shl_ok (SE.int 1 _ _) (SE.name O 2 "w" _ rfl) _) (SE.int 1 _ _) _) SR.nil)) _ _ _ _ _ (all2 ⟨rfl, (.inl ⟨rfl, rfl⟩)⟩ ⟨rfl, (.inl ⟨rfl, rfl⟩)⟩))
    (SSs.cons (SS.forR2 O 7 "at" (SE.name O 3 "spots" _ rfl) (SE.len O (SB.of (SE.name O 0 "a" _ rfl)) _ _ rfl S.len.1 S.len.2) (SSs.cons (SS.assign O 8 "above" (SE.ifexp (STr.cmp O lt_ok (SE.bin add_ok (SE.name O 7 "at" _ rfl) (SE.int 1 _ _) _) (SE.len O (SB.of (SE.name O 0 "a" _ rfl)) _ _ rfl S.len.1 S.len.2) _) (SE.item (SB.of (SE.name O 0 "a" _ rfl)) (SE.bin add_ok (SE.name O 7 "at" _ rfl) (SE.int 1 _ _) _) _) (SE.int 0 _ _) _) _ _ rfl (.inl ⟨rfl, rfl⟩))
    (SSs.cons (SS.append O 5 "found" (SE.bin and_ok (SE.bin or_ok (SE.bin shr_ok (SE.item (SB.of (SE.name O 0 "a" _ rfl)) (SE.name O 7 "at" _ rfl) _) (SE.name O 4 "few" _ rfl) _) (SE.bin shl_ok (SE.name O 8 "above" _ rfl) (SE.bin sub_ok (SE.name O 2 "w" _ rfl) (SE.name O 4 "few" _ rfl) _) _) _) (SE.name O 6 "mask" _ rfl) _) _ _ _ _ rfl)
    SSs.nil)) _ _ _ _ rfl (.inl ⟨rfl, rfl⟩) rfl S.range.1 S.range.2)
    (SSs.cons (SS.freeze 5 (SS.ret (SE.call O ((normal_w S T).mono (by decide)) "normal" (SEs.cons (SE.name O 5 "found" _ rfl) SEs.nil) _ _ rfl T.normal.gname) _))
    SSs.nil))))
  case hP =>
    intro xs G h
    obtain ⟨w, m, n, ⟨hw, hm, hn⟩, rfl, hG⟩ := h
    refine ⟨rfl, ?_⟩
    have hB := B2 hw
    have h256 := B256 hw
    have la := limbs_len hB hm
    have da := limbs_dg hB m
    have va := limbs_val hB m
    have hmask : ∀ x : Int, Builtin.bitAnd x (((2 ^ w : Nat) : Int) - 1) = x % ((2 ^ w : Nat) : Int) := fun x => by rw [Bc]; exact mask' x w
    ((try dsimp only [zaa, zab, zac, zad, zae, zaf, zag, zah, zai, zaj, zak, zal, zam, zan, zao, zap, zaq, zar, zas, zat, zau, zav, zaw, zax, zay, zaz, zba, zbb, zbc, zbd, zbe, zbf, zbg, zbh, zbi, zbj, zbk, zbl, zbm, zbn, zbo, zbp, zbq, zbr, zbs, zbt, zbu, zbv, zbw, zbx, zby, zbz, zca, zcb, zcc, zcd, zce, zcf, zcg, zch, zci, zcj, zck, zcl, zcm, zcn, zco, zcp, zcq, zcr, zcs, zct, zcu, zcv, zcw, zcx, zcy, zcz, zda, zdb, zdc, zdd, zde, zdf, zdg, zdh, zdi, zdj, zdk, zdl, zdm, zdn, zdo, zdp, zdq, zdr, zds, zdt, zdu, zdv, zdw, zdx, zdy, zdz, zea, zeb, zec, zed, zee, zef, zeg, zeh, zei, zej, zek, zel, zem, zen, zeo, zep, zeq, zer, zes, zet, zeu, zev, zew, zex, zey, zez, zfa, zfb, zfc, zfd, zfe, zff, zfg, zfh, zfi, zfj, zfk, zfl, zfm, zfn, zfo, zfp, zfq, zfr, zfs, zft, zfu, zfv, zfw, zfx, zfy, zfz, zga, zgb, zgc, Nat.reduceAdd] at hG ⊢); (try simp only [zgd, zge, zgf, zgg, true_and, and_true, Int.one_mul] at hG ⊢); (try dsimp only [zaa, zab, zac, zad, zae, zaf, zag, zah, zai, zaj, zak, zal, zam, zan, zao, zap, zaq, zar, zas, zat, zau, zav, zaw, zax, zay, zaz, zba, zbb, zbc, zbd, zbe, zbf, zbg, zbh, zbi, zbj, zbk, zbl, zbm, zbn, zbo, zbp, zbq, zbr, zbs, zbt, zbu, zbv, zbw, zbx, zby, zbz, zca, zcb, zcc, zcd, zce, zcf, zcg, zch, zci, zcj, zck, zcl, zcm, zcn, zco, zcp, zcq, zcr, zcs, zct, zcu, zcv, zcw, zcx, zcy, zcz, zda, zdb, zdc, zdd, zde, zdf, zdg, zdh, zdi, zdj, zdk, zdl, zdm, zdn, zdo, zdp, zdq, zdr, zds, zdt, zdu, zdv, zdw, zdx, zdy, zdz, zea, zeb, zec, zed, zee, zef, zeg, zeh, zei, zej, zek, zel, zem, zen, zeo, zep, zeq, zer, zes, zet, zeu, zev, zew, zex, zey, zez, zfa, zfb, zfc, zfd, zfe, zff, zfg, zfh, zfi, zfj, zfk, zfl, zfm, zfn, zfo, zfp, zfq, zfr, zfs, zft, zfu, zfv, zfw, zfx, zfy, zfz, zga, zgb, zgc, Nat.reduceAdd] at hG ⊢))
    generalize limbs (2 ^ w) m = A at *
    have hw0 := hw.lo
    have h8 := hw.hi
    have hfd : (n : Int).fdiv (w : Int) = 0 := by rw [fd (by lia), ← Int.natCast_ediv, Nat.div_eq_of_lt hn]; rfl
    have hfm : (n : Int).fmod (w : Int) = (n : Int) := by rw [fm (by lia), ← Int.natCast_emod, Nat.mod_eq_of_lt hn]
    rw [hfd, hfm, ← Bc]
    refine ⟨by lia, by lia, by lia, by decide, by lia, by lia, by decide, by decide, by decide, by lia, by lia, by lia, by lia, ?_⟩
    rw [show ((A.length : Int) - 0).toNat = A.length by lia]
    have hpw : 2 ^ n * 2 ^ (w - n) = 2 ^ w := by rw [← Nat.pow_add]; congr 1; lia
    have hEc : ((2 ^ n : Nat) : Int) = (2 : Int) ^ n := Bc n
    have hDc : ((2 ^ (w - n) : Nat) : Int) = (2 : Int) ^ (w - n) := Bc _
    have hE1 : 1 ≤ 2 ^ n := Nat.one_le_two_pow
    have hD1 : 1 ≤ 2 ^ (w - n) := Nat.one_le_two_pow
    generalize hBe : (2 ^ w : Nat) = B at *
    generalize hEe : (2 ^ n : Nat) = E at *
    generalize hDe : (2 ^ (w - n) : Nat) = D at *
    have hBED : (B : Int) = (E : Int) * D := by rw [← hpw, Int.natCast_mul]
    refine forR_inv (fun k σ => ∃ (F : List Int) (t u : Sl), Dg B F ∧ F.length = k ∧ val B F + (B : Int) ^ k * (val B (A.drop k) / E) = (m : Int) / E ∧ σ = [.val (.ints A), .val (.int (n : Int)), .val (.int (w : Int)), .val (.int 0), .val (.int (n : Int)), .own (.ints F), .val (.int ((B : Int) - 1)), t, u]) (fun _ _ => False) ⟨[], _, _, Dg.nil, rfl, by rw [List.drop_zero, va]; simp [val], rfl⟩ ?_ ?_ (fun _ _ h => h.elim)
    · rintro k σ K hk ⟨F, t, u, dF, lF, hv, rfl⟩ hK -
      have hat : (0 + (k : Int)).toNat = k := by lia
      have hat1 : (0 + (k : Int) + 1).toNat = k + 1 := by lia
      have hda := da.getD (by lia) k
      have hdb := da.getD (by lia) (k + 1)
      ((try dsimp only [zaa, zab, zac, zad, zae, zaf, zag, zah, zai, zaj, zak, zal, zam, zan, zao, zap, zaq, zar, zas, zat, zau, zav, zaw, zax, zay, zaz, zba, zbb, zbc, zbd, zbe, zbf, zbg, zbh, zbi, zbj, zbk, zbl, zbm, zbn, zbo, zbp, zbq, zbr, zbs, zbt, zbu, zbv, zbw, zbx, zby, zbz, zca, zcb, zcc, zcd, zce, zcf, zcg, zch, zci, zcj, zck, zcl, zcm, zcn, zco, zcp, zcq, zcr, zcs, zct, zcu, zcv, zcw, zcx, zcy, zcz, zda, zdb, zdc, zdd, zde, zdf, zdg, zdh, zdi, zdj, zdk, zdl, zdm, zdn, zdo, zdp, zdq, zdr, zds, zdt, zdu, zdv, zdw, zdx, zdy, zdz, zea, zeb, zec, zed, zee, zef, zeg, zeh, zei, zej, zek, zel, zem, zen, zeo, zep, zeq, zer, zes, zet, zeu, zev, zew, zex, zey, zez, zfa, zfb, zfc, zfd, zfe, zff, zfg, zfh, zfi, zfj, zfk, zfl, zfm, zfn, zfo, zfp, zfq, zfr, zfs, zft, zfu, zfv, zfw, zfx, zfy, zfz, zga, zgb, zgc, Nat.reduceAdd]); (try simp only [zgd, zge, zgf, zgg, true_and, and_true, hat, hat1]); (try dsimp only [zaa, zab, zac, zad, zae, zaf, zag, zah, zai, zaj, zak, zal, zam, zan, zao, zap, zaq, zar, zas, zat, zau, zav, zaw, zax, zay, zaz, zba, zbb, zbc, zbd, zbe, zbf, zbg, zbh, zbi, zbj, zbk, zbl, zbm, zbn, zbo, zbp, zbq, zbr, zbs, zbt, zbu, zbv, zbw, zbx, zby, zbz, zca, zcb, zcc, zcd, zce, zcf, zcg, zch, zci, zcj, zck, zcl, zcm, zcn, zco, zcp, zcq, zcr, zcs, zct, zcu, zcv, zcw, zcx, zcy, zcz, zda, zdb, zdc, zdd, zde, zdf, zdg, zdh, zdi, zdj, zdk, zdl, zdm, zdn, zdo, zdp, zdq, zdr, zds, zdt, zdu, zdv, zdw, zdx, zdy, zdz, zea, zeb, zec, zed, zee, zef, zeg, zeh, zei, zej, zek, zel, zem, zen, zeo, zep, zeq, zer, zes, zet, zeu, zev, zew, zex, zey, zez, zfa, zfb, zfc, zfd, zfe, zff, zfg, zfh, zfi, zfj, zfk, zfl, zfm, zfn, zfo, zfp, zfq, zfr, zfs, zft, zfu, zfv, zfw, zfx, zfy, zfz, zga, zgb, zgc, Nat.reduceAdd]))
      have key : ∀ y : Int, y = A.getD (k + 1) 0 → (0 ≤ 0 + (k : Int) ∧ 0 + (k : Int) < A.length ∧ 0 ≤ (n : Int) ∧ 0 ≤ (w : Int) - n ∧ (w : Int) - n ≤ 1000000 ∧ y.natAbs < 2 ^ 64 ∧ F.length < 1000000 ∧ K .next [.val (.ints A), .val (.int (n : Int)), .val (.int (w : Int)), .val (.int 0), .val (.int (n : Int)), .own (.ints (F ++ [Builtin.bitAnd (Builtin.bitOr ((A.getD k 0).fdiv (2 ^ n)) (y * 2 ^ ((w : Int) - n).toNat)) ((B : Int) - 1)])), .val (.int ((B : Int) - 1)), .val (.int (0 + (k : Int))), .val (.int y)]) := by
        rintro y rfl
        refine ⟨by lia, by lia, by lia, by lia, by lia, by lia, by lia, ?_⟩
        have e0 : 0 ≤ A.getD k 0 / (E : Int) := Int.ediv_nonneg hda.1 (by lia)
        have e1 : A.getD k 0 / (E : Int) < D := Int.ediv_lt_of_lt_mul (by lia) (by rw [Int.mul_comm, ← hBED]; exact hda.2)
        rw [← hEc, fd (by lia), show ((w : Int) - n).toNat = w - n by lia, or_low' hdb.1 e0 (by rw [← hDc]; exact e1), ← hDc, hmask]
        refine hK _ ⟨_, _, _, dF.append (Dg.one (Int.emod_nonneg _ (by lia)) (Int.emod_lt_of_pos _ (by lia))), by simp [lF], ?_, rfl⟩
        rw [val_snoc, lF, ← hv]
        have h1 := val_drop (B : Int) A k
        have h2 := val_drop (B : Int) A (k + 1)
        generalize val B (A.drop (k + 1 + 1)) = Z at *
        generalize val B (A.drop (k + 1)) = Y at *
        generalize A.getD k 0 = a at *
        generalize A.getD (k + 1) 0 = c at *
        have hE0 : (0 : Int) < E := by lia
        have hD0 : (0 : Int) < D := by lia
        have k1 : val B (A.drop k) / (E : Int) = a / E + D * Y := by
          rw [h1, hBED, Int.mul_assoc, Int.add_mul_ediv_left _ _ (by lia)]
        have k2 : Y % (E : Int) = c % E := by rw [h2, hBED, Int.mul_assoc, Int.add_mul_emod_self_left]
        have k3 := Int.emod_add_mul_ediv Y E
        have k4 := Int.emod_add_mul_ediv c E
        have c0 := Int.emod_nonneg c (show (E : Int) ≠ 0 by lia)
        have c1 := Int.emod_lt_of_pos c hE0
        have k5 : (a / E + c * D) % (B : Int) = a / E + (c % E) * D := by
          have : a / E + c * D = (a / E + (c % E) * D) + B * (c / E) := by rw [hBED]; grind
          rw [this, Int.add_mul_emod_self_left]
          have b1 : (c % E + 1) * (D : Int) ≤ E * D := Int.mul_le_mul_of_nonneg_right (by lia) (by lia)
          have b0 : 0 ≤ (c % E) * (D : Int) := Int.mul_nonneg c0 (by lia)
          rw [Int.add_mul, Int.one_mul] at b1
          exact Int.emod_eq_of_lt (by lia) (by lia)
        have hp : (B : Int) ^ (k + 1) = (B : Int) ^ k * B := Int.pow_succ _ _
        rw [k1, k5, hp, hBED]
        rw [k2] at k3
        grind
      refine ⟨fun h => ⟨by lia, by lia, key _ rfl⟩, fun h => key _ ?_⟩
      rw [List.getD_eq_getElem?_getD, List.getElem?_eq_none (by lia)]; rfl
    · rintro σ' ⟨F, t, u, dF, lF, hv, rfl⟩
      ((try dsimp only [zaa, zab, zac, zad, zae, zaf, zag, zah, zai, zaj, zak, zal, zam, zan, zao, zap, zaq, zar, zas, zat, zau, zav, zaw, zax, zay, zaz, zba, zbb, zbc, zbd, zbe, zbf, zbg, zbh, zbi, zbj, zbk, zbl, zbm, zbn, zbo, zbp, zbq, zbr, zbs, zbt, zbu, zbv, zbw, zbx, zby, zbz, zca, zcb, zcc, zcd, zce, zcf, zcg, zch, zci, zcj, zck, zcl, zcm, zcn, zco, zcp, zcq, zcr, zcs, zct, zcu, zcv, zcw, zcx, zcy, zcz, zda, zdb, zdc, zdd, zde, zdf, zdg, zdh, zdi, zdj, zdk, zdl, zdm, zdn, zdo, zdp, zdq, zdr, zds, zdt, zdu, zdv, zdw, zdx, zdy, zdz, zea, zeb, zec, zed, zee, zef, zeg, zeh, zei, zej, zek, zel, zem, zen, zeo, zep, zeq, zer, zes, zet, zeu, zev, zew, zex, zey, zez, zfa, zfb, zfc, zfd, zfe, zff, zfg, zfh, zfi, zfj, zfk, zfl, zfm, zfn, zfo, zfp, zfq, zfr, zfs, zft, zfu, zfv, zfw, zfx, zfy, zfz, zga, zgb, zgc, Nat.reduceAdd]); (try simp only [zgd, zge, zgf, zgg, true_and, and_true]))
      rw [List.drop_length] at hv
      have hv' : val B F = ((m / E : Nat) : Int) := by
        rw [Int.natCast_ediv, ← hv]; simp [val]
      refine ⟨w, F, ⟨hw, by rw [hBe]; exact dF, by lia⟩, rfl, ?_⟩
      rw [hBe, hv', Int.toNat_natCast]
      ((try dsimp only [zaa, zab, zac, zad, zae, zaf, zag, zah, zai, zaj, zak, zal, zam, zan, zao, zap, zaq, zar, zas, zat, zau, zav, zaw, zax, zay, zaz, zba, zbb, zbc, zbd, zbe, zbf, zbg, zbh, zbi, zbj, zbk, zbl, zbm, zbn, zbo, zbp, zbq, zbr, zbs, zbt, zbu, zbv, zbw, zbx, zby, zbz, zca, zcb, zcc, zcd, zce, zcf, zcg, zch, zci, zcj, zck, zcl, zcm, zcn, zco, zcp, zcq, zcr, zcs, zct, zcu, zcv, zcw, zcx, zcy, zcz, zda, zdb, zdc, zdd, zde, zdf, zdg, zdh, zdi, zdj, zdk, zdl, zdm, zdn, zdo, zdp, zdq, zdr, zds, zdt, zdu, zdv, zdw, zdx, zdy, zdz, zea, zeb, zec, zed, zee, zef, zeg, zeh, zei, zej, zek, zel, zem, zen, zeo, zep, zeq, zer, zes, zet, zeu, zev, zew, zex, zey, zez, zfa, zfb, zfc, zfd, zfe, zff, zfg, zfh, zfi, zfj, zfk, zfl, zfm, zfn, zfo, zfp, zfq, zfr, zfs, zft, zfu, zfv, zfw, zfx, zfy, zfz, zga, zgb, zgc, Nat.reduceAdd]); (try simp only [zgd, zge, zgf, zgg, true_and, and_true]))
      rw [hBe]
      exact hG
end Mine

open PySem PySem.Calls PyProof.Rows
set_option Elab.async false
set_option maxRecDepth 100000
set_option maxHeartbeats 4000000
namespace Mine
theorem low_w {prog : Program} {w : World} {h0 : Heap} {mg mb : Str → Option Value} {ads : Ads} (S : Stat h0 mg mb) (T : Tops h0 mg ads) : FnOk prog w h0 2 (ads 13) (P_low ads) := by
  refine' fnOk_of (d := 1) S T.low ["a", "n", "w"] ["spots", "few"] ?hb ?hl ?hn rfl rfl rfl ?hc (fun A L cd O => ?hB) (P_low ads) ?hP
  case hb =>
    intro pm cd doc vs h
    exact vs3 (P := fun vs => bindArgs _ ⟨vs, []⟩ = pure (List.zip _ vs)) (by intros; rfl) h
  case hl => decide
  case hn => decide
  case hc => decide
  case hB =>
    exact (SSs.cons (SS.assignTS O [(3, "spots", ⟨0, 0, 0, 0⟩), (4, "few", ⟨0, 0, 0, 0⟩)] (SR.val (SE.bin fdiv_ok (SE.name O 1 "n" _ rfl) (SE.name O 2 "w" _ rfl) _) (SR.val (SE.bin fmod_ok (SE.name O 1 "n" _ rfl) (SE.name O 2 "w" _ rfl) _) SR.nil)) _ _ _ _ _ (all2 ⟨rfl, (.inl ⟨rfl, rfl⟩)⟩ ⟨rfl, (.inl ⟨rfl, rfl⟩)⟩))
    (SSs.cons (SS.ite (STr.cmp O ge_ok (SE.name O 3 "spots" _ rfl) (SE.len O (SB.of (SE.name O 0 "a" _ rfl)) _ _ rfl S.len.1 S.len.2) _) (SSs.cons (SS.ret (SE.slice (SB.of (SE.name O 0 "a" _ rfl)) OptE.none OptE.none _ _) _)
    SSs.nil) SSs.nil _)
    (SSs.cons (SS.ret (SE.call O ((normal_w S T).mono (by decide)) "normal" (SEs.cons (SE.bin add_ok (SE.slice (SB.of (SE.name O 0 "a" _ rfl)) OptE.none (OptE.some (SE.name O 3 "spots" _ rfl)) _ _) (SE.listI (SEs.cons (SE.bin and_ok (SE.item (SB.of (SE.name O 0 "a" _ rfl)) (SE.name O 3 "spots" _ rfl) _) (SE.bin sub_ok (SE.bin shl_ok (SE.int 1 _ _) (SE.name O 4 "few" _ rfl) _) (SE.int 1 _ _) _) _) SEs.nil) _) _) SEs.nil) _ _ rfl T.normal.gname) _)
    SSs.nil)))
  case hP =>
    intro xs G h
    obtain ⟨_, h, _⟩ := h
    exact h.elim
end Mine

open PySem PySem.Calls PyProof.Rows
set_option Elab.async false
set_option maxRecDepth 100000
set_option maxHeartbeats 4000000
namespace Mine
theorem s_neg_w {prog : Program} {w : World} {h0 : Heap} {mg mb : Str → Option Value} {ads : Ads} (S : Stat h0 mg mb) (T : Tops h0 mg ads) : FnOk prog w h0 2 (ads 16) (P_s_neg ads) := by
  refine' fnOk_of (d := 1) S T.s_neg ["x"] [] ?hb ?hl ?hn rfl rfl rfl ?hc (fun A L cd O => ?hB) (P_s_neg ads) ?hP
  case hb =>
    intro pm cd doc vs h
    exact vs1 (P := fun vs => bindArgs _ ⟨vs, []⟩ = pure (List.zip _ vs)) (by intros; rfl) h
  case hl => decide
  case hn => decide
  case hc => decide
  case hB =>
    exact (SSs.cons (SS.ret (SE.call O ((signed_w S T).mono (by decide)) "signed" (SEs.cons (SE.not (SE.item (SB.of (SE.name O 0 "x" _ rfl)) (SE.int 0 _ _) _) _) (SEs.cons (SE.item (SB.of (SE.name O 0 "x" _ rfl)) (SE.int 1 _ _) _) SEs.nil)) _ _ rfl T.signed.gname) _)
    SSs.nil)
  case hP =>
    intro xs G h
    obtain ⟨w, z, hw, rfl, hG⟩ := h
    refine ⟨rfl, ?_⟩
    ((try dsimp only [zaa, zab, zac, zad, zae, zaf, zag, zah, zai, zaj, zak, zal, zam, zan, zao, zap, zaq, zar, zas, zat, zau, zav, zaw, zax, zay, zaz, zba, zbb, zbc, zbd, zbe, zbf, zbg, zbh, zbi, zbj, zbk, zbl, zbm, zbn, zbo, zbp, zbq, zbr, zbs, zbt, zbu, zbv, zbw, zbx, zby, zbz, zca, zcb, zcc, zcd, zce, zcf, zcg, zch, zci, zcj, zck, zcl, zcm, zcn, zco, zcp, zcq, zcr, zcs, zct, zcu, zcv, zcw, zcx, zcy, zcz, zda, zdb, zdc, zdd, zde, zdf, zdg, zdh, zdi, zdj, zdk, zdl, zdm, zdn, zdo, zdp, zdq, zdr, zds, zdt, zdu, zdv, zdw, zdx, zdy, zdz, zea, zeb, zec, zed, zee, zef, zeg, zeh, zei, zej, zek, zel, zem, zen, zeo, zep, zeq, zer, zes, zet, zeu, zev, zew, zex, zey, zez, zfa, zfb, zfc, zfd, zfe, zff, zfg, zfh, zfi, zfj, zfk, zfl, zfm, zfn, zfo, zfp, zfq, zfr, zfs, zft, zfu, zfv, zfw, zfx, zfy, zfz, zga, zgb, zgc, Nat.reduceAdd] at hG ⊢); (try simp only [zgd, zge, zgf, zgg, true_and, and_true] at hG ⊢))
    refine ⟨w, _, _, hw, rfl, ?_⟩
    rw [show (!decide (z < 0) && decide (z.natAbs ≠ 0)) = decide (-z < 0) by rw [← decide_not, ← Bool.decide_and]; exact decide_eq_decide.mpr (neg_sign z)]
    rw [Int.natAbs_neg] at hG
    exact hG
end Mine

open PySem PySem.Calls PyProof.Rows
set_option Elab.async false
set_option maxRecDepth 100000
set_option maxHeartbeats 4000000
namespace Mine
theorem s_compare_w {prog : Program} {w : World} {h0 : Heap} {mg mb : Str → Option Value} {ads : Ads} (S : Stat h0 mg mb) (T : Tops h0 mg ads) : FnOk prog w h0 2 (ads 17) (P_s_compare ads) := by
  refine' fnOk_of (d := 1) S T.s_compare ["x", "y"] [] ?hb ?hl ?hn rfl rfl rfl ?hc (fun A L cd O => ?hB) (P_s_compare ads) ?hP
  case hb =>
    intro pm cd doc vs h
    exact vs2 (P := fun vs => bindArgs _ ⟨vs, []⟩ = pure (List.zip _ vs)) (by intros; rfl) h
  case hl => decide
  case hn => decide
  case hc => decide
  case hB =>
    exact (SSs.cons (SS.ite (STr.cmp O ne_ok (SE.item (SB.of (SE.name O 0 "x" _ rfl)) (SE.int 0 _ _) _) (SE.item (SB.of (SE.name O 1 "y" _ rfl)) (SE.int 0 _ _) _) _) (SSs.cons (SS.ret (SE.ifexp (STr.val (SE.item (SB.of (SE.name O 0 "x" _ rfl)) (SE.int 0 _ _) _)) (SE.neg (SE.int 1 _ _) _) (SE.int 1 _ _) _) _)
    SSs.nil) SSs.nil _)
    (SSs.cons (SS.ret (SE.ifexp (STr.val (SE.item (SB.of (SE.name O 0 "x" _ rfl)) (SE.int 0 _ _) _)) (SE.call O ((compare_w S T).mono (by decide)) "compare" (SEs.cons (SE.item (SB.of (SE.name O 1 "y" _ rfl)) (SE.int 1 _ _) _) (SEs.cons (SE.item (SB.of (SE.name O 0 "x" _ rfl)) (SE.int 1 _ _) _) SEs.nil)) _ _ rfl T.compare.gname) (SE.call O ((compare_w S T).mono (by decide)) "compare" (SEs.cons (SE.item (SB.of (SE.name O 0 "x" _ rfl)) (SE.int 1 _ _) _) (SEs.cons (SE.item (SB.of (SE.name O 1 "y" _ rfl)) (SE.int 1 _ _) _) SEs.nil)) _ _ rfl T.compare.gname) _) _)
    SSs.nil))
  case hP =>
    intro xs G h
    obtain ⟨w, y, z, ⟨hw, hy, hz⟩, rfl, hG⟩ := h
    refine ⟨rfl, ?_⟩
    ((try dsimp only [zaa, zab, zac, zad, zae, zaf, zag, zah, zai, zaj, zak, zal, zam, zan, zao, zap, zaq, zar, zas, zat, zau, zav, zaw, zax, zay, zaz, zba, zbb, zbc, zbd, zbe, zbf, zbg, zbh, zbi, zbj, zbk, zbl, zbm, zbn, zbo, zbp, zbq, zbr, zbs, zbt, zbu, zbv, zbw, zbx, zby, zbz, zca, zcb, zcc, zcd, zce, zcf, zcg, zch, zci, zcj, zck, zcl, zcm, zcn, zco, zcp, zcq, zcr, zcs, zct, zcu, zcv, zcw, zcx, zcy, zcz, zda, zdb, zdc, zdd, zde, zdf, zdg, zdh, zdi, zdj, zdk, zdl, zdm, zdn, zdo, zdp, zdq, zdr, zds, zdt, zdu, zdv, zdw, zdx, zdy, zdz, zea, zeb, zec, zed, zee, zef, zeg, zeh, zei, zej, zek, zel, zem, zen, zeo, zep, zeq, zer, zes, zet, zeu, zev, zew, zex, zey, zez, zfa, zfb, zfc, zfd, zfe, zff, zfg, zfh, zfi, zfj, zfk, zfl, zfm, zfn, zfo, zfp, zfq, zfr, zfs, zft, zfu, zfv, zfw, zfx, zfy, zfz, zga, zgb, zgc, Nat.reduceAdd] at hG ⊢); (try simp only [zgd, zge, zgf, zgg, true_and, and_true] at hG ⊢))
    by_cases hy' : y < 0 <;> by_cases hz' : z < 0 <;> simp only [hy', hz', decide_true, decide_false, Bool.not_true, Bool.not_false, beq_self_eq_true, beq_false, zgf, zgg, true_implies, false_implies, not_true_eq_false, not_false_eq_true, and_true, true_and, Bool.false_beq]
    · refine ⟨w, z.natAbs, y.natAbs, ⟨hw, hz, hy⟩, rfl, ?_⟩
      rw [show (z.natAbs : Int) - y.natAbs = y - z by lia]; exact hG
    · rw [Int.sign_eq_neg_one_of_neg (by lia)] at hG; exact hG
    · rw [Int.sign_eq_one_of_pos (by lia)] at hG; exact hG
    · refine ⟨w, y.natAbs, z.natAbs, ⟨hw, hy, hz⟩, rfl, ?_⟩
      rw [show (y.natAbs : Int) - z.natAbs = y - z by lia]; exact hG
end Mine

open PySem PySem.Calls PyProof.Rows
set_option Elab.async false
set_option maxRecDepth 100000
set_option maxHeartbeats 4000000
namespace Mine
theorem mul_school_w {prog : Program} {w : World} {h0 : Heap} {mg mb : Str → Option Value} {ads : Ads} (S : Stat h0 mg mb) (T : Tops h0 mg ads) : FnOk prog w h0 2 (ads 37) (P_mul_school ads) := by
  refine' fnOk_of (d := 1) S T.mul_school ["a", "b", "w"] ["found", "mask", "at", "limb", "carry", "spot", "other"] ?hb ?hl ?hn rfl rfl rfl ?hc (fun A L cd O => ?hB) (P_mul_school ads) ?hP
  case hb =>
    intro pm cd doc vs h
    exact vs3 (P := fun vs => bindArgs _ ⟨vs, []⟩ = pure (List.zip _ vs)) (by intros; rfl) h
  case hl => decide
  case hn => decide
  case hc => decide
  case hB =>
    exact (SSs.cons (SS.assignTS O [(3, "found", ⟨0, 0, 0, 0⟩), (4, "mask", ⟨0, 0, 0, 0⟩)] (SR.own (SO.mul (SE.listI (SEs.cons (SE.int 0 _ _) SEs.nil) _) (SE.bin add_ok (SE.len O (SB.of (SE.name O 0 "a" _ rfl)) _ _ rfl S.len.1 S.len.2) (SE.len O (SB.of (SE.name O 1 "b" _ rfl)) _ _ rfl S.len.1 S.len.2) _) _) (SR.val (SE.bin sub_ok (SE.bin shl_ok (SE.int 1 _ _) (SE.name O 2 "w" _ rfl) _) (SE.int 1 _ _) _) SR.nil)) _ _ _ _ _ (all2 ⟨rfl, (.inl ⟨rfl, rfl⟩)⟩ ⟨rfl, (.inl ⟨rfl, rfl⟩)⟩))
    (SSs.cons (SS.forE O (5, "at", _) (6, "limb", _) (SE.name O 0 "a" _ rfl) (SSs.cons (SS.assign O 7 "carry" (SE.int 0 _ _) _ _ rfl (.inl ⟨rfl, rfl⟩))
    (SSs.cons (SS.forE O (8, "spot", _) (9, "other", _) (SE.name O 1 "b" _ rfl) (SSs.cons (SS.aug O iadd_ok 7 "carry" (SE.bin add_ok (SE.item (SB.own O 3 "found" _ rfl) (SE.bin add_ok (SE.name O 5 "at" _ rfl) (SE.name O 8 "spot" _ rfl) _) _) (SE.bin mul_ok (SE.name O 6 "limb" _ rfl) (SE.name O 9 "other" _ rfl) _) _) _ _ rfl (.inl ⟨rfl, rfl⟩))
    (SSs.cons (SS.setitem O 3 "found" (SE.bin and_ok (SE.name O 7 "carry" _ rfl) (SE.name O 4 "mask" _ rfl) _) (SE.bin add_ok (SE.name O 5 "at" _ rfl) (SE.name O 8 "spot" _ rfl) _) _ _ _ rfl)
    (SSs.cons (SS.aug O ishr_ok 7 "carry" (SE.name O 2 "w" _ rfl) _ _ rfl (.inl ⟨rfl, rfl⟩))
    SSs.nil))) _ _ _ _ _ (all2 ⟨rfl, .inl ⟨rfl, rfl⟩⟩ ⟨rfl, .inl ⟨rfl, rfl⟩⟩) rfl rfl S.enum.1 S.enum.2)
    (SSs.cons (SS.setitem O 3 "found" (SE.name O 7 "carry" _ rfl) (SE.bin add_ok (SE.name O 5 "at" _ rfl) (SE.len O (SB.of (SE.name O 1 "b" _ rfl)) _ _ rfl S.len.1 S.len.2) _) _ _ _ rfl)
    SSs.nil))) _ _ _ _ _ (all2 ⟨rfl, .inl ⟨rfl, rfl⟩⟩ ⟨rfl, .inl ⟨rfl, rfl⟩⟩) rfl rfl S.enum.1 S.enum.2)
    (SSs.cons (SS.freeze 3 (SS.ret (SE.call O ((normal_w S T).mono (by decide)) "normal" (SEs.cons (SE.name O 3 "found" _ rfl) SEs.nil) _ _ rfl T.normal.gname) _))
    SSs.nil)))
  case hP =>
    intro xs G h
    obtain ⟨w, m, n, ⟨hw, hm, hn⟩, rfl, hG⟩ := h
    refine ⟨rfl, ?_⟩
    have hB := B2 hw
    have h256 := B256 hw
    have h8 := hw.hi
    have la := limbs_len hB hm
    have da := limbs_dg hB m
    have va := limbs_val hB m
    have lb := limbs_len hB hn
    have db := limbs_dg hB n
    have vb := limbs_val hB n
    have hmask : ∀ x : Int, Builtin.bitAnd x (((2 ^ w : Nat) : Int) - 1) = x % ((2 ^ w : Nat) : Int) := fun x => by rw [Bc]; exact mask' x w
    ((try dsimp only [zaa, zab, zac, zad, zae, zaf, zag, zah, zai, zaj, zak, zal, zam, zan, zao, zap, zaq, zar, zas, zat, zau, zav, zaw, zax, zay, zaz, zba, zbb, zbc, zbd, zbe, zbf, zbg, zbh, zbi, zbj, zbk, zbl, zbm, zbn, zbo, zbp, zbq, zbr, zbs, zbt, zbu, zbv, zbw, zbx, zby, zbz, zca, zcb, zcc, zcd, zce, zcf, zcg, zch, zci, zcj, zck, zcl, zcm, zcn, zco, zcp, zcq, zcr, zcs, zct, zcu, zcv, zcw, zcx, zcy, zcz, zda, zdb, zdc, zdd, zde, zdf, zdg, zdh, zdi, zdj, zdk, zdl, zdm, zdn, zdo, zdp, zdq, zdr, zds, zdt, zdu, zdv, zdw, zdx, zdy, zdz, zea, zeb, zec, zed, zee, zef, zeg, zeh, zei, zej, zek, zel, zem, zen, zeo, zep, zeq, zer, zes, zet, zeu, zev, zew, zex, zey, zez, zfa, zfb, zfc, zfd, zfe, zff, zfg, zfh, zfi, zfj, zfk, zfl, zfm, zfn, zfo, zfp, zfq, zfr, zfs, zft, zfu, zfv, zfw, zfx, zfy, zfz, zga, zgb, zgc, Nat.reduceAdd] at hG ⊢); (try simp only [zgd, zge, zgf, zgg, true_and, and_true, Int.one_mul] at hG ⊢); (try dsimp only [zaa, zab, zac, zad, zae, zaf, zag, zah, zai, zaj, zak, zal, zam, zan, zao, zap, zaq, zar, zas, zat, zau, zav, zaw, zax, zay, zaz, zba, zbb, zbc, zbd, zbe, zbf, zbg, zbh, zbi, zbj, zbk, zbl, zbm, zbn, zbo, zbp, zbq, zbr, zbs, zbt, zbu, zbv, zbw, zbx, zby, zbz, zca, zcb, zcc, zcd, zce, zcf, zcg, zch, zci, zcj, zck, zcl, zcm, zcn, zco, zcp, zcq, zcr, zcs, zct, zcu, zcv, zcw, zcx, zcy, zcz, zda, zdb, zdc, zdd, zde, zdf, zdg, zdh, zdi, zdj, zdk, zdl, zdm, zdn, zdo, zdp, zdq, zdr, zds, zdt, zdu, zdv, zdw, zdx, zdy, zdz, zea, zeb, zec, zed, zee, zef, zeg, zeh, zei, zej, zek, zel, zem, zen, zeo, zep, zeq, zer, zes, zet, zeu, zev, zew, zex, zey, zez, zfa, zfb, zfc, zfd, zfe, zff, zfg, zfh, zfi, zfj, zfk, zfl, zfm, zfn, zfo, zfp, zfq, zfr, zfs, zft, zfu, zfv, zfw, zfx, zfy, zfz, zga, zgb, zgc, Nat.reduceAdd] at hG ⊢))
    generalize limbs (2 ^ w) m = A at *
    generalize limbs (2 ^ w) n = C at *
    rw [← Bc]
    refine ⟨by lia, by lia, by lia, by lia, by lia, by decide, by decide, by decide, ?_⟩
    rw [flat1, show ((A.length : Int) + (C.length : Int)).toNat = A.length + C.length by lia]
    generalize hBe : (2 ^ w : Nat) = B at *
    refine enL_inv (fun k σ => ∃ (F : List Int) (t u v x y : Sl), Dg B F ∧ F.length = A.length + C.length ∧ (∀ i, k + C.length ≤ i → F.getD i 0 = 0) ∧ val B F = val B (A.take k) * n ∧ σ = [.val (.ints A), .val (.ints C), .val (.int (w : Int)), .own (.ints F), .val (.int ((B : Int) - 1)), t, u, v, x, y]) (fun _ _ => False) ⟨_, _, _, _, _, _, Dg.rep (by lia) _, by simp, fun i _ => getD_rep _ i, by rw [val_rep]; simp [val], rfl⟩ ?_ ?_ (fun _ _ h => h.elim)
    · rintro k σ K hk ⟨F0, t, u, v, x, y, dF0, lF0, hz0, hv0, rfl⟩ hK -
      have hda := da.getD (by lia) k
      have ha := val_take_succ' (B : Int) A k
      ((try dsimp only [zaa, zab, zac, zad, zae, zaf, zag, zah, zai, zaj, zak, zal, zam, zan, zao, zap, zaq, zar, zas, zat, zau, zav, zaw, zax, zay, zaz, zba, zbb, zbc, zbd, zbe, zbf, zbg, zbh, zbi, zbj, zbk, zbl, zbm, zbn, zbo, zbp, zbq, zbr, zbs, zbt, zbu, zbv, zbw, zbx, zby, zbz, zca, zcb, zcc, zcd, zce, zcf, zcg, zch, zci, zcj, zck, zcl, zcm, zcn, zco, zcp, zcq, zcr, zcs, zct, zcu, zcv, zcw, zcx, zcy, zcz, zda, zdb, zdc, zdd, zde, zdf, zdg, zdh, zdi, zdj, zdk, zdl, zdm, zdn, zdo, zdp, zdq, zdr, zds, zdt, zdu, zdv, zdw, zdx, zdy, zdz, zea, zeb, zec, zed, zee, zef, zeg, zeh, zei, zej, zek, zel, zem, zen, zeo, zep, zeq, zer, zes, zet, zeu, zev, zew, zex, zey, zez, zfa, zfb, zfc, zfd, zfe, zff, zfg, zfh, zfi, zfj, zfk, zfl, zfm, zfn, zfo, zfp, zfq, zfr, zfs, zft, zfu, zfv, zfw, zfx, zfy, zfz, zga, zgb, zgc, Nat.reduceAdd]); (try simp only [zgd, zge, zgf, zgg, true_and, and_true]))
      refine enL_inv (fun j σ => ∃ (F : List Int) (c : Int) (x y : Sl), Dg B F ∧ F.length = A.length + C.length ∧ (∀ i, k + C.length ≤ i → F.getD i 0 = 0) ∧ 0 ≤ c ∧ c < B ∧ val B F + (B : Int) ^ (k + j) * c = val B F0 + (B : Int) ^ k * (A.getD k 0 * val B (C.take j)) ∧ σ = [.val (.ints A), .val (.ints C), .val (.int (w : Int)), .own (.ints F), .val (.int ((B : Int) - 1)), .val (.int (k : Int)), .val (.int (A.getD k 0)), .val (.int c), x, y]) (fun _ _ => False) ⟨F0, 0, _, _, dF0, lF0, hz0, by lia, by lia, by simp [val], rfl⟩ ?_ ?_ (fun _ _ h => h.elim)
      · rintro j σ K hj ⟨F, c, x, y, dF, lF, hz, c0, c1, hv, rfl⟩ hK -
        have hdf := dF.getD (by lia) (k + j)
        have hdc := db.getD (by lia) j
        have hc := val_take_succ' (B : Int) C j
        ((try dsimp only [zaa, zab, zac, zad, zae, zaf, zag, zah, zai, zaj, zak, zal, zam, zan, zao, zap, zaq, zar, zas, zat, zau, zav, zaw, zax, zay, zaz, zba, zbb, zbc, zbd, zbe, zbf, zbg, zbh, zbi, zbj, zbk, zbl, zbm, zbn, zbo, zbp, zbq, zbr, zbs, zbt, zbu, zbv, zbw, zbx, zby, zbz, zca, zcb, zcc, zcd, zce, zcf, zcg, zch, zci, zcj, zck, zcl, zcm, zcn, zco, zcp, zcq, zcr, zcs, zct, zcu, zcv, zcw, zcx, zcy, zcz, zda, zdb, zdc, zdd, zde, zdf, zdg, zdh, zdi, zdj, zdk, zdl, zdm, zdn, zdo, zdp, zdq, zdr, zds, zdt, zdu, zdv, zdw, zdx, zdy, zdz, zea, zeb, zec, zed, zee, zef, zeg, zeh, zei, zej, zek, zel, zem, zen, zeo, zep, zeq, zer, zes, zet, zeu, zev, zew, zex, zey, zez, zfa, zfb, zfc, zfd, zfe, zff, zfg, zfh, zfi, zfj, zfk, zfl, zfm, zfn, zfo, zfp, zfq, zfr, zfs, zft, zfu, zfv, zfw, zfx, zfy, zfz, zga, zgb, zgc, Nat.reduceAdd]); (try simp only [zgd, zge, zgf, zgg, true_and, and_true]))
        rw [show ((k : Int) + (j : Int)).toNat = k + j by lia, hmask, ← Bc, hBe, fd (by lia)]
        have hx0 : 0 ≤ A.getD k 0 * C.getD j 0 := Int.mul_nonneg hda.1 hdc.1
        have hx1 : A.getD k 0 * C.getD j 0 ≤ (B - 1) * (B - 1) := Int.mul_le_mul (by lia) (by lia) hdc.1 (by lia)
        have hsq : ((B : Int) - 1) * (B - 1) = B * B - 2 * B + 1 := by grind
        generalize hT : c + (F.getD (k + j) 0 + A.getD k 0 * C.getD j 0) = T at *
        have q0 : 0 ≤ T / (B : Int) := Int.ediv_nonneg (by lia) (by lia)
        have q1 : T / (B : Int) < B := Int.ediv_lt_of_lt_mul (by lia) (by lia)
        have h1 := Int.emod_add_mul_ediv T B
        have hp : (B : Int) ^ (k + (j + 1)) = (B : Int) ^ (k + j) * B := Int.pow_succ _ _
        have hp2 : (B : Int) ^ (k + j) = (B : Int) ^ k * (B : Int) ^ j := Int.pow_add _ _ _
        refine ⟨by lia, by lia, by lia, by lia, by lia, by lia, hK _ ⟨_, _, _, _, dF.set _ (Int.emod_nonneg _ (by lia)) (Int.emod_lt_of_pos _ (by lia)), by simp [lF], ?_, q0, q1, ?_, rfl⟩⟩
        · intro i hi
          rw [getD_set_ne _ _ _ _ (by lia)]; exact hz i hi
        · rw [val_set _ _ _ _ (by lia), hc, hp]
          grind
      · rintro σ' ⟨F, c, x, y, dF, lF, hz, c0, c1, hv, rfl⟩
        ((try dsimp only [zaa, zab, zac, zad, zae, zaf, zag, zah, zai, zaj, zak, zal, zam, zan, zao, zap, zaq, zar, zas, zat, zau, zav, zaw, zax, zay, zaz, zba, zbb, zbc, zbd, zbe, zbf, zbg, zbh, zbi, zbj, zbk, zbl, zbm, zbn, zbo, zbp, zbq, zbr, zbs, zbt, zbu, zbv, zbw, zbx, zby, zbz, zca, zcb, zcc, zcd, zce, zcf, zcg, zch, zci, zcj, zck, zcl, zcm, zcn, zco, zcp, zcq, zcr, zcs, zct, zcu, zcv, zcw, zcx, zcy, zcz, zda, zdb, zdc, zdd, zde, zdf, zdg, zdh, zdi, zdj, zdk, zdl, zdm, zdn, zdo, zdp, zdq, zdr, zds, zdt, zdu, zdv, zdw, zdx, zdy, zdz, zea, zeb, zec, zed, zee, zef, zeg, zeh, zei, zej, zek, zel, zem, zen, zeo, zep, zeq, zer, zes, zet, zeu, zev, zew, zex, zey, zez, zfa, zfb, zfc, zfd, zfe, zff, zfg, zfh, zfi, zfj, zfk, zfl, zfm, zfn, zfo, zfp, zfq, zfr, zfs, zft, zfu, zfv, zfw, zfx, zfy, zfz, zga, zgb, zgc, Nat.reduceAdd]); (try simp only [zgd, zge, zgf, zgg, true_and, and_true]))
        rw [show ((k : Int) + (C.length : Int)).toNat = k + C.length by lia]
        refine ⟨by lia, by lia, hK _ ⟨_, _, _, _, _, _, dF.set _ c0 c1, by simp [lF], ?_, ?_, rfl⟩⟩
        · intro i hi
          rw [getD_set_ne _ _ _ _ (by lia)]; exact hz i (by lia)
        · rw [List.take_length, vb] at hv
          rw [val_set _ _ _ _ (by lia), hz _ (Nat.le_refl _), ha]
          grind
    · rintro σ' ⟨F, t, u, v, x, y, dF, lF, hz, hv, rfl⟩
      ((try dsimp only [zaa, zab, zac, zad, zae, zaf, zag, zah, zai, zaj, zak, zal, zam, zan, zao, zap, zaq, zar, zas, zat, zau, zav, zaw, zax, zay, zaz, zba, zbb, zbc, zbd, zbe, zbf, zbg, zbh, zbi, zbj, zbk, zbl, zbm, zbn, zbo, zbp, zbq, zbr, zbs, zbt, zbu, zbv, zbw, zbx, zby, zbz, zca, zcb, zcc, zcd, zce, zcf, zcg, zch, zci, zcj, zck, zcl, zcm, zcn, zco, zcp, zcq, zcr, zcs, zct, zcu, zcv, zcw, zcx, zcy, zcz, zda, zdb, zdc, zdd, zde, zdf, zdg, zdh, zdi, zdj, zdk, zdl, zdm, zdn, zdo, zdp, zdq, zdr, zds, zdt, zdu, zdv, zdw, zdx, zdy, zdz, zea, zeb, zec, zed, zee, zef, zeg, zeh, zei, zej, zek, zel, zem, zen, zeo, zep, zeq, zer, zes, zet, zeu, zev, zew, zex, zey, zez, zfa, zfb, zfc, zfd, zfe, zff, zfg, zfh, zfi, zfj, zfk, zfl, zfm, zfn, zfo, zfp, zfq, zfr, zfs, zft, zfu, zfv, zfw, zfx, zfy, zfz, zga, zgb, zgc, Nat.reduceAdd]); (try simp only [zgd, zge, zgf, zgg, true_and, and_true]))
      rw [List.take_length, va] at hv
      refine ⟨w, F, ⟨hw, by rw [hBe]; exact dF, by lia⟩, rfl, ?_⟩
      rw [hBe, hv, ← Int.natCast_mul, Int.toNat_natCast]
      ((try dsimp only [zaa, zab, zac, zad, zae, zaf, zag, zah, zai, zaj, zak, zal, zam, zan, zao, zap, zaq, zar, zas, zat, zau, zav, zaw, zax, zay, zaz, zba, zbb, zbc, zbd, zbe, zbf, zbg, zbh, zbi, zbj, zbk, zbl, zbm, zbn, zbo, zbp, zbq, zbr, zbs, zbt, zbu, zbv, zbw, zbx, zby, zbz, zca, zcb, zcc, zcd, zce, zcf, zcg, zch, zci, zcj, zck, zcl, zcm, zcn, zco, zcp, zcq, zcr, zcs, zct, zcu, zcv, zcw, zcx, zcy, zcz, zda, zdb, zdc, zdd, zde, zdf, zdg, zdh, zdi, zdj, zdk, zdl, zdm, zdn, zdo, zdp, zdq, zdr, zds, zdt, zdu, zdv, zdw, zdx, zdy, zdz, zea, zeb, zec, zed, zee, zef, zeg, zeh, zei, zej, zek, zel, zem, zen, zeo, zep, zeq, zer, zes, zet, zeu, zev, zew, zex, zey, zez, zfa, zfb, zfc, zfd, zfe, zff, zfg, zfh, zfi, zfj, zfk, zfl, zfm, zfn, zfo, zfp, zfq, zfr, zfs, zft, zfu, zfv, zfw, zfx, zfy, zfz, zga, zgb, zgc, Nat.reduceAdd]); (try simp only [zgd, zge, zgf, zgg, true_and, and_true]))
      rw [hBe]
      exact hG
end Mine

open PySem PySem.Calls PyProof.Rows
set_option Elab.async false
set_option maxRecDepth 100000
set_option maxHeartbeats 4000000
namespace Mine
theorem divide_rows_w {prog : Program} {w : World} {h0 : Heap} {mg mb : Str → Option Value} {ads : Ads} (S : Stat h0 mg mb) (T : Tops h0 mg ads) : FnOkM prog w h0 2 (ads 42) (P_divide_rows ads) := by
  refine' fnOkM_of (d := 1) S T.divide_rows "rest" ["b", "w"] ["size", "quotient", "at", "limb"] ?hb ?hl ?hn rfl rfl rfl ?hc (fun A L cd O => ?hB) (P_divide_rows ads) ?hP
  case hb =>
    intro pm cd doc vs h
    exact vs3 (P := fun vs => bindArgs _ ⟨vs, []⟩ = pure (List.zip _ vs)) (by intros; rfl) h
  case hl => decide
  case hn => decide
  case hc => decide
  case hB =>
    exact (SSs.cons (SS.assign O 3 "size" (SE.len O (SB.of (SE.name O 1 "b" _ rfl)) _ _ rfl S.len.1 S.len.2) _ _ rfl (.inl ⟨rfl, rfl⟩))
    (SSs.cons (SS.assignO O 4 "quotient" (SO.mul (SE.listI (SEs.cons (SE.int 0 _ _) SEs.nil) _) (SE.bin sub_ok (SE.len O (SB.own O 0 "rest" _ rfl) _ _ rfl S.len.1 S.len.2) (SE.name O 3 "size" _ rfl) _) _) _ _ rfl (.inl ⟨rfl, rfl⟩))
    (SSs.cons (SS.forRD O 5 "at" (SE.bin sub_ok (SE.bin sub_ok (SE.len O (SB.own O 0 "rest" _ rfl) _ _ rfl S.len.1 S.len.2) (SE.name O 3 "size" _ rfl) _) (SE.int 1 _ _) _) (SSs.cons (SS.assign O 6 "limb" (SE.call O ((guessed_limb_w S T).mono (by decide)) "guessed_limb" (SEs.cons (SE.slice (SB.own O 0 "rest" _ rfl) (OptE.some (SE.bin sub_ok (SE.bin add_ok (SE.name O 5 "at" _ rfl) (SE.name O 3 "size" _ rfl) _) (SE.int 2 _ _) _)) (OptE.some (SE.bin add_ok (SE.bin add_ok (SE.name O 5 "at" _ rfl) (SE.name O 3 "size" _ rfl) _) (SE.int 1 _ _) _)) _ _) (SEs.cons (SE.item (SB.of (SE.name O 1 "b" _ rfl)) (SE.bin sub_ok (SE.name O 3 "size" _ rfl) (SE.int 1 _ _) _) _) (SEs.cons (SE.item (SB.of (SE.name O 1 "b" _ rfl)) (SE.bin sub_ok (SE.name O 3 "size" _ rfl) (SE.int 2 _ _) _) _) (SEs.cons (SE.name O 2 "w" _ rfl) SEs.nil)))) _ _ rfl T.guessed_limb.gname) _ _ rfl (.inl ⟨rfl, rfl⟩))
    (SSs.cons (SS.iteM O 1 _ _ _ _ (SM.call O ((take_away_w S T).mono (by decide)) 0 "rest" "take_away" (SEs.cons (SE.name O 1 "b" _ rfl) (SEs.cons (SE.name O 6 "limb" _ rfl) (SEs.cons (SE.name O 5 "at" _ rfl) (SEs.cons (SE.name O 2 "w" _ rfl) SEs.nil)))) _ _ _ rfl rfl T.take_away.gname) (SSs.cons (SS.aug O isub_ok 6 "limb" (SE.int 1 _ _) _ _ rfl (.inl ⟨rfl, rfl⟩))
    (SSs.cons (SS.exprM O (SM.call O ((put_back_w S T).mono (by decide)) 0 "rest" "put_back" (SEs.cons (SE.name O 1 "b" _ rfl) (SEs.cons (SE.name O 5 "at" _ rfl) (SEs.cons (SE.name O 2 "w" _ rfl) SEs.nil))) _ _ _ rfl rfl T.put_back.gname) _)
    SSs.nil)) SSs.nil)
    (SSs.cons (SS.setitem O 4 "quotient" (SE.name O 6 "limb" _ rfl) (SE.name O 5 "at" _ rfl) _ _ _ rfl)
    SSs.nil))) _ _ _ _ _ _ _ _ _ _ rfl (.inl ⟨rfl, rfl⟩) rfl S.range.1 S.range.2)
    (SSs.cons (SS.freeze 4 (SS.ret (SE.name O 4 "quotient" _ rfl) _))
    SSs.nil))))
  case hP =>
    intro p xs G h
    obtain ⟨w, rest, b, ⟨hw, dR, dB, lb, lR, hlen, htop, hini⟩, rfl, rfl, hG⟩ := h
    refine ⟨rfl, ?_⟩
    have hB := B2 hw
    have h256 := B256 hw
    have h8 := hw.hi
    ((try dsimp only [zaa, zab, zac, zad, zae, zaf, zag, zah, zai, zaj, zak, zal, zam, zan, zao, zap, zaq, zar, zas, zat, zau, zav, zaw, zax, zay, zaz, zba, zbb, zbc, zbd, zbe, zbf, zbg, zbh, zbi, zbj, zbk, zbl, zbm, zbn, zbo, zbp, zbq, zbr, zbs, zbt, zbu, zbv, zbw, zbx, zby, zbz, zca, zcb, zcc, zcd, zce, zcf, zcg, zch, zci, zcj, zck, zcl, zcm, zcn, zco, zcp, zcq, zcr, zcs, zct, zcu, zcv, zcw, zcx, zcy, zcz, zda, zdb, zdc, zdd, zde, zdf, zdg, zdh, zdi, zdj, zdk, zdl, zdm, zdn, zdo, zdp, zdq, zdr, zds, zdt, zdu, zdv, zdw, zdx, zdy, zdz, zea, zeb, zec, zed, zee, zef, zeg, zeh, zei, zej, zek, zel, zem, zen, zeo, zep, zeq, zer, zes, zet, zeu, zev, zew, zex, zey, zez, zfa, zfb, zfc, zfd, zfe, zff, zfg, zfh, zfi, zfj, zfk, zfl, zfm, zfn, zfo, zfp, zfq, zfr, zfs, zft, zfu, zfv, zfw, zfx, zfy, zfz, zga, zgb, zgc, Nat.reduceAdd] at hG ⊢); (try simp only [zgd, zge, zgf, zgg, true_and, and_true, Int.one_mul] at hG ⊢); (try dsimp only [zaa, zab, zac, zad, zae, zaf, zag, zah, zai, zaj, zak, zal, zam, zan, zao, zap, zaq, zar, zas, zat, zau, zav, zaw, zax, zay, zaz, zba, zbb, zbc, zbd, zbe, zbf, zbg, zbh, zbi, zbj, zbk, zbl, zbm, zbn, zbo, zbp, zbq, zbr, zbs, zbt, zbu, zbv, zbw, zbx, zby, zbz, zca, zcb, zcc, zcd, zce, zcf, zcg, zch, zci, zcj, zck, zcl, zcm, zcn, zco, zcp, zcq, zcr, zcs, zct, zcu, zcv, zcw, zcx, zcy, zcz, zda, zdb, zdc, zdd, zde, zdf, zdg, zdh, zdi, zdj, zdk, zdl, zdm, zdn, zdo, zdp, zdq, zdr, zds, zdt, zdu, zdv, zdw, zdx, zdy, zdz, zea, zeb, zec, zed, zee, zef, zeg, zeh, zei, zej, zek, zel, zem, zen, zeo, zep, zeq, zer, zes, zet, zeu, zev, zew, zex, zey, zez, zfa, zfb, zfc, zfd, zfe, zff, zfg, zfh, zfi, zfj, zfk, zfl, zfm, zfn, zfo, zfp, zfq, zfr, zfs, zft, zfu, zfv, zfw, zfx, zfy, zfz, zga, zgb, zgc, Nat.reduceAdd] at hG ⊢))
    refine ⟨by lia, by lia, by lia, by lia, by lia, ?_⟩
    rw [flat1, show ((rest.length : Int) - (b.length : Int)).toNat = rest.length - b.length by lia, show ((rest.length : Int) - (b.length : Int) - 1 + 1).toNat = rest.length - b.length by lia]
    have vtop := val_top2 ((2 ^ w : Nat) : Int) b lb
    have hvl := val_lt (dB.take (b.length - 2))
    rw [List.length_take_of_le (by lia)] at hvl
    have hvl0 := val_nonneg (dB.take (b.length - 2))
    have hs := dB.getD (by lia) (b.length - 2)
    have hf := dB.getD (by lia) (b.length - 1)
    have hV := val_lt dB
    have hV0 := val_nonneg dB
    generalize hBe : (2 ^ w : Nat) = B at *
    generalize hN : rest.length - b.length = N at *
    replace hN : rest.length = b.length + N := by lia
    refine forR_inv (fun k σ => ∃ (R Q : List Int) (t u : Sl), Dg B R ∧ R.length = rest.length ∧ Dg B Q ∧ Q.length = N ∧ (∀ j, j < N - k → Q.getD j 0 = 0) ∧ val B rest = val B Q * val B b + val B R ∧ val B (R.drop (N - k)) < val B b ∧ σ = [.own (.ints R), .val (.ints b), .val (.int (w : Int)), .val (.int (b.length : Int)), .own (.ints Q), t, u]) (fun _ _ => False) ⟨rest, _, _, _, dR, rfl, Dg.rep (by lia) _, by simp, fun j _ => getD_rep _ j, by rw [val_rep]; lia, hini, rfl⟩ ?_ ?_ (fun _ _ h => h.elim)
    · rintro k σ K hk ⟨R, Q, t, u, dF, lF, dQ, lQ, hz, hv, hd, rfl⟩ hK -
      obtain ⟨i, hi⟩ : ∃ i, N = i + 1 + k := ⟨N - 1 - k, by lia⟩
      have hat : (rest.length : Int) - (b.length : Int) - 1 - (k : Int) = (i : Int) := by lia
      have hb1 : ((b.length : Int) - 1).toNat = b.length - 1 := by lia
      have hb2 : ((b.length : Int) - 2).toNat = b.length - 2 := by lia
      ((try dsimp only [zaa, zab, zac, zad, zae, zaf, zag, zah, zai, zaj, zak, zal, zam, zan, zao, zap, zaq, zar, zas, zat, zau, zav, zaw, zax, zay, zaz, zba, zbb, zbc, zbd, zbe, zbf, zbg, zbh, zbi, zbj, zbk, zbl, zbm, zbn, zbo, zbp, zbq, zbr, zbs, zbt, zbu, zbv, zbw, zbx, zby, zbz, zca, zcb, zcc, zcd, zce, zcf, zcg, zch, zci, zcj, zck, zcl, zcm, zcn, zco, zcp, zcq, zcr, zcs, zct, zcu, zcv, zcw, zcx, zcy, zcz, zda, zdb, zdc, zdd, zde, zdf, zdg, zdh, zdi, zdj, zdk, zdl, zdm, zdn, zdo, zdp, zdq, zdr, zds, zdt, zdu, zdv, zdw, zdx, zdy, zdz, zea, zeb, zec, zed, zee, zef, zeg, zeh, zei, zej, zek, zel, zem, zen, zeo, zep, zeq, zer, zes, zet, zeu, zev, zew, zex, zey, zez, zfa, zfb, zfc, zfd, zfe, zff, zfg, zfh, zfi, zfj, zfk, zfl, zfm, zfn, zfo, zfp, zfq, zfr, zfs, zft, zfu, zfv, zfw, zfx, zfy, zfz, zga, zgb, zgc, Nat.reduceAdd]); (try simp only [zgd, zge, zgf, zgg, true_and, and_true, hat, hb1, hb2]); (try dsimp only [zaa, zab, zac, zad, zae, zaf, zag, zah, zai, zaj, zak, zal, zam, zan, zao, zap, zaq, zar, zas, zat, zau, zav, zaw, zax, zay, zaz, zba, zbb, zbc, zbd, zbe, zbf, zbg, zbh, zbi, zbj, zbk, zbl, zbm, zbn, zbo, zbp, zbq, zbr, zbs, zbt, zbu, zbv, zbw, zbx, zby, zbz, zca, zcb, zcc, zcd, zce, zcf, zcg, zch, zci, zcj, zck, zcl, zcm, zcn, zco, zcp, zcq, zcr, zcs, zct, zcu, zcv, zcw, zcx, zcy, zcz, zda, zdb, zdc, zdd, zde, zdf, zdg, zdh, zdi, zdj, zdk, zdl, zdm, zdn, zdo, zdp, zdq, zdr, zds, zdt, zdu, zdv, zdw, zdx, zdy, zdz, zea, zeb, zec, zed, zee, zef, zeg, zeh, zei, zej, zek, zel, zem, zen, zeo, zep, zeq, zer, zes, zet, zeu, zev, zew, zex, zey, zez, zfa, zfb, zfc, zfd, zfe, zff, zfg, zfh, zfi, zfj, zfk, zfl, zfm, zfn, zfo, zfp, zfq, zfr, zfs, zft, zfu, zfv, zfw, zfx, zfy, zfz, zga, zgb, zgc, Nat.reduceAdd]))
      rw [pick_run' R _ _ (by lia) (by lia) (by lia), show ((i : Int) + b.length + 1 - ((i : Int) + b.length - 2)).toNat = 3 by lia, show ((i : Int) + b.length - 2).toNat = i + b.length - 2 by lia, take3 R _ (by lia)]
      have ht0 := dF.getD (by lia) (i + b.length - 2)
      have ht1 := dF.getD (by lia) (i + b.length - 2 + 1)
      have ht2 := dF.getD (by lia) (i + b.length - 2 + 2)
      refine ⟨by lia, by lia, by lia, by lia, ?_⟩
      refine ⟨w, (R.getD (i + b.length - 2) 0).toNat, (R.getD (i + b.length - 2 + 1) 0).toNat, (R.getD (i + b.length - 2 + 2) 0).toNat, (b.getD (b.length - 1) 0).toNat, (b.getD (b.length - 2) 0).toNat, ⟨hw, by lia, by lia, by lia, by lia, by lia, by lia⟩, ?_, ?_⟩
      · simp only [iv]
        rw [Int.toNat_of_nonneg ht0.1, Int.toNat_of_nonneg ht1.1, Int.toNat_of_nonneg ht2.1, Int.toNat_of_nonneg hf.1, Int.toNat_of_nonneg hs.1]
      rw [hBe]
      ((try dsimp only [zaa, zab, zac, zad, zae, zaf, zag, zah, zai, zaj, zak, zal, zam, zan, zao, zap, zaq, zar, zas, zat, zau, zav, zaw, zax, zay, zaz, zba, zbb, zbc, zbd, zbe, zbf, zbg, zbh, zbi, zbj, zbk, zbl, zbm, zbn, zbo, zbp, zbq, zbr, zbs, zbt, zbu, zbv, zbw, zbx, zby, zbz, zca, zcb, zcc, zcd, zce, zcf, zcg, zch, zci, zcj, zck, zcl, zcm, zcn, zco, zcp, zcq, zcr, zcs, zct, zcu, zcv, zcw, zcx, zcy, zcz, zda, zdb, zdc, zdd, zde, zdf, zdg, zdh, zdi, zdj, zdk, zdl, zdm, zdn, zdo, zdp, zdq, zdr, zds, zdt, zdu, zdv, zdw, zdx, zdy, zdz, zea, zeb, zec, zed, zee, zef, zeg, zeh, zei, zej, zek, zel, zem, zen, zeo, zep, zeq, zer, zes, zet, zeu, zev, zew, zex, zey, zez, zfa, zfb, zfc, zfd, zfe, zff, zfg, zfh, zfi, zfj, zfk, zfl, zfm, zfn, zfo, zfp, zfq, zfr, zfs, zft, zfu, zfv, zfw, zfx, zfy, zfz, zga, zgb, zgc, Nat.reduceAdd]); (try simp only [zgd, zge, zgf, zgg, true_and, and_true]))
      obtain ⟨T, hT⟩ : ∃ T : Nat, ((R.getD (i + b.length - 2 + 2) 0).toNat * B + (R.getD (i + b.length - 2 + 1) 0).toNat) * B + (R.getD (i + b.length - 2) 0).toNat = T := ⟨_, rfl⟩
      obtain ⟨S, hS⟩ : ∃ S : Nat, (b.getD (b.length - 1) 0).toNat * B + (b.getD (b.length - 2) 0).toNat = S := ⟨_, rfl⟩
      rw [hT, hS]
      have hSB : B ≤ S := by
        have : 1 * B ≤ (b.getD (b.length - 1) 0).toNat * B := Nat.mul_le_mul_right _ (by lia)
        lia
      have hTc : (T : Int) = (R.getD (i + b.length - 2 + 2) 0 * B + R.getD (i + b.length - 2 + 1) 0) * B + R.getD (i + b.length - 2) 0 := by
        rw [← hT, Int.natCast_add, Int.natCast_mul, Int.natCast_add, Int.natCast_mul, Int.toNat_of_nonneg ht0.1, Int.toNat_of_nonneg ht1.1, Int.toNat_of_nonneg ht2.1]
      have hSc : (S : Int) = b.getD (b.length - 1) 0 * B + b.getD (b.length - 2) 0 := by
        rw [← hS, Int.natCast_add, Int.natCast_mul, Int.toNat_of_nonneg hf.1, Int.toNat_of_nonneg hs.1]
      have hRl : i + (b.length + 1) ≤ R.length := by lia
      obtain ⟨pre, hpre⟩ : ∃ pre, R.take i = pre := ⟨_, rfl⟩
      obtain ⟨win, hwin⟩ : ∃ win, (R.drop i).take (b.length + 1) = win := ⟨_, rfl⟩
      obtain ⟨post, hpost⟩ : ∃ post, (R.drop i).drop (b.length + 1) = post := ⟨_, rfl⟩
      have hsplit : R = pre ++ win ++ post := by rw [← hpre, ← hwin, ← hpost, List.append_assoc, List.take_append_drop, List.take_append_drop]
      have lpre : pre.length = i := by rw [← hpre, List.length_take_of_le (by lia)]
      have lwin : win.length = b.length + 1 := by rw [← hwin, List.length_take_of_le (by rw [List.length_drop]; lia)]
      have dpre : Dg B pre := by rw [← hpre]; exact dF.take _
      have dwin : Dg B win := by rw [← hwin]; exact (dF.drop _).take _
      have dpost : Dg B post := by rw [← hpost]; exact (dF.drop _).drop _
      have gwin : ∀ j, j < b.length + 1 → win.getD j 0 = R.getD (i + j) 0 := by
        intro j hj
        rw [← hwin, List.getD_eq_getElem?_getD, List.getD_eq_getElem?_getD, List.getElem?_take_of_lt hj, List.getElem?_drop]
      have vwin := val_top3 (B : Int) win (b.length - 2) (by lia)
      rw [gwin _ (by lia), gwin _ (by lia), gwin _ (by lia), show i + (b.length - 2) = i + b.length - 2 by lia, show i + (b.length - 2 + 1) = i + b.length - 2 + 1 by lia, show i + (b.length - 2 + 2) = i + b.length - 2 + 2 by lia, ← hTc] at vwin
      rw [← hSc] at vtop
      have hwl := val_lt (dwin.take (b.length - 2))
      rw [List.length_take_of_le (by lia)] at hwl
      have hwl0 := val_nonneg (dwin.take (b.length - 2))
      have hvp := val_append (B : Int) win post
      have hdropi : R.drop i = win ++ post := by rw [← hwin, ← hpost, List.take_append_drop]
      have hvd := val_drop (B : Int) R i
      rw [hdropi, hvp, lwin, show i + 1 = N - k by lia] at hvd
      have hRi := dF.getD (by lia) i
      have hp1 : (B : Int) ^ (b.length + 1) = B * (B : Int) ^ b.length := by rw [Int.pow_succ, Int.mul_comm]
      have hBV : (B : Int) * (val B b + 1) ≤ B * (B : Int) ^ b.length := Int.mul_le_mul_of_nonneg_left (by lia) (by lia)
      have hBD : (B : Int) * (val B (R.drop (N - k)) + 1) ≤ B * val B b := Int.mul_le_mul_of_nonneg_left (by lia) (by lia)
      rw [Int.mul_add] at hBV hBD
      have hw0 := val_nonneg dwin
      have hpost0 : val B post = 0 := by
        have h0 := val_nonneg dpost
        rcases (show val B post = 0 ∨ 1 ≤ val B post by lia) with e | e
        · exact e
        · have : (B : Int) ^ (b.length + 1) * 1 ≤ (B : Int) ^ (b.length + 1) * val B post := Int.mul_le_mul_of_nonneg_left e (Int.le_of_lt (pow_pos' hB _))
          lia
      rw [hpost0, Int.mul_zero, Int.add_zero] at hvd
      have hWV : val B win < B * val B b := by lia
      have hβc : ((B ^ (b.length - 2) : Nat) : Int) = (B : Int) ^ (b.length - 2) := Int.natCast_pow _ _
      have hVc : (((val B (b.take (b.length - 2))).toNat + B ^ (b.length - 2) * S : Nat) : Int) = val B b := by
        rw [Int.natCast_add, Int.natCast_mul, hβc, Int.toNat_of_nonneg hvl0, ← vtop]
      have hWc : (((val B (win.take (b.length - 2))).toNat + B ^ (b.length - 2) * T : Nat) : Int) = val B win := by
        rw [Int.natCast_add, Int.natCast_mul, hβc, Int.toNat_of_nonneg hwl0, ← vwin]
      obtain ⟨kn1, kn2⟩ := knuth (B := B) (β := B ^ (b.length - 2)) (S := S) (T := T) (vlo := (val B (b.take (b.length - 2))).toNat) (wlo := (val B (win.take (b.length - 2))).toNat) (by lia) (Nat.pow_pos (by lia)) hSB (by lia) (by lia) (by
        have : (((val B (win.take (b.length - 2))).toNat + B ^ (b.length - 2) * T : Nat) : Int) < ((B * ((val B (b.take (b.length - 2))).toNat + B ^ (b.length - 2) * S) : Nat) : Int) := by
          rw [hWc, Int.natCast_mul, hVc]
          exact hWV
        lia)
      have hq1 : min (T / S) (B - 1) ≤ B - 1 := Nat.min_le_right _ _
      generalize min (T / S) (B - 1) = q at *
      have kn1' : val B win < ((q : Int) + 1) * val B b := by
        have h := Int.ofNat_lt.mpr kn1
        rw [hWc, Int.natCast_mul, hVc, Int.natCast_add] at h
        exact h
      have kn2' : (q : Int) * val B b < val B win + val B b := by
        have h := Int.ofNat_lt.mpr kn2
        rw [Int.natCast_mul, hVc, Int.natCast_add, hWc, hVc] at h
        exact h
      have fin : ∀ (winf : List Int) (qf : Nat), Dg B winf → winf.length = win.length → val B winf = val B win - qf * val B b → val B winf < val B b → qf < B → (0 ≤ (i : Int) ∧ (i : Int) < (Q.length : Int) ∧ K .next [.own (.ints (pre ++ winf ++ post)), .val (.ints b), .val (.int (w : Int)), .val (.int (b.length : Int)), .own (.ints (Q.set i (qf : Int))), .val (.int (i : Int)), .val (.int (qf : Int))]) := by
        intro winf qf dwf lwf hvf hlt hqf
        refine ⟨by lia, by lia, hK _ ⟨_, _, _, _, (dpre.append dwf).append dpost, ?_, dQ.set i (by lia) (by lia), by simp [lQ], ?_, ?_, ?_, rfl⟩⟩
        · have := congrArg List.length hsplit
          simp only [List.length_append] at this ⊢
          lia
        · intro j hj
          rw [getD_set_ne _ _ _ _ (by lia)]; exact hz j (by lia)
        · rw [val_set _ _ _ _ (by lia), hz i (by lia), hv, hsplit, val_append, val_append, val_append, val_append, hvf, hpost0, lpre]
          grind
        · rw [show N - (k + 1) = pre.length by lia, List.append_assoc, List.drop_left, val_append, hpost0, Int.mul_zero, Int.add_zero]
          exact hlt
      refine ⟨w, q, pre, win, post, b, ⟨hw, by rw [hBe]; exact dwin, by rw [hBe]; exact dB, lwin, by lia, by rw [← hsplit]; lia⟩, by rw [hsplit], by simp only [iv, lpre], ?_⟩
      intro win' r dw' lw' hr hv'
      rw [hBe] at dw' hv'
      have hlt' := val_lt dw'
      have hge' := val_nonneg dw'
      rw [lw'] at hlt'
      ((try dsimp only [zaa, zab, zac, zad, zae, zaf, zag, zah, zai, zaj, zak, zal, zam, zan, zao, zap, zaq, zar, zas, zat, zau, zav, zaw, zax, zay, zaz, zba, zbb, zbc, zbd, zbe, zbf, zbg, zbh, zbi, zbj, zbk, zbl, zbm, zbn, zbo, zbp, zbq, zbr, zbs, zbt, zbu, zbv, zbw, zbx, zby, zbz, zca, zcb, zcc, zcd, zce, zcf, zcg, zch, zci, zcj, zck, zcl, zcm, zcn, zco, zcp, zcq, zcr, zcs, zct, zcu, zcv, zcw, zcx, zcy, zcz, zda, zdb, zdc, zdd, zde, zdf, zdg, zdh, zdi, zdj, zdk, zdl, zdm, zdn, zdo, zdp, zdq, zdr, zds, zdt, zdu, zdv, zdw, zdx, zdy, zdz, zea, zeb, zec, zed, zee, zef, zeg, zeh, zei, zej, zek, zel, zem, zen, zeo, zep, zeq, zer, zes, zet, zeu, zev, zew, zex, zey, zez, zfa, zfb, zfc, zfd, zfe, zff, zfg, zfh, zfi, zfj, zfk, zfl, zfm, zfn, zfo, zfp, zfq, zfr, zfs, zft, zfu, zfv, zfw, zfx, zfy, zfz, zga, zgb, zgc, Nat.reduceAdd]); (try simp only [zgd, zge, zgf, zgg, true_and, and_true]))
      refine ⟨fun hr1 => ?_, fun hr1 => ?_⟩
      · have hr1' : r = 1 := by lia
        subst hr1'
        have hneg : val B win < q * val B b := by lia
        have hq0 : 0 < q := by
          rcases Nat.eq_zero_or_pos q with e | e
          · rw [e, show ((0 : Nat) : Int) = 0 from rfl, Int.zero_mul] at hneg; lia
          · exact e
        refine ⟨w, pre, win', post, b, ⟨hw, by rw [hBe]; exact dw', by rw [hBe]; exact dB, by lia, ?_⟩, rfl, by simp only [iv, lpre], ?_⟩
        · have := congrArg List.length hsplit
          simp only [List.length_append] at this ⊢
          lia
        intro win'' c dw'' lw'' hc hv''
        rw [hBe] at dw'' hv''
        have hlt'' := val_lt dw''
        have hge'' := val_nonneg dw''
        rw [lw'', lw'] at hlt''
        rw [lw', hv'] at hv''
        simp only [zeq]
        have hqc : ((q : Int) - 1) = ((q - 1 : Nat) : Int) := by lia
        have hc1 : c = 1 := by
          rcases (show c = 0 ∨ c = 1 by lia) with e | e
          · rw [e] at hv''; lia
          · exact e
        subst hc1
        have hfin : val B win'' = val B win - ((q - 1 : Nat) : Int) * val B b := by rw [hv'', ← hqc]; grind
        rw [hqc]
        exact fin win'' (q - 1) dw'' (by lia) hfin (by lia) (by lia)
      · have hr0 : r = 0 := by lia
        subst hr0
        rw [show ((0 : Nat) : Int) = 0 from rfl, Int.zero_mul, Int.add_zero] at hv'
        have h1 : ((q : Int) + 1) * val B b = q * val B b + val B b := by rw [Int.add_mul, Int.one_mul]
        exact fin win' q dw' lw' hv' (by lia) (by lia)
    · rintro σ' ⟨R, Q, t, u, dF, lF, dQ, lQ, hz, hv, hd, rfl⟩
      ((try dsimp only [zaa, zab, zac, zad, zae, zaf, zag, zah, zai, zaj, zak, zal, zam, zan, zao, zap, zaq, zar, zas, zat, zau, zav, zaw, zax, zay, zaz, zba, zbb, zbc, zbd, zbe, zbf, zbg, zbh, zbi, zbj, zbk, zbl, zbm, zbn, zbo, zbp, zbq, zbr, zbs, zbt, zbu, zbv, zbw, zbx, zby, zbz, zca, zcb, zcc, zcd, zce, zcf, zcg, zch, zci, zcj, zck, zcl, zcm, zcn, zco, zcp, zcq, zcr, zcs, zct, zcu, zcv, zcw, zcx, zcy, zcz, zda, zdb, zdc, zdd, zde, zdf, zdg, zdh, zdi, zdj, zdk, zdl, zdm, zdn, zdo, zdp, zdq, zdr, zds, zdt, zdu, zdv, zdw, zdx, zdy, zdz, zea, zeb, zec, zed, zee, zef, zeg, zeh, zei, zej, zek, zel, zem, zen, zeo, zep, zeq, zer, zes, zet, zeu, zev, zew, zex, zey, zez, zfa, zfb, zfc, zfd, zfe, zff, zfg, zfh, zfi, zfj, zfk, zfl, zfm, zfn, zfo, zfp, zfq, zfr, zfs, zft, zfu, zfv, zfw, zfx, zfy, zfz, zga, zgb, zgc, Nat.reduceAdd]); (try simp only [zgd, zge, zgf, zgg, true_and, and_true]))
      rw [Nat.sub_self, List.drop_zero] at hd
      exact hG Q R dQ dF lF (by lia) hv hd
end Mine

open PySem PySem.Calls PyProof.Rows
set_option Elab.async false
set_option maxRecDepth 100000
set_option maxHeartbeats 4000000
namespace Mine
theorem law_least_w {prog : Program} {w : World} {h0 : Heap} {mg mb : Str → Option Value} {ads : Ads} (S : Stat h0 mg mb) (T : Tops h0 mg ads) : FnOk prog w h0 2 (ads 47) (P_law_least ads) := by
  refine' fnOk_of (d := 1) S T.law_least ["top", "bottom", "w"] ["here", "there"] ?hb ?hl ?hn rfl rfl rfl ?hc (fun A L cd O => ?hB) (P_law_least ads) ?hP
  case hb =>
    intro pm cd doc vs h
    exact vs3 (P := fun vs => bindArgs _ ⟨vs, []⟩ = pure (List.zip _ vs)) (by intros; rfl) h
  case hl => decide
  case hn => decide
  case hc => decide
  case hB =>
    exact (SSs.cons (SS.assignTS O [(3, "here", ⟨0, 0, 0, 0⟩), (4, "there", ⟨0, 0, 0, 0⟩)] (SR.val (SE.name O 0 "top" _ rfl) (SR.val (SE.name O 1 "bottom" _ rfl) SR.nil)) _ _ _ _ _ (all2 ⟨rfl, (.inl ⟨rfl, rfl⟩)⟩ ⟨rfl, (.inl ⟨rfl, rfl⟩)⟩))
    (SSs.cons (SS.while O (STr.cmp O gt_ok (SE.name O 4 "there" _ rfl) (SE.int 0 _ _) _) (SSs.cons (SS.assignTS O [(3, "here", ⟨0, 0, 0, 0⟩), (4, "there", ⟨0, 0, 0, 0⟩)] (SR.val (SE.name O 4 "there" _ rfl) (SR.val (SE.bin fmod_ok (SE.name O 3 "here" _ rfl) (SE.name O 4 "there" _ rfl) _) SR.nil)) _ _ _ _ _ (all2 ⟨rfl, (.inl ⟨rfl, rfl⟩)⟩ ⟨rfl, (.inl ⟨rfl, rfl⟩)⟩))
    SSs.nil) _)
    (SSs.cons (SS.ret (SE.tuple (SEs.cons (SE.tuple (SEs.cons (SE.bool false _ _) (SEs.cons (SE.call O ((law_limbs_w S T).mono (by decide)) "_law_limbs" (SEs.cons (SE.bin fdiv_ok (SE.name O 0 "top" _ rfl) (SE.name O 3 "here" _ rfl) _) (SEs.cons (SE.name O 2 "w" _ rfl) SEs.nil)) _ _ rfl T.law_limbs.gname) SEs.nil)) _ _) (SEs.cons (SE.call O ((law_limbs_w S T).mono (by decide)) "_law_limbs" (SEs.cons (SE.bin fdiv_ok (SE.name O 1 "bottom" _ rfl) (SE.name O 3 "here" _ rfl) _) (SEs.cons (SE.name O 2 "w" _ rfl) SEs.nil)) _ _ rfl T.law_limbs.gname) SEs.nil)) _ _) _)
    SSs.nil)))
  case hP =>
    intro xs G h
    obtain ⟨w, t, b, ⟨hw, ht, hb, hb0⟩, rfl, hG⟩ := h
    refine ⟨rfl, ?_⟩
    have hB := B2 hw
    rw [qv_mk hb0] at hG
    have dn : decide ((t : Int) < 0) = false := by apply decide_eq_false; lia
    ((try dsimp only [zaa, zab, zac, zad, zae, zaf, zag, zah, zai, zaj, zak, zal, zam, zan, zao, zap, zaq, zar, zas, zat, zau, zav, zaw, zax, zay, zaz, zba, zbb, zbc, zbd, zbe, zbf, zbg, zbh, zbi, zbj, zbk, zbl, zbm, zbn, zbo, zbp, zbq, zbr, zbs, zbt, zbu, zbv, zbw, zbx, zby, zbz, zca, zcb, zcc, zcd, zce, zcf, zcg, zch, zci, zcj, zck, zcl, zcm, zcn, zco, zcp, zcq, zcr, zcs, zct, zcu, zcv, zcw, zcx, zcy, zcz, zda, zdb, zdc, zdd, zde, zdf, zdg, zdh, zdi, zdj, zdk, zdl, zdm, zdn, zdo, zdp, zdq, zdr, zds, zdt, zdu, zdv, zdw, zdx, zdy, zdz, zea, zeb, zec, zed, zee, zef, zeg, zeh, zei, zej, zek, zel, zem, zen, zeo, zep, zeq, zer, zes, zet, zeu, zev, zew, zex, zey, zez, zfa, zfb, zfc, zfd, zfe, zff, zfg, zfh, zfi, zfj, zfk, zfl, zfm, zfn, zfo, zfp, zfq, zfr, zfs, zft, zfu, zfv, zfw, zfx, zfy, zfz, zga, zgb, zgc, Nat.reduceAdd] at hG ⊢); (try simp only [zgd, zge, zgf, zgg, true_and, and_true, dn, Int.natAbs_natCast] at hG ⊢); (try dsimp only [zaa, zab, zac, zad, zae, zaf, zag, zah, zai, zaj, zak, zal, zam, zan, zao, zap, zaq, zar, zas, zat, zau, zav, zaw, zax, zay, zaz, zba, zbb, zbc, zbd, zbe, zbf, zbg, zbh, zbi, zbj, zbk, zbl, zbm, zbn, zbo, zbp, zbq, zbr, zbs, zbt, zbu, zbv, zbw, zbx, zby, zbz, zca, zcb, zcc, zcd, zce, zcf, zcg, zch, zci, zcj, zck, zcl, zcm, zcn, zco, zcp, zcq, zcr, zcs, zct, zcu, zcv, zcw, zcx, zcy, zcz, zda, zdb, zdc, zdd, zde, zdf, zdg, zdh, zdi, zdj, zdk, zdl, zdm, zdn, zdo, zdp, zdq, zdr, zds, zdt, zdu, zdv, zdw, zdx, zdy, zdz, zea, zeb, zec, zed, zee, zef, zeg, zeh, zei, zej, zek, zel, zem, zen, zeo, zep, zeq, zer, zes, zet, zeu, zev, zew, zex, zey, zez, zfa, zfb, zfc, zfd, zfe, zff, zfg, zfh, zfi, zfj, zfk, zfl, zfm, zfn, zfo, zfp, zfq, zfr, zfs, zft, zfu, zfv, zfw, zfx, zfy, zfz, zga, zgb, zgc, Nat.reduceAdd] at hG ⊢))
    refine ⟨by decide, ?_⟩
    have hg0 : 0 < Nat.gcd t b := Nat.gcd_pos_of_pos_right _ hb0
    refine whN_inv (fun k σ => ∃ a : Nat, Nat.gcd a k = Nat.gcd t b ∧ σ = [.val (.int (t : Int)), .val (.int (b : Int)), .val (.int (w : Int)), .val (.int (a : Int)), .val (.int (k : Int))]) (fun _ _ => False) b _ ⟨t, rfl, rfl⟩ ?_ (fun _ _ h => h.elim)
    rintro k σ K ⟨a, hg, rfl⟩ hK -
    ((try dsimp only [zaa, zab, zac, zad, zae, zaf, zag, zah, zai, zaj, zak, zal, zam, zan, zao, zap, zaq, zar, zas, zat, zau, zav, zaw, zax, zay, zaz, zba, zbb, zbc, zbd, zbe, zbf, zbg, zbh, zbi, zbj, zbk, zbl, zbm, zbn, zbo, zbp, zbq, zbr, zbs, zbt, zbu, zbv, zbw, zbx, zby, zbz, zca, zcb, zcc, zcd, zce, zcf, zcg, zch, zci, zcj, zck, zcl, zcm, zcn, zco, zcp, zcq, zcr, zcs, zct, zcu, zcv, zcw, zcx, zcy, zcz, zda, zdb, zdc, zdd, zde, zdf, zdg, zdh, zdi, zdj, zdk, zdl, zdm, zdn, zdo, zdp, zdq, zdr, zds, zdt, zdu, zdv, zdw, zdx, zdy, zdz, zea, zeb, zec, zed, zee, zef, zeg, zeh, zei, zej, zek, zel, zem, zen, zeo, zep, zeq, zer, zes, zet, zeu, zev, zew, zex, zey, zez, zfa, zfb, zfc, zfd, zfe, zff, zfg, zfh, zfi, zfj, zfk, zfl, zfm, zfn, zfo, zfp, zfq, zfr, zfs, zft, zfu, zfv, zfw, zfx, zfy, zfz, zga, zgb, zgc, Nat.reduceAdd]); (try simp only [zgd, zge, zgf, zgg, true_and, and_true]))
    refine ⟨fun h => ?_, fun h => ?_⟩
    · have hm := Nat.mod_lt a (show k > 0 by lia)
      rw [fm (by lia), ← Int.natCast_emod]
      refine ⟨by lia, by decide, hK (a % k) _ hm ⟨k, ?_, rfl⟩⟩
      rw [Nat.gcd_comm, ← Nat.gcd_rec, Nat.gcd_comm]; exact hg
    · have hk0 : k = 0 := by lia
      rw [hk0, Nat.gcd_zero_right] at hg
      rw [hg, fd (by lia), fd (by lia), ← Int.natCast_ediv, ← Int.natCast_ediv]
      have hgb : Nat.gcd t b ≤ b := Nat.gcd_le_right _ hb0
      have h1 : t / Nat.gcd t b ≤ t := Nat.div_le_self _ _
      have h2 : b / Nat.gcd t b ≤ b := Nat.div_le_self _ _
      refine ⟨by lia, by lia, w, t / Nat.gcd t b, ⟨hw, by lia⟩, rfl, by lia, by lia, w, b / Nat.gcd t b, ⟨hw, by lia⟩, rfl, ?_⟩
      exact hG
end Mine

open PySem PySem.Calls PyProof.Rows
set_option Elab.async false
set_option maxRecDepth 100000
set_option maxHeartbeats 4000000
namespace Mine
theorem s_add_w {prog : Program} {w : World} {h0 : Heap} {mg mb : Str → Option Value} {ads : Ads} (S : Stat h0 mg mb) (T : Tops h0 mg ads) : FnOk prog w h0 3 (ads 18) (P_s_add ads) := by
  refine' fnOk_of (d := 2) S T.s_add ["x", "y", "w"] [] ?hb ?hl ?hn rfl rfl rfl ?hc (fun A L cd O => ?hB) (P_s_add ads) ?hP
  case hb =>
    intro pm cd doc vs h
    exact vs3 (P := fun vs => bindArgs _ ⟨vs, []⟩ = pure (List.zip _ vs)) (by intros; rfl) h
  case hl => decide
  case hn => decide
  case hc => decide
  case hB =>
    exact (SSs.cons (SS.ite (STr.cmp O eq_ok (SE.item (SB.of (SE.name O 0 "x" _ rfl)) (SE.int 0 _ _) _) (SE.item (SB.of (SE.name O 1 "y" _ rfl)) (SE.int 0 _ _) _) _) (SSs.cons (SS.ret (SE.call O ((signed_w S T).mono (by decide)) "signed" (SEs.cons (SE.item (SB.of (SE.name O 0 "x" _ rfl)) (SE.int 0 _ _) _) (SEs.cons (SE.call O ((add_w S T).mono (by decide)) "add" (SEs.cons (SE.item (SB.of (SE.name O 0 "x" _ rfl)) (SE.int 1 _ _) _) (SEs.cons (SE.item (SB.of (SE.name O 1 "y" _ rfl)) (SE.int 1 _ _) _) (SEs.cons (SE.name O 2 "w" _ rfl) SEs.nil))) _ _ rfl T.add.gname) SEs.nil)) _ _ rfl T.signed.gname) _)
    SSs.nil) SSs.nil _)
    (SSs.cons (SS.ite (STr.cmp O lt_ok (SE.call O ((compare_w S T).mono (by decide)) "compare" (SEs.cons (SE.item (SB.of (SE.name O 0 "x" _ rfl)) (SE.int 1 _ _) _) (SEs.cons (SE.item (SB.of (SE.name O 1 "y" _ rfl)) (SE.int 1 _ _) _) SEs.nil)) _ _ rfl T.compare.gname) (SE.int 0 _ _) _) (SSs.cons (SS.ret (SE.call O ((signed_w S T).mono (by decide)) "signed" (SEs.cons (SE.item (SB.of (SE.name O 1 "y" _ rfl)) (SE.int 0 _ _) _) (SEs.cons (SE.call O ((sub_w S T).mono (by decide)) "sub" (SEs.cons (SE.item (SB.of (SE.name O 1 "y" _ rfl)) (SE.int 1 _ _) _) (SEs.cons (SE.item (SB.of (SE.name O 0 "x" _ rfl)) (SE.int 1 _ _) _) (SEs.cons (SE.name O 2 "w" _ rfl) SEs.nil))) _ _ rfl T.sub.gname) SEs.nil)) _ _ rfl T.signed.gname) _)
    SSs.nil) SSs.nil _)
    (SSs.cons (SS.ret (SE.call O ((signed_w S T).mono (by decide)) "signed" (SEs.cons (SE.item (SB.of (SE.name O 0 "x" _ rfl)) (SE.int 0 _ _) _) (SEs.cons (SE.call O ((sub_w S T).mono (by decide)) "sub" (SEs.cons (SE.item (SB.of (SE.name O 0 "x" _ rfl)) (SE.int 1 _ _) _) (SEs.cons (SE.item (SB.of (SE.name O 1 "y" _ rfl)) (SE.int 1 _ _) _) (SEs.cons (SE.name O 2 "w" _ rfl) SEs.nil))) _ _ rfl T.sub.gname) SEs.nil)) _ _ rfl T.signed.gname) _)
    SSs.nil)))
  case hP =>
    intro xs G h
    obtain ⟨w, y, z, ⟨hw, hy, hz⟩, rfl, hG⟩ := h
    refine ⟨rfl, ?_⟩
    ((try dsimp only [zaa, zab, zac, zad, zae, zaf, zag, zah, zai, zaj, zak, zal, zam, zan, zao, zap, zaq, zar, zas, zat, zau, zav, zaw, zax, zay, zaz, zba, zbb, zbc, zbd, zbe, zbf, zbg, zbh, zbi, zbj, zbk, zbl, zbm, zbn, zbo, zbp, zbq, zbr, zbs, zbt, zbu, zbv, zbw, zbx, zby, zbz, zca, zcb, zcc, zcd, zce, zcf, zcg, zch, zci, zcj, zck, zcl, zcm, zcn, zco, zcp, zcq, zcr, zcs, zct, zcu, zcv, zcw, zcx, zcy, zcz, zda, zdb, zdc, zdd, zde, zdf, zdg, zdh, zdi, zdj, zdk, zdl, zdm, zdn, zdo, zdp, zdq, zdr, zds, zdt, zdu, zdv, zdw, zdx, zdy, zdz, zea, zeb, zec, zed, zee, zef, zeg, zeh, zei, zej, zek, zel, zem, zen, zeo, zep, zeq, zer, zes, zet, zeu, zev, zew, zex, zey, zez, zfa, zfb, zfc, zfd, zfe, zff, zfg, zfh, zfi, zfj, zfk, zfl, zfm, zfn, zfo, zfp, zfq, zfr, zfs, zft, zfu, zfv, zfw, zfx, zfy, zfz, zga, zgb, zgc, Nat.reduceAdd] at hG ⊢); (try simp only [zgd, zge, zgf, zgg, true_and, and_true] at hG ⊢))
    have hs : ∀ (b : Bool) (n : Nat), (b && decide (n ≠ 0)) = decide (y + z < 0) → n = (y + z).natAbs → P_signed ads [.bool b, .ints (limbs (2 ^ w) n)] fun a => G a := by
      intro b n hb hn
      refine ⟨w, b, n, hw, rfl, ?_⟩
      rw [hb, hn]; exact hG
    have hcmp : ∀ (H : PV → Prop), H (.int (Int.sign (y.natAbs - z.natAbs))) → P_compare ads [.ints (limbs (2 ^ w) y.natAbs), .ints (limbs (2 ^ w) z.natAbs)] H := fun H h => ⟨w, y.natAbs, z.natAbs, ⟨hw, hy, hz⟩, rfl, h⟩
    have hsub : ∀ (m n : Nat) (H : PV → Prop), m < 2 ^ 400 → n ≤ m → H (.ints (limbs (2 ^ w) (m - n))) → P_sub ads [.ints (limbs (2 ^ w) m), .ints (limbs (2 ^ w) n), .int (w : Int)] H := fun m n H hm hn h => ⟨w, m, n, ⟨hw, hm, hn⟩, rfl, h⟩
    have hadd : ∀ (m n : Nat) (H : PV → Prop), m < 2 ^ 400 → n < 2 ^ 400 → H (.ints (limbs (2 ^ w) (m + n))) → P_add ads [.ints (limbs (2 ^ w) m), .ints (limbs (2 ^ w) n), .int (w : Int)] H := fun m n H hm hn h => ⟨w, m, n, ⟨hw, hm, hn⟩, rfl, h⟩
    clear hG
    have hsame : decide (y < 0) = decide (z < 0) → P_add ads [PV.ints (limbs (2 ^ w) y.natAbs), PV.ints (limbs (2 ^ w) z.natAbs), PV.int (w : Int)] fun b => P_signed ads [PV.bool (decide (y < 0)), b] fun a => G a := by
      intro e
      refine hadd _ _ _ hy hz (hs _ _ ?_ ?_)
      · rw [← Bool.decide_and]; exact decide_eq_decide.mpr (sgn_same (decide_eq_decide.mp e)).1
      · exact (sgn_same (decide_eq_decide.mp e)).2
    by_cases e : decide (y < 0) = decide (z < 0)
    · rw [show (decide (y < 0) == decide (z < 0)) = true by rw [e]; simp, zgf]
      exact hsame e
    rw [show (decide (y < 0) == decide (z < 0)) = false by simpa using e, zgg]
    have e' : ¬ (y < 0 ↔ z < 0) := fun h => e (decide_eq_decide.mpr h)
    refine hcmp _ ?_
    ((try dsimp only [zaa, zab, zac, zad, zae, zaf, zag, zah, zai, zaj, zak, zal, zam, zan, zao, zap, zaq, zar, zas, zat, zau, zav, zaw, zax, zay, zaz, zba, zbb, zbc, zbd, zbe, zbf, zbg, zbh, zbi, zbj, zbk, zbl, zbm, zbn, zbo, zbp, zbq, zbr, zbs, zbt, zbu, zbv, zbw, zbx, zby, zbz, zca, zcb, zcc, zcd, zce, zcf, zcg, zch, zci, zcj, zck, zcl, zcm, zcn, zco, zcp, zcq, zcr, zcs, zct, zcu, zcv, zcw, zcx, zcy, zcz, zda, zdb, zdc, zdd, zde, zdf, zdg, zdh, zdi, zdj, zdk, zdl, zdm, zdn, zdo, zdp, zdq, zdr, zds, zdt, zdu, zdv, zdw, zdx, zdy, zdz, zea, zeb, zec, zed, zee, zef, zeg, zeh, zei, zej, zek, zel, zem, zen, zeo, zep, zeq, zer, zes, zet, zeu, zev, zew, zex, zey, zez, zfa, zfb, zfc, zfd, zfe, zff, zfg, zfh, zfi, zfj, zfk, zfl, zfm, zfn, zfo, zfp, zfq, zfr, zfs, zft, zfu, zfv, zfw, zfx, zfy, zfz, zga, zgb, zgc, Nat.reduceAdd]); (try simp only [zgd, zge, zgf, zgg, true_and, and_true, Int.sign_neg_iff]); (try dsimp only [zaa, zab, zac, zad, zae, zaf, zag, zah, zai, zaj, zak, zal, zam, zan, zao, zap, zaq, zar, zas, zat, zau, zav, zaw, zax, zay, zaz, zba, zbb, zbc, zbd, zbe, zbf, zbg, zbh, zbi, zbj, zbk, zbl, zbm, zbn, zbo, zbp, zbq, zbr, zbs, zbt, zbu, zbv, zbw, zbx, zby, zbz, zca, zcb, zcc, zcd, zce, zcf, zcg, zch, zci, zcj, zck, zcl, zcm, zcn, zco, zcp, zcq, zcr, zcs, zct, zcu, zcv, zcw, zcx, zcy, zcz, zda, zdb, zdc, zdd, zde, zdf, zdg, zdh, zdi, zdj, zdk, zdl, zdm, zdn, zdo, zdp, zdq, zdr, zds, zdt, zdu, zdv, zdw, zdx, zdy, zdz, zea, zeb, zec, zed, zee, zef, zeg, zeh, zei, zej, zek, zel, zem, zen, zeo, zep, zeq, zer, zes, zet, zeu, zev, zew, zex, zey, zez, zfa, zfb, zfc, zfd, zfe, zff, zfg, zfh, zfi, zfj, zfk, zfl, zfm, zfn, zfo, zfp, zfq, zfr, zfs, zft, zfu, zfv, zfw, zfx, zfy, zfz, zga, zgb, zgc, Nat.reduceAdd]))
    have e'' : ¬ (z < 0 ↔ y < 0) := fun h => e' h.symm
    refine ⟨fun h => ?_, fun h => ?_⟩
    · have l : y.natAbs < z.natAbs := by lia
      have k := sgn_diff e'' (Nat.le_of_lt l)
      rw [Int.add_comm z y] at k
      exact hsub _ _ _ hz (Nat.le_of_lt l) (hs _ _ (by rw [← Bool.decide_and]; exact decide_eq_decide.mpr k.1) k.2)
    · have l : z.natAbs ≤ y.natAbs := by lia
      have k := sgn_diff e' l
      exact hsub _ _ _ hy l (hs _ _ (by rw [← Bool.decide_and]; exact decide_eq_decide.mpr k.1) k.2)
end Mine

open PySem PySem.Calls PyProof.Rows
set_option Elab.async false
set_option maxRecDepth 100000
set_option maxHeartbeats 4000000
namespace Mine
theorem s_mul_w {prog : Program} {w : World} {h0 : Heap} {mg mb : Str → Option Value} {ads : Ads} (S : Stat h0 mg mb) (T : Tops h0 mg ads) : FnOk prog w h0 3 (ads 20) (P_s_mul ads) := by
  refine' fnOk_of (d := 2) S T.s_mul ["x", "y", "w", "mul"] [] ?hb ?hl ?hn rfl rfl rfl ?hc (fun A L cd O => ?hB) (P_s_mul ads) ?hP
  case hb =>
    intro pm cd doc vs h
    exact vs4 (P := fun vs => bindArgs _ ⟨vs, []⟩ = pure (List.zip _ vs)) (by intros; rfl) h
  case hl => decide
  case hn => decide
  case hc => decide
  case hB =>
    exact (SSs.cons (SS.ret (SE.call O ((signed_w S T).mono (by decide)) "signed" (SEs.cons (SE.cmp O ne_ok (SE.item (SB.of (SE.name O 0 "x" _ rfl)) (SE.int 0 _ _) _) (SE.item (SB.of (SE.name O 1 "y" _ rfl)) (SE.int 0 _ _) _) _) (SEs.cons (SE.callv O ((mul_school_w S T).mono (by decide)) 3 "mul" (SEs.cons (SE.item (SB.of (SE.name O 0 "x" _ rfl)) (SE.int 1 _ _) _) (SEs.cons (SE.item (SB.of (SE.name O 1 "y" _ rfl)) (SE.int 1 _ _) _) (SEs.cons (SE.name O 2 "w" _ rfl) SEs.nil))) _ _ rfl) SEs.nil)) _ _ rfl T.signed.gname) _)
    SSs.nil)
  case hP =>
    intro xs G h
    obtain ⟨w, y, z, ⟨hw, hy, hz⟩, rfl, hG⟩ := h
    refine ⟨rfl, ?_⟩
    ((try dsimp only [zaa, zab, zac, zad, zae, zaf, zag, zah, zai, zaj, zak, zal, zam, zan, zao, zap, zaq, zar, zas, zat, zau, zav, zaw, zax, zay, zaz, zba, zbb, zbc, zbd, zbe, zbf, zbg, zbh, zbi, zbj, zbk, zbl, zbm, zbn, zbo, zbp, zbq, zbr, zbs, zbt, zbu, zbv, zbw, zbx, zby, zbz, zca, zcb, zcc, zcd, zce, zcf, zcg, zch, zci, zcj, zck, zcl, zcm, zcn, zco, zcp, zcq, zcr, zcs, zct, zcu, zcv, zcw, zcx, zcy, zcz, zda, zdb, zdc, zdd, zde, zdf, zdg, zdh, zdi, zdj, zdk, zdl, zdm, zdn, zdo, zdp, zdq, zdr, zds, zdt, zdu, zdv, zdw, zdx, zdy, zdz, zea, zeb, zec, zed, zee, zef, zeg, zeh, zei, zej, zek, zel, zem, zen, zeo, zep, zeq, zer, zes, zet, zeu, zev, zew, zex, zey, zez, zfa, zfb, zfc, zfd, zfe, zff, zfg, zfh, zfi, zfj, zfk, zfl, zfm, zfn, zfo, zfp, zfq, zfr, zfs, zft, zfu, zfv, zfw, zfx, zfy, zfz, zga, zgb, zgc, Nat.reduceAdd] at hG ⊢); (try simp only [zgd, zge, zgf, zgg, true_and, and_true] at hG ⊢))
    refine ⟨w, y.natAbs, z.natAbs, ⟨hw, by lia, by lia⟩, rfl, ?_⟩
    refine ⟨w, _, _, hw, rfl, ?_⟩
    rw [Int.natAbs_mul] at hG
    have e : (!(decide (y < 0) == decide (z < 0)) && decide (y.natAbs * z.natAbs ≠ 0)) = decide (y * z < 0) := by
      rcases Int.lt_trichotomy y 0 with h1 | h1 | h1 <;> rcases Int.lt_trichotomy z 0 with h2 | h2 | h2
      · have h3 := Int.mul_pos_of_neg_of_neg h1 h2
        have h4 : ¬ y * z < 0 := by lia
        simp [h1, h2, h4]
      · subst h2; simp
      · have h3 := Int.mul_neg_of_neg_of_pos h1 h2
        have h4 : ¬ z < 0 := by lia
        have h5 : y.natAbs * z.natAbs ≠ 0 := Nat.mul_ne_zero (by lia) (by lia)
        rw [decide_eq_true h1, decide_eq_true h3, decide_eq_false h4, decide_eq_true h5]; rfl
      · subst h1; simp
      · subst h1; simp
      · subst h1; simp
      · have h3 := Int.mul_neg_of_pos_of_neg h1 h2
        have h4 : ¬ y < 0 := by lia
        have h5 : y.natAbs * z.natAbs ≠ 0 := Nat.mul_ne_zero (by lia) (by lia)
        rw [decide_eq_true h2, decide_eq_true h3, decide_eq_false h4, decide_eq_true h5]; rfl
      · subst h2; simp
      · have h3 := Int.mul_pos h1 h2
        have h4 : ¬ y * z < 0 := by lia
        have h5 : ¬ y < 0 := by lia
        have h6 : ¬ z < 0 := by lia
        simp [h4, h5, h6]
    show G _
    rw [e]
    exact hG
end Mine

open PySem PySem.Calls PyProof.Rows
set_option Elab.async false
set_option maxRecDepth 100000
set_option maxHeartbeats 4000000
namespace Mine
theorem s_shift_w {prog : Program} {w : World} {h0 : Heap} {mg mb : Str → Option Value} {ads : Ads} (S : Stat h0 mg mb) (T : Tops h0 mg ads) : FnOk prog w h0 3 (ads 23) (P_s_shift ads) := by
  refine' fnOk_of (d := 2) S T.s_shift ["x", "n", "w"] ["found"] ?hb ?hl ?hn rfl rfl rfl ?hc (fun A L cd O => ?hB) (P_s_shift ads) ?hP
  case hb =>
    intro pm cd doc vs h
    exact vs3 (P := fun vs => bindArgs _ ⟨vs, []⟩ = pure (List.zip _ vs)) (by intros; rfl) h
  case hl => decide
  case hn => decide
  case hc => decide
  case hB =>
    exact (SSs.cons (SS.ite (STr.cmp O ge_ok (SE.name O 1 "n" _ rfl) (SE.int 0 _ _) _) (SSs.cons (SS.ret (SE.call O ((signed_w S T).mono (by decide)) "signed" (SEs.cons (SE.item (SB.of (SE.name O 0 "x" _ rfl)) (SE.int 0 _ _) _) (SEs.cons (SE.call O ((shift_left_w S T).mono (by decide)) "shift_left" (SEs.cons (SE.item (SB.of (SE.name O 0 "x" _ rfl)) (SE.int 1 _ _) _) (SEs.cons (SE.name O 1 "n" _ rfl) (SEs.cons (SE.name O 2 "w" _ rfl) SEs.nil))) _ _ rfl T.shift_left.gname) SEs.nil)) _ _ rfl T.signed.gname) _)
    SSs.nil) SSs.nil _)
    (SSs.cons (SS.assign O 3 "found" (SE.call O ((shift_right_w S T).mono (by decide)) "shift_right" (SEs.cons (SE.item (SB.of (SE.name O 0 "x" _ rfl)) (SE.int 1 _ _) _) (SEs.cons (SE.neg (SE.name O 1 "n" _ rfl) _) (SEs.cons (SE.name O 2 "w" _ rfl) SEs.nil))) _ _ rfl T.shift_right.gname) _ _ rfl (.inl ⟨rfl, rfl⟩))
    (SSs.cons (SS.ite (STr.and (STr.val (SE.item (SB.of (SE.name O 0 "x" _ rfl)) (SE.int 0 _ _) _)) (STr.cmp O gt_ok (SE.len O (SB.of (SE.call O ((low_w S T).mono (by decide)) "low" (SEs.cons (SE.item (SB.of (SE.name O 0 "x" _ rfl)) (SE.int 1 _ _) _) (SEs.cons (SE.neg (SE.name O 1 "n" _ rfl) _) (SEs.cons (SE.name O 2 "w" _ rfl) SEs.nil))) _ _ rfl T.low.gname)) _ _ rfl S.len.1 S.len.2) (SE.int 0 _ _) _) _) (SSs.cons (SS.assign O 3 "found" (SE.call O ((add_limb_w S T).mono (by decide)) "add_limb" (SEs.cons (SE.name O 3 "found" _ rfl) (SEs.cons (SE.int 1 _ _) (SEs.cons (SE.name O 2 "w" _ rfl) SEs.nil))) _ _ rfl T.add_limb.gname) _ _ rfl (.inl ⟨rfl, rfl⟩))
    SSs.nil) SSs.nil _)
    (SSs.cons (SS.ret (SE.call O ((signed_w S T).mono (by decide)) "signed" (SEs.cons (SE.item (SB.of (SE.name O 0 "x" _ rfl)) (SE.int 0 _ _) _) (SEs.cons (SE.name O 3 "found" _ rfl) SEs.nil)) _ _ rfl T.signed.gname) _)
    SSs.nil))))
  case hP =>
    intro xs G h
    obtain ⟨w, m, n, ⟨hw, hm, hn⟩, rfl, hG⟩ := h
    refine ⟨rfl, ?_⟩
    ((try dsimp only [zaa, zab, zac, zad, zae, zaf, zag, zah, zai, zaj, zak, zal, zam, zan, zao, zap, zaq, zar, zas, zat, zau, zav, zaw, zax, zay, zaz, zba, zbb, zbc, zbd, zbe, zbf, zbg, zbh, zbi, zbj, zbk, zbl, zbm, zbn, zbo, zbp, zbq, zbr, zbs, zbt, zbu, zbv, zbw, zbx, zby, zbz, zca, zcb, zcc, zcd, zce, zcf, zcg, zch, zci, zcj, zck, zcl, zcm, zcn, zco, zcp, zcq, zcr, zcs, zct, zcu, zcv, zcw, zcx, zcy, zcz, zda, zdb, zdc, zdd, zde, zdf, zdg, zdh, zdi, zdj, zdk, zdl, zdm, zdn, zdo, zdp, zdq, zdr, zds, zdt, zdu, zdv, zdw, zdx, zdy, zdz, zea, zeb, zec, zed, zee, zef, zeg, zeh, zei, zej, zek, zel, zem, zen, zeo, zep, zeq, zer, zes, zet, zeu, zev, zew, zex, zey, zez, zfa, zfb, zfc, zfd, zfe, zff, zfg, zfh, zfi, zfj, zfk, zfl, zfm, zfn, zfo, zfp, zfq, zfr, zfs, zft, zfu, zfv, zfw, zfx, zfy, zfz, zga, zgb, zgc, Nat.reduceAdd] at hG ⊢); (try simp only [zgd, zge, zgf, zgg, true_and, and_true] at hG ⊢))
    refine ⟨fun _ => ⟨w, m, n, ⟨hw, by lia, hn⟩, rfl, ?_⟩, fun h => absurd (by lia) h⟩
    refine ⟨w, _, _, hw, rfl, ?_⟩
    rw [show decide (((m * 2 ^ n : Nat) : Int) < 0) = false by apply decide_eq_false; lia, Int.natAbs_natCast] at hG
    rw [show decide ((m : Int) < 0) = false by apply decide_eq_false; lia, Bool.false_and]
    exact hG
end Mine

open PySem PySem.Calls PyProof.Rows
set_option Elab.async false
set_option maxRecDepth 100000
set_option maxHeartbeats 4000000
namespace Mine
theorem r_neg_w {prog : Program} {w : World} {h0 : Heap} {mg mb : Str → Option Value} {ads : Ads} (S : Stat h0 mg mb) (T : Tops h0 mg ads) : FnOk prog w h0 3 (ads 29) (P_r_neg ads) := by
  refine' fnOk_of (d := 2) S T.r_neg ["x"] [] ?hb ?hl ?hn rfl rfl rfl ?hc (fun A L cd O => ?hB) (P_r_neg ads) ?hP
  case hb =>
    intro pm cd doc vs h
    exact vs1 (P := fun vs => bindArgs _ ⟨vs, []⟩ = pure (List.zip _ vs)) (by intros; rfl) h
  case hl => decide
  case hn => decide
  case hc => decide
  case hB =>
    exact (SSs.cons (SS.ret (SE.tuple (SEs.cons (SE.call O ((s_neg_w S T).mono (by decide)) "s_neg" (SEs.cons (SE.item (SB.of (SE.name O 0 "x" _ rfl)) (SE.int 0 _ _) _) SEs.nil) _ _ rfl T.s_neg.gname) (SEs.cons (SE.item (SB.of (SE.name O 0 "x" _ rfl)) (SE.int 1 _ _) _) SEs.nil)) _ _) _)
    SSs.nil)
  case hP =>
    intro xs G h
    obtain ⟨w, q, hw, rfl, hG⟩ := h
    refine ⟨rfl, ?_⟩
    ((try dsimp only [zaa, zab, zac, zad, zae, zaf, zag, zah, zai, zaj, zak, zal, zam, zan, zao, zap, zaq, zar, zas, zat, zau, zav, zaw, zax, zay, zaz, zba, zbb, zbc, zbd, zbe, zbf, zbg, zbh, zbi, zbj, zbk, zbl, zbm, zbn, zbo, zbp, zbq, zbr, zbs, zbt, zbu, zbv, zbw, zbx, zby, zbz, zca, zcb, zcc, zcd, zce, zcf, zcg, zch, zci, zcj, zck, zcl, zcm, zcn, zco, zcp, zcq, zcr, zcs, zct, zcu, zcv, zcw, zcx, zcy, zcz, zda, zdb, zdc, zdd, zde, zdf, zdg, zdh, zdi, zdj, zdk, zdl, zdm, zdn, zdo, zdp, zdq, zdr, zds, zdt, zdu, zdv, zdw, zdx, zdy, zdz, zea, zeb, zec, zed, zee, zef, zeg, zeh, zei, zej, zek, zel, zem, zen, zeo, zep, zeq, zer, zes, zet, zeu, zev, zew, zex, zey, zez, zfa, zfb, zfc, zfd, zfe, zff, zfg, zfh, zfi, zfj, zfk, zfl, zfm, zfn, zfo, zfp, zfq, zfr, zfs, zft, zfu, zfv, zfw, zfx, zfy, zfz, zga, zgb, zgc, Nat.reduceAdd] at hG ⊢); (try simp only [zgd, zge, zgf, zgg, true_and, and_true] at hG ⊢))
    refine ⟨w, q.num, hw, rfl, ?_⟩
    exact hG
end Mine

open PySem PySem.Calls PyProof.Rows
set_option Elab.async false
set_option maxRecDepth 100000
set_option maxHeartbeats 4000000
namespace Mine
theorem divrem_small_w {prog : Program} {w : World} {h0 : Heap} {mg mb : Str → Option Value} {ads : Ads} (S : Stat h0 mg mb) (T : Tops h0 mg ads) : FnOk prog w h0 3 (ads 38) (P_divrem_small ads) := by
  refine' fnOk_of (d := 2) S T.divrem_small ["a", "b", "w"] ["quotient", "rest"] ?hb ?hl ?hn rfl rfl rfl ?hc (fun A L cd O => ?hB) (P_divrem_small ads) ?hP
  case hb =>
    intro pm cd doc vs h
    exact vs3 (P := fun vs => bindArgs _ ⟨vs, []⟩ = pure (List.zip _ vs)) (by intros; rfl) h
  case hl => decide
  case hn => decide
  case hc => decide
  case hB =>
    exact (SSs.cons (SS.assignU O [(3, "quotient", _), (4, "rest", _)] (SE.call O ((divrem_limb_w S T).mono (by decide)) "divrem_limb" (SEs.cons (SE.name O 0 "a" _ rfl) (SEs.cons (SE.item (SB.of (SE.name O 1 "b" _ rfl)) (SE.int 0 _ _) _) (SEs.cons (SE.name O 2 "w" _ rfl) SEs.nil))) _ _ rfl T.divrem_limb.gname) _ _ _ (all2 ⟨rfl, (.inl ⟨rfl, rfl⟩)⟩ ⟨rfl, (.inl ⟨rfl, rfl⟩)⟩))
    (SSs.cons (SS.ret (SE.tuple (SEs.cons (SE.name O 3 "quotient" _ rfl) (SEs.cons (SE.ifexp (STr.cmp O gt_ok (SE.name O 4 "rest" _ rfl) (SE.int 0 _ _) _) (SE.listI (SEs.cons (SE.name O 4 "rest" _ rfl) SEs.nil) _) (SE.listI SEs.nil _) _) SEs.nil)) _ _) _)
    SSs.nil))
  case hP =>
    intro xs G h
    obtain ⟨w, m, l, ⟨hw, hm, hl0, hl1⟩, rfl, hG⟩ := h
    refine ⟨rfl, ?_⟩
    have hB := B2 hw
    have e1 : limbs (2 ^ w) l = [(l : Int)] := by rw [limbs_pos hB hl0, Nat.mod_eq_of_lt hl1, Nat.div_eq_of_lt hl1, limbs_zero]
    have e2 : limbs (2 ^ w) (m % l) = if 0 < m % l then [((m % l : Nat) : Int)] else [] := by
      have h1 := Nat.mod_lt m hl0
      split
      · rename_i h; rw [limbs_pos hB h, Nat.mod_eq_of_lt (by lia), Nat.div_eq_of_lt (by lia), limbs_zero]
      · rw [show m % l = 0 by lia, limbs_zero]
    ((try dsimp only [zaa, zab, zac, zad, zae, zaf, zag, zah, zai, zaj, zak, zal, zam, zan, zao, zap, zaq, zar, zas, zat, zau, zav, zaw, zax, zay, zaz, zba, zbb, zbc, zbd, zbe, zbf, zbg, zbh, zbi, zbj, zbk, zbl, zbm, zbn, zbo, zbp, zbq, zbr, zbs, zbt, zbu, zbv, zbw, zbx, zby, zbz, zca, zcb, zcc, zcd, zce, zcf, zcg, zch, zci, zcj, zck, zcl, zcm, zcn, zco, zcp, zcq, zcr, zcs, zct, zcu, zcv, zcw, zcx, zcy, zcz, zda, zdb, zdc, zdd, zde, zdf, zdg, zdh, zdi, zdj, zdk, zdl, zdm, zdn, zdo, zdp, zdq, zdr, zds, zdt, zdu, zdv, zdw, zdx, zdy, zdz, zea, zeb, zec, zed, zee, zef, zeg, zeh, zei, zej, zek, zel, zem, zen, zeo, zep, zeq, zer, zes, zet, zeu, zev, zew, zex, zey, zez, zfa, zfb, zfc, zfd, zfe, zff, zfg, zfh, zfi, zfj, zfk, zfl, zfm, zfn, zfo, zfp, zfq, zfr, zfs, zft, zfu, zfv, zfw, zfx, zfy, zfz, zga, zgb, zgc, Nat.reduceAdd] at hG ⊢); (try simp only [zgd, zge, zgf, zgg, true_and, and_true] at hG ⊢))
    rw [e1]
    rw [e2] at hG
    refine ⟨by decide, by simp, w, m, l, ⟨hw, hm, hl0, hl1⟩, rfl, ?_⟩
    ((try dsimp only [zaa, zab, zac, zad, zae, zaf, zag, zah, zai, zaj, zak, zal, zam, zan, zao, zap, zaq, zar, zas, zat, zau, zav, zaw, zax, zay, zaz, zba, zbb, zbc, zbd, zbe, zbf, zbg, zbh, zbi, zbj, zbk, zbl, zbm, zbn, zbo, zbp, zbq, zbr, zbs, zbt, zbu, zbv, zbw, zbx, zby, zbz, zca, zcb, zcc, zcd, zce, zcf, zcg, zch, zci, zcj, zck, zcl, zcm, zcn, zco, zcp, zcq, zcr, zcs, zct, zcu, zcv, zcw, zcx, zcy, zcz, zda, zdb, zdc, zdd, zde, zdf, zdg, zdh, zdi, zdj, zdk, zdl, zdm, zdn, zdo, zdp, zdq, zdr, zds, zdt, zdu, zdv, zdw, zdx, zdy, zdz, zea, zeb, zec, zed, zee, zef, zeg, zeh, zei, zej, zek, zel, zem, zen, zeo, zep, zeq, zer, zes, zet, zeu, zev, zew, zex, zey, zez, zfa, zfb, zfc, zfd, zfe, zff, zfg, zfh, zfi, zfj, zfk, zfl, zfm, zfn, zfo, zfp, zfq, zfr, zfs, zft, zfu, zfv, zfw, zfx, zfy, zfz, zga, zgb, zgc, Nat.reduceAdd]); (try simp only [zgd, zge, zgf, zgg, true_and, and_true]))
    refine ⟨fun h => ?_, fun h => ?_⟩
    · rw [if_pos (by lia)] at hG; exact hG
    · rw [if_neg (by lia)] at hG; exact hG
end Mine

open PySem PySem.Calls PyProof.Rows
set_option Elab.async false
set_option maxRecDepth 100000
set_option maxHeartbeats 4000000
namespace Mine
theorem law_shares_w {prog : Program} {w : World} {h0 : Heap} {mg mb : Str → Option Value} {ads : Ads} (S : Stat h0 mg mb) (T : Tops h0 mg ads) : FnOk prog w h0 3 (ads 48) (P_law_shares ads) := by
  refine' fnOk_of (d := 2) S T.law_shares ["weights", "w"] ["whole", "ahead", "found", "weight"] ?hb ?hl ?hn rfl rfl rfl ?hc (fun A L cd O => ?hB) (P_law_shares ads) ?hP
  case hb =>
    intro pm cd doc vs h
    exact vs2 (P := fun vs => bindArgs _ ⟨vs, []⟩ = pure (List.zip _ vs)) (by intros; rfl) h
  case hl => decide
  case hn => decide
  case hc => decide
  case hB =>
    exact (SSs.cons (SS.assignTS O [(2, "whole", ⟨0, 0, 0, 0⟩), (3, "ahead", ⟨0, 0, 0, 0⟩), (4, "found", ⟨0, 0, 0, 0⟩)] (SR.val (SE.sum O (SE.name O 0 "weights" _ rfl) _ _ rfl S.sum.1 S.sum.2) (SR.val (SE.int 0 _ _) (SR.own (SO.listP SEs.nil _) SR.nil))) _ _ _ _ _ (all3 ⟨rfl, (.inl ⟨rfl, rfl⟩)⟩ ⟨rfl, (.inl ⟨rfl, rfl⟩)⟩ ⟨rfl, (.inl ⟨rfl, rfl⟩)⟩))
    (SSs.cons (SS.forL O 5 "weight" (SE.name O 0 "weights" _ rfl) (SSs.cons (SS.append O 4 "found" (SE.tuple (SEs.cons (SE.call O ((law_least_w S T).mono (by decide)) "_law_least" (SEs.cons (SE.name O 3 "ahead" _ rfl) (SEs.cons (SE.name O 2 "whole" _ rfl) (SEs.cons (SE.name O 1 "w" _ rfl) SEs.nil))) _ _ rfl T.law_least.gname) (SEs.cons (SE.call O ((law_least_w S T).mono (by decide)) "_law_least" (SEs.cons (SE.name O 5 "weight" _ rfl) (SEs.cons (SE.name O 2 "whole" _ rfl) (SEs.cons (SE.name O 1 "w" _ rfl) SEs.nil))) _ _ rfl T.law_least.gname) SEs.nil)) _ _) _ _ _ _ rfl)
    (SSs.cons (SS.assign O 3 "ahead" (SE.bin add_ok (SE.name O 3 "ahead" _ rfl) (SE.name O 5 "weight" _ rfl) _) _ _ rfl (.inl ⟨rfl, rfl⟩))
    SSs.nil)) _ _ rfl (.inl ⟨rfl, rfl⟩))
    (SSs.cons (SS.freeze 4 (SS.ret (SE.name O 4 "found" _ rfl) _))
    SSs.nil)))
  case hP =>
    intro xs G h
    obtain ⟨w, W, ⟨hw, hl, hl0, hW⟩, rfl, hG⟩ := h
    refine ⟨rfl, ?_⟩
    have hle := sum_le W hW
    have hge := sum_ge W hW
    have hsum := cast_sum W
    have hsm := small_cast hW
    ((try dsimp only [zaa, zab, zac, zad, zae, zaf, zag, zah, zai, zaj, zak, zal, zam, zan, zao, zap, zaq, zar, zas, zat, zau, zav, zaw, zax, zay, zaz, zba, zbb, zbc, zbd, zbe, zbf, zbg, zbh, zbi, zbj, zbk, zbl, zbm, zbn, zbo, zbp, zbq, zbr, zbs, zbt, zbu, zbv, zbw, zbx, zby, zbz, zca, zcb, zcc, zcd, zce, zcf, zcg, zch, zci, zcj, zck, zcl, zcm, zcn, zco, zcp, zcq, zcr, zcs, zct, zcu, zcv, zcw, zcx, zcy, zcz, zda, zdb, zdc, zdd, zde, zdf, zdg, zdh, zdi, zdj, zdk, zdl, zdm, zdn, zdo, zdp, zdq, zdr, zds, zdt, zdu, zdv, zdw, zdx, zdy, zdz, zea, zeb, zec, zed, zee, zef, zeg, zeh, zei, zej, zek, zel, zem, zen, zeo, zep, zeq, zer, zes, zet, zeu, zev, zew, zex, zey, zez, zfa, zfb, zfc, zfd, zfe, zff, zfg, zfh, zfi, zfj, zfk, zfl, zfm, zfn, zfo, zfp, zfq, zfr, zfs, zft, zfu, zfv, zfw, zfx, zfy, zfz, zga, zgb, zgc, Nat.reduceAdd] at hG ⊢); (try simp only [zgd, zge, zgf, zgg, true_and, and_true, nlist] at hG ⊢); (try dsimp only [zaa, zab, zac, zad, zae, zaf, zag, zah, zai, zaj, zak, zal, zam, zan, zao, zap, zaq, zar, zas, zat, zau, zav, zaw, zax, zay, zaz, zba, zbb, zbc, zbd, zbe, zbf, zbg, zbh, zbi, zbj, zbk, zbl, zbm, zbn, zbo, zbp, zbq, zbr, zbs, zbt, zbu, zbv, zbw, zbx, zby, zbz, zca, zcb, zcc, zcd, zce, zcf, zcg, zch, zci, zcj, zck, zcl, zcm, zcn, zco, zcp, zcq, zcr, zcs, zct, zcu, zcv, zcw, zcx, zcy, zcz, zda, zdb, zdc, zdd, zde, zdf, zdg, zdh, zdi, zdj, zdk, zdl, zdm, zdn, zdo, zdp, zdq, zdr, zds, zdt, zdu, zdv, zdw, zdx, zdy, zdz, zea, zeb, zec, zed, zee, zef, zeg, zeh, zei, zej, zek, zel, zem, zen, zeo, zep, zeq, zer, zes, zet, zeu, zev, zew, zex, zey, zez, zfa, zfb, zfc, zfd, zfe, zff, zfg, zfh, zfi, zfj, zfk, zfl, zfm, zfn, zfo, zfp, zfq, zfr, zfs, zft, zfu, zfv, zfw, zfx, zfy, zfz, zga, zgb, zgc, Nat.reduceAdd] at hG ⊢))
    refine ⟨hsm, by decide, by decide, ?_⟩
    rw [hsum]
    obtain ⟨v0, hv0⟩ : ∃ v : PV, PV.ints (castL W) = v := ⟨_, rfl⟩
    rw [hv0]
    generalize hwh : W.sum = whole at *
    refine forL_inv (fun k σ => ∃ (F : List PV) (c : Nat) (t : Sl), F.length = k ∧ c ≤ 4 * k ∧ F ++ shq w whole c (W.drop k) = shq w whole 0 W ∧ σ = [.val v0, .val (.int (w : Int)), .val (.int (whole : Int)), .val (.int (c : Int)), .own (.list F), t]) (fun _ _ => False) ⟨[], 0, _, rfl, by lia, rfl, rfl⟩ ?_ ?_ (fun _ _ h => h.elim)
    · rintro k σ K hk ⟨F, c, t, lF, hc, hF, rfl⟩ hK -
      rw [cast_len] at hk
      rw [cast_getD]
      have h4 := getD_mem4 hW k
      ((try dsimp only [zaa, zab, zac, zad, zae, zaf, zag, zah, zai, zaj, zak, zal, zam, zan, zao, zap, zaq, zar, zas, zat, zau, zav, zaw, zax, zay, zaz, zba, zbb, zbc, zbd, zbe, zbf, zbg, zbh, zbi, zbj, zbk, zbl, zbm, zbn, zbo, zbp, zbq, zbr, zbs, zbt, zbu, zbv, zbw, zbx, zby, zbz, zca, zcb, zcc, zcd, zce, zcf, zcg, zch, zci, zcj, zck, zcl, zcm, zcn, zco, zcp, zcq, zcr, zcs, zct, zcu, zcv, zcw, zcx, zcy, zcz, zda, zdb, zdc, zdd, zde, zdf, zdg, zdh, zdi, zdj, zdk, zdl, zdm, zdn, zdo, zdp, zdq, zdr, zds, zdt, zdu, zdv, zdw, zdx, zdy, zdz, zea, zeb, zec, zed, zee, zef, zeg, zeh, zei, zej, zek, zel, zem, zen, zeo, zep, zeq, zer, zes, zet, zeu, zev, zew, zex, zey, zez, zfa, zfb, zfc, zfd, zfe, zff, zfg, zfh, zfi, zfj, zfk, zfl, zfm, zfn, zfo, zfp, zfq, zfr, zfs, zft, zfu, zfv, zfw, zfx, zfy, zfz, zga, zgb, zgc, Nat.reduceAdd]); (try simp only [zgd, zge, zgf, zgg, true_and, and_true]))
      refine ⟨w, c, whole, ⟨hw, by lia, by lia, by lia⟩, rfl, w, W.getD k 0, whole, ⟨hw, by lia, by lia, by lia⟩, rfl, ?_⟩
      ((try dsimp only [zaa, zab, zac, zad, zae, zaf, zag, zah, zai, zaj, zak, zal, zam, zan, zao, zap, zaq, zar, zas, zat, zau, zav, zaw, zax, zay, zaz, zba, zbb, zbc, zbd, zbe, zbf, zbg, zbh, zbi, zbj, zbk, zbl, zbm, zbn, zbo, zbp, zbq, zbr, zbs, zbt, zbu, zbv, zbw, zbx, zby, zbz, zca, zcb, zcc, zcd, zce, zcf, zcg, zch, zci, zcj, zck, zcl, zcm, zcn, zco, zcp, zcq, zcr, zcs, zct, zcu, zcv, zcw, zcx, zcy, zcz, zda, zdb, zdc, zdd, zde, zdf, zdg, zdh, zdi, zdj, zdk, zdl, zdm, zdn, zdo, zdp, zdq, zdr, zds, zdt, zdu, zdv, zdw, zdx, zdy, zdz, zea, zeb, zec, zed, zee, zef, zeg, zeh, zei, zej, zek, zel, zem, zen, zeo, zep, zeq, zer, zes, zet, zeu, zev, zew, zex, zey, zez, zfa, zfb, zfc, zfd, zfe, zff, zfg, zfh, zfi, zfj, zfk, zfl, zfm, zfn, zfo, zfp, zfq, zfr, zfs, zft, zfu, zfv, zfw, zfx, zfy, zfz, zga, zgb, zgc, Nat.reduceAdd]); (try simp only [zgd, zge, zgf, zgg, true_and, and_true]))
      refine ⟨by lia, hK _ ⟨_, c + W.getD k 0, _, by simp [lF], by lia, ?_, rfl⟩⟩
      rw [← hF, dropN hk, List.append_assoc]
      rfl
    · rintro σ' ⟨F, c, t, lF, hc, hF, rfl⟩
      ((try dsimp only [zaa, zab, zac, zad, zae, zaf, zag, zah, zai, zaj, zak, zal, zam, zan, zao, zap, zaq, zar, zas, zat, zau, zav, zaw, zax, zay, zaz, zba, zbb, zbc, zbd, zbe, zbf, zbg, zbh, zbi, zbj, zbk, zbl, zbm, zbn, zbo, zbp, zbq, zbr, zbs, zbt, zbu, zbv, zbw, zbx, zby, zbz, zca, zcb, zcc, zcd, zce, zcf, zcg, zch, zci, zcj, zck, zcl, zcm, zcn, zco, zcp, zcq, zcr, zcs, zct, zcu, zcv, zcw, zcx, zcy, zcz, zda, zdb, zdc, zdd, zde, zdf, zdg, zdh, zdi, zdj, zdk, zdl, zdm, zdn, zdo, zdp, zdq, zdr, zds, zdt, zdu, zdv, zdw, zdx, zdy, zdz, zea, zeb, zec, zed, zee, zef, zeg, zeh, zei, zej, zek, zel, zem, zen, zeo, zep, zeq, zer, zes, zet, zeu, zev, zew, zex, zey, zez, zfa, zfb, zfc, zfd, zfe, zff, zfg, zfh, zfi, zfj, zfk, zfl, zfm, zfn, zfo, zfp, zfq, zfr, zfs, zft, zfu, zfv, zfw, zfx, zfy, zfz, zga, zgb, zgc, Nat.reduceAdd]); (try simp only [zgd, zge, zgf, zgg, true_and, and_true]))
      rw [cast_len, List.drop_length] at hF
      simp only [shq, List.append_nil] at hF
      rw [hF]; exact hG
end Mine

open PySem PySem.Calls PyProof.Rows
set_option Elab.async false
set_option maxRecDepth 100000
set_option maxHeartbeats 4000000
namespace Mine
theorem law_plain_span_w {prog : Program} {w : World} {h0 : Heap} {mg mb : Str → Option Value} {ads : Ads} (S : Stat h0 mg mb) (T : Tops h0 mg ads) : FnOk prog w h0 3 (ads 49) (P_law_plain_span ads) := by
  refine' fnOk_of (d := 2) S T.law_plain_span ["weights", "text", "w"] ["begin", "long", "whole", "sign"] ?hb ?hl ?hn rfl rfl rfl ?hc (fun A L cd O => ?hB) (P_law_plain_span ads) ?hP
  case hb =>
    intro pm cd doc vs h
    exact vs3 (P := fun vs => bindArgs _ ⟨vs, []⟩ = pure (List.zip _ vs)) (by intros; rfl) h
  case hl => decide
  case hn => decide
  case hc => decide
  case hB =>
    exact (SSs.cons (SS.assignT O [(3, "begin", _), (4, "long", _), (5, "whole", _)] (SR.val (SE.int 0 _ _) (SR.val (SE.int 1 _ _) (SR.val (SE.int 1 _ _) SR.nil))) _ _ _ _ _ (all3 ⟨rfl, (.inl ⟨rfl, rfl⟩)⟩ ⟨rfl, (.inl ⟨rfl, rfl⟩)⟩ ⟨rfl, (.inl ⟨rfl, rfl⟩)⟩))
    (SSs.cons (SS.forL O 6 "sign" (SE.name O 1 "text" _ rfl) (SSs.cons (SS.assignTS O [(3, "begin", ⟨0, 0, 0, 0⟩), (4, "long", ⟨0, 0, 0, 0⟩)] (SR.val (SE.bin add_ok (SE.bin mul_ok (SE.name O 3 "begin" _ rfl) (SE.sum O (SE.name O 0 "weights" _ rfl) _ _ rfl S.sum.1 S.sum.2) _) (SE.bin mul_ok (SE.name O 4 "long" _ rfl) (SE.sum O (SE.slice (SB.of (SE.name O 0 "weights" _ rfl)) OptE.none (OptE.some (SE.name O 6 "sign" _ rfl)) _ _) _ _ rfl S.sum.1 S.sum.2) _) _) (SR.val (SE.bin mul_ok (SE.name O 4 "long" _ rfl) (SE.item (SB.of (SE.name O 0 "weights" _ rfl)) (SE.name O 6 "sign" _ rfl) _) _) SR.nil)) _ _ _ _ _ (all2 ⟨rfl, (.inl ⟨rfl, rfl⟩)⟩ ⟨rfl, (.inl ⟨rfl, rfl⟩)⟩))
    (SSs.cons (SS.assign O 5 "whole" (SE.bin mul_ok (SE.name O 5 "whole" _ rfl) (SE.sum O (SE.name O 0 "weights" _ rfl) _ _ rfl S.sum.1 S.sum.2) _) _ _ rfl (.inl ⟨rfl, rfl⟩))
    SSs.nil)) _ _ rfl (.inl ⟨rfl, rfl⟩))
    (SSs.cons (SS.ret (SE.tuple (SEs.cons (SE.call O ((law_least_w S T).mono (by decide)) "_law_least" (SEs.cons (SE.name O 3 "begin" _ rfl) (SEs.cons (SE.name O 5 "whole" _ rfl) (SEs.cons (SE.name O 2 "w" _ rfl) SEs.nil))) _ _ rfl T.law_least.gname) (SEs.cons (SE.call O ((law_least_w S T).mono (by decide)) "_law_least" (SEs.cons (SE.name O 4 "long" _ rfl) (SEs.cons (SE.name O 5 "whole" _ rfl) (SEs.cons (SE.name O 2 "w" _ rfl) SEs.nil))) _ _ rfl T.law_least.gname) SEs.nil)) _ _) _)
    SSs.nil)))
  case hP =>
    intro xs G h
    obtain ⟨w, W, T, ⟨hw, hl, hl0, hW, hT, hs⟩, rfl, hG⟩ := h
    refine ⟨rfl, ?_⟩
    have hle := sum_le W hW
    have hge := sum_ge W hW
    have hsum := cast_sum W
    have hsm := small_cast hW
    ((try dsimp only [zaa, zab, zac, zad, zae, zaf, zag, zah, zai, zaj, zak, zal, zam, zan, zao, zap, zaq, zar, zas, zat, zau, zav, zaw, zax, zay, zaz, zba, zbb, zbc, zbd, zbe, zbf, zbg, zbh, zbi, zbj, zbk, zbl, zbm, zbn, zbo, zbp, zbq, zbr, zbs, zbt, zbu, zbv, zbw, zbx, zby, zbz, zca, zcb, zcc, zcd, zce, zcf, zcg, zch, zci, zcj, zck, zcl, zcm, zcn, zco, zcp, zcq, zcr, zcs, zct, zcu, zcv, zcw, zcx, zcy, zcz, zda, zdb, zdc, zdd, zde, zdf, zdg, zdh, zdi, zdj, zdk, zdl, zdm, zdn, zdo, zdp, zdq, zdr, zds, zdt, zdu, zdv, zdw, zdx, zdy, zdz, zea, zeb, zec, zed, zee, zef, zeg, zeh, zei, zej, zek, zel, zem, zen, zeo, zep, zeq, zer, zes, zet, zeu, zev, zew, zex, zey, zez, zfa, zfb, zfc, zfd, zfe, zff, zfg, zfh, zfi, zfj, zfk, zfl, zfm, zfn, zfo, zfp, zfq, zfr, zfs, zft, zfu, zfv, zfw, zfx, zfy, zfz, zga, zgb, zgc, Nat.reduceAdd] at hG ⊢); (try simp only [zgd, zge, zgf, zgg, true_and, and_true, nlist] at hG ⊢); (try dsimp only [zaa, zab, zac, zad, zae, zaf, zag, zah, zai, zaj, zak, zal, zam, zan, zao, zap, zaq, zar, zas, zat, zau, zav, zaw, zax, zay, zaz, zba, zbb, zbc, zbd, zbe, zbf, zbg, zbh, zbi, zbj, zbk, zbl, zbm, zbn, zbo, zbp, zbq, zbr, zbs, zbt, zbu, zbv, zbw, zbx, zby, zbz, zca, zcb, zcc, zcd, zce, zcf, zcg, zch, zci, zcj, zck, zcl, zcm, zcn, zco, zcp, zcq, zcr, zcs, zct, zcu, zcv, zcw, zcx, zcy, zcz, zda, zdb, zdc, zdd, zde, zdf, zdg, zdh, zdi, zdj, zdk, zdl, zdm, zdn, zdo, zdp, zdq, zdr, zds, zdt, zdu, zdv, zdw, zdx, zdy, zdz, zea, zeb, zec, zed, zee, zef, zeg, zeh, zei, zej, zek, zel, zem, zen, zeo, zep, zeq, zer, zes, zet, zeu, zev, zew, zex, zey, zez, zfa, zfb, zfc, zfd, zfe, zff, zfg, zfh, zfi, zfj, zfk, zfl, zfm, zfn, zfo, zfp, zfq, zfr, zfs, zft, zfu, zfv, zfw, zfx, zfy, zfz, zga, zgb, zgc, Nat.reduceAdd] at hG ⊢))
    refine ⟨by decide, ?_⟩
    refine forL_inv (fun k σ => ∃ (b l h : Nat) (t : Sl), b ≤ 32 ^ k ∧ l ≤ 32 ^ k ∧ h ≤ 32 ^ k ∧ 0 < h ∧ spanN W (T.drop k) (b, l, h) = spanN W T (0, 1, 1) ∧ σ = [.val (.ints (castL W)), .val (.ints (castL T)), .val (.int (w : Int)), .val (.int (b : Int)), .val (.int (l : Int)), .val (.int (h : Int)), t]) (fun _ _ => False) ⟨0, 1, 1, _, by lia, by lia, by lia, by lia, rfl, rfl⟩ ?_ ?_ (fun _ _ h => h.elim)
    · rintro k σ K hk ⟨b, l, h, t, hb, hl', hh, hh0, hsp, rfl⟩ hK -
      rw [cast_len] at hk
      rw [cast_getD]
      have hsk := hs _ (getD_mem hk)
      have h32 : 32 ^ k ≤ 32 ^ 4 := Nat.pow_le_pow_right (by lia) (by lia)
      have h4 := getD_mem4 hW (T.getD k 0)
      have htk := sum_take_le W (T.getD k 0)
      ((try dsimp only [zaa, zab, zac, zad, zae, zaf, zag, zah, zai, zaj, zak, zal, zam, zan, zao, zap, zaq, zar, zas, zat, zau, zav, zaw, zax, zay, zaz, zba, zbb, zbc, zbd, zbe, zbf, zbg, zbh, zbi, zbj, zbk, zbl, zbm, zbn, zbo, zbp, zbq, zbr, zbs, zbt, zbu, zbv, zbw, zbx, zby, zbz, zca, zcb, zcc, zcd, zce, zcf, zcg, zch, zci, zcj, zck, zcl, zcm, zcn, zco, zcp, zcq, zcr, zcs, zct, zcu, zcv, zcw, zcx, zcy, zcz, zda, zdb, zdc, zdd, zde, zdf, zdg, zdh, zdi, zdj, zdk, zdl, zdm, zdn, zdo, zdp, zdq, zdr, zds, zdt, zdu, zdv, zdw, zdx, zdy, zdz, zea, zeb, zec, zed, zee, zef, zeg, zeh, zei, zej, zek, zel, zem, zen, zeo, zep, zeq, zer, zes, zet, zeu, zev, zew, zex, zey, zez, zfa, zfb, zfc, zfd, zfe, zff, zfg, zfh, zfi, zfj, zfk, zfl, zfm, zfn, zfo, zfp, zfq, zfr, zfs, zft, zfu, zfv, zfw, zfx, zfy, zfz, zga, zgb, zgc, Nat.reduceAdd]); (try simp only [zgd, zge, zgf, zgg, true_and, and_true]))
      rw [pick_upto _ _ (by lia), Int.toNat_natCast, cast_take, cast_sum, cast_sum, cast_getD, cast_len, ← Int.natCast_mul, ← Int.natCast_mul, ← Int.natCast_mul, ← Int.natCast_mul, ← Int.natCast_add]
      have b1 : b * W.sum ≤ 32 ^ k * 16 := Nat.mul_le_mul hb (by lia)
      have b2 : l * (W.take (T.getD k 0)).sum ≤ 32 ^ k * 16 := Nat.mul_le_mul hl' (by lia)
      have b3 : l * W.getD (T.getD k 0) 0 ≤ 32 ^ k * 16 := Nat.mul_le_mul hl' (by lia)
      have b4 : h * W.sum ≤ 32 ^ k * 16 := Nat.mul_le_mul hh (by lia)
      have b5 : 0 < h * W.sum := Nat.mul_pos hh0 (by lia)
      have hp : 32 ^ (k + 1) = 32 ^ k * 32 := Nat.pow_succ _ _
      have hsm2 : ∀ x ∈ castL (W.take (T.getD k 0)), -(2 ^ 40) ≤ x ∧ x ≤ 2 ^ 40 := small_cast fun x hx => hW x (List.mem_of_mem_take hx)
      refine ⟨hsm, by lia, hsm2, by lia, by lia, by lia, by lia, by decide, hsm, by lia, hK _ ⟨_, _, _, _, by lia, by lia, by lia, b5, ?_, rfl⟩⟩
      rw [← hsp, dropN hk]
      rfl
    · rintro σ' ⟨b, l, h, t, hb, hl', hh, hh0, hsp, rfl⟩
      ((try dsimp only [zaa, zab, zac, zad, zae, zaf, zag, zah, zai, zaj, zak, zal, zam, zan, zao, zap, zaq, zar, zas, zat, zau, zav, zaw, zax, zay, zaz, zba, zbb, zbc, zbd, zbe, zbf, zbg, zbh, zbi, zbj, zbk, zbl, zbm, zbn, zbo, zbp, zbq, zbr, zbs, zbt, zbu, zbv, zbw, zbx, zby, zbz, zca, zcb, zcc, zcd, zce, zcf, zcg, zch, zci, zcj, zck, zcl, zcm, zcn, zco, zcp, zcq, zcr, zcs, zct, zcu, zcv, zcw, zcx, zcy, zcz, zda, zdb, zdc, zdd, zde, zdf, zdg, zdh, zdi, zdj, zdk, zdl, zdm, zdn, zdo, zdp, zdq, zdr, zds, zdt, zdu, zdv, zdw, zdx, zdy, zdz, zea, zeb, zec, zed, zee, zef, zeg, zeh, zei, zej, zek, zel, zem, zen, zeo, zep, zeq, zer, zes, zet, zeu, zev, zew, zex, zey, zez, zfa, zfb, zfc, zfd, zfe, zff, zfg, zfh, zfi, zfj, zfk, zfl, zfm, zfn, zfo, zfp, zfq, zfr, zfs, zft, zfu, zfv, zfw, zfx, zfy, zfz, zga, zgb, zgc, Nat.reduceAdd]); (try simp only [zgd, zge, zgf, zgg, true_and, and_true]))
      rw [cast_len] at hb hl' hh
      rw [cast_len, List.drop_length] at hsp
      have h32 : 32 ^ T.length ≤ 32 ^ 4 := Nat.pow_le_pow_right (by lia) (by lia)
      have e : spanN W [] (b, l, h) = (b, l, h) := rfl
      rw [e] at hsp
      rw [← hsp] at hG
      exact ⟨w, b, h, ⟨hw, by lia, by lia, hh0⟩, rfl, w, l, h, ⟨hw, by lia, by lia, hh0⟩, rfl, hG⟩
end Mine

open PySem PySem.Calls PyProof.Rows
set_option Elab.async false
set_option maxRecDepth 100000
set_option maxHeartbeats 4000000
namespace Mine
theorem s_sub_w {prog : Program} {w : World} {h0 : Heap} {mg mb : Str → Option Value} {ads : Ads} (S : Stat h0 mg mb) (T : Tops h0 mg ads) : FnOk prog w h0 4 (ads 19) (P_s_sub ads) := by
  refine' fnOk_of (d := 3) S T.s_sub ["x", "y", "w"] [] ?hb ?hl ?hn rfl rfl rfl ?hc (fun A L cd O => ?hB) (P_s_sub ads) ?hP
  case hb =>
    intro pm cd doc vs h
    exact vs3 (P := fun vs => bindArgs _ ⟨vs, []⟩ = pure (List.zip _ vs)) (by intros; rfl) h
  case hl => decide
  case hn => decide
  case hc => decide
  case hB =>
    exact (SSs.cons (SS.ret (SE.call O ((s_add_w S T).mono (by decide)) "s_add" (SEs.cons (SE.name O 0 "x" _ rfl) (SEs.cons (SE.call O ((s_neg_w S T).mono (by decide)) "s_neg" (SEs.cons (SE.name O 1 "y" _ rfl) SEs.nil) _ _ rfl T.s_neg.gname) (SEs.cons (SE.name O 2 "w" _ rfl) SEs.nil))) _ _ rfl T.s_add.gname) _)
    SSs.nil)
  case hP =>
    intro xs G h
    obtain ⟨w, y, z, ⟨hw, hy, hz⟩, rfl, hG⟩ := h
    refine ⟨rfl, ?_⟩
    ((try dsimp only [zaa, zab, zac, zad, zae, zaf, zag, zah, zai, zaj, zak, zal, zam, zan, zao, zap, zaq, zar, zas, zat, zau, zav, zaw, zax, zay, zaz, zba, zbb, zbc, zbd, zbe, zbf, zbg, zbh, zbi, zbj, zbk, zbl, zbm, zbn, zbo, zbp, zbq, zbr, zbs, zbt, zbu, zbv, zbw, zbx, zby, zbz, zca, zcb, zcc, zcd, zce, zcf, zcg, zch, zci, zcj, zck, zcl, zcm, zcn, zco, zcp, zcq, zcr, zcs, zct, zcu, zcv, zcw, zcx, zcy, zcz, zda, zdb, zdc, zdd, zde, zdf, zdg, zdh, zdi, zdj, zdk, zdl, zdm, zdn, zdo, zdp, zdq, zdr, zds, zdt, zdu, zdv, zdw, zdx, zdy, zdz, zea, zeb, zec, zed, zee, zef, zeg, zeh, zei, zej, zek, zel, zem, zen, zeo, zep, zeq, zer, zes, zet, zeu, zev, zew, zex, zey, zez, zfa, zfb, zfc, zfd, zfe, zff, zfg, zfh, zfi, zfj, zfk, zfl, zfm, zfn, zfo, zfp, zfq, zfr, zfs, zft, zfu, zfv, zfw, zfx, zfy, zfz, zga, zgb, zgc, Nat.reduceAdd] at hG ⊢); (try simp only [zgd, zge, zgf, zgg, true_and, and_true] at hG ⊢))
    refine ⟨w, z, hw, rfl, ?_⟩
    refine ⟨w, y, -z, ⟨hw, hy, by rw [Int.natAbs_neg]; exact hz⟩, rfl, ?_⟩
    exact hG
end Mine

open PySem PySem.Calls PyProof.Rows
set_option Elab.async false
set_option maxRecDepth 100000
set_option maxHeartbeats 4000000
namespace Mine
theorem r_compare_w {prog : Program} {w : World} {h0 : Heap} {mg mb : Str → Option Value} {ads : Ads} (S : Stat h0 mg mb) (T : Tops h0 mg ads) : FnOk prog w h0 4 (ads 35) (P_r_compare ads) := by
  refine' fnOk_of (d := 3) S T.r_compare ["x", "y", "w", "mul"] [] ?hb ?hl ?hn rfl rfl rfl ?hc (fun A L cd O => ?hB) (P_r_compare ads) ?hP
  case hb =>
    intro pm cd doc vs h
    exact vs4 (P := fun vs => bindArgs _ ⟨vs, []⟩ = pure (List.zip _ vs)) (by intros; rfl) h
  case hl => decide
  case hn => decide
  case hc => decide
  case hB =>
    exact (SSs.cons (SS.ret (SE.call O ((s_compare_w S T).mono (by decide)) "s_compare" (SEs.cons (SE.call O ((s_mul_w S T).mono (by decide)) "s_mul" (SEs.cons (SE.item (SB.of (SE.name O 0 "x" _ rfl)) (SE.int 0 _ _) _) (SEs.cons (SE.call O ((signed_of_w S T).mono (by decide)) "signed_of" (SEs.cons (SE.item (SB.of (SE.name O 1 "y" _ rfl)) (SE.int 1 _ _) _) SEs.nil) _ _ rfl T.signed_of.gname) (SEs.cons (SE.name O 2 "w" _ rfl) (SEs.cons (SE.name O 3 "mul" _ rfl) SEs.nil)))) _ _ rfl T.s_mul.gname) (SEs.cons (SE.call O ((s_mul_w S T).mono (by decide)) "s_mul" (SEs.cons (SE.item (SB.of (SE.name O 1 "y" _ rfl)) (SE.int 0 _ _) _) (SEs.cons (SE.call O ((signed_of_w S T).mono (by decide)) "signed_of" (SEs.cons (SE.item (SB.of (SE.name O 0 "x" _ rfl)) (SE.int 1 _ _) _) SEs.nil) _ _ rfl T.signed_of.gname) (SEs.cons (SE.name O 2 "w" _ rfl) (SEs.cons (SE.name O 3 "mul" _ rfl) SEs.nil)))) _ _ rfl T.s_mul.gname) SEs.nil)) _ _ rfl T.s_compare.gname) _)
    SSs.nil)
  case hP =>
    intro xs G h
    obtain ⟨w, p, q, ⟨hw, ⟨hp1, hp2⟩, ⟨hq1, hq2⟩⟩, rfl, hG⟩ := h
    refine ⟨rfl, ?_⟩
    ((try dsimp only [zaa, zab, zac, zad, zae, zaf, zag, zah, zai, zaj, zak, zal, zam, zan, zao, zap, zaq, zar, zas, zat, zau, zav, zaw, zax, zay, zaz, zba, zbb, zbc, zbd, zbe, zbf, zbg, zbh, zbi, zbj, zbk, zbl, zbm, zbn, zbo, zbp, zbq, zbr, zbs, zbt, zbu, zbv, zbw, zbx, zby, zbz, zca, zcb, zcc, zcd, zce, zcf, zcg, zch, zci, zcj, zck, zcl, zcm, zcn, zco, zcp, zcq, zcr, zcs, zct, zcu, zcv, zcw, zcx, zcy, zcz, zda, zdb, zdc, zdd, zde, zdf, zdg, zdh, zdi, zdj, zdk, zdl, zdm, zdn, zdo, zdp, zdq, zdr, zds, zdt, zdu, zdv, zdw, zdx, zdy, zdz, zea, zeb, zec, zed, zee, zef, zeg, zeh, zei, zej, zek, zel, zem, zen, zeo, zep, zeq, zer, zes, zet, zeu, zev, zew, zex, zey, zez, zfa, zfb, zfc, zfd, zfe, zff, zfg, zfh, zfi, zfj, zfk, zfl, zfm, zfn, zfo, zfp, zfq, zfr, zfs, zft, zfu, zfv, zfw, zfx, zfy, zfz, zga, zgb, zgc, Nat.reduceAdd]); (try simp only [zgd, zge, zgf, zgg, true_and, and_true]))
    have b1 : p.num.natAbs * q.den ≤ 2 ^ 60 * 2 ^ 60 := Nat.mul_le_mul (by lia) (by lia)
    have b2 : q.num.natAbs * p.den ≤ 2 ^ 60 * 2 ^ 60 := Nat.mul_le_mul (by lia) (by lia)
    refine ⟨w, q.den, trivial, rfl, w, p.num, (q.den : Int), ⟨hw, by lia, by lia⟩, rfl, w, p.den, trivial, rfl, w, q.num, (p.den : Int), ⟨hw, by lia, by lia⟩, rfl, w, p.num * q.den, q.num * p.den, ⟨hw, by rw [Int.natAbs_mul, Int.natAbs_natCast]; lia, by rw [Int.natAbs_mul, Int.natAbs_natCast]; lia⟩, rfl, hG⟩
end Mine

open PySem PySem.Calls PyProof.Rows
set_option Elab.async false
set_option maxRecDepth 100000
set_option maxHeartbeats 4000000
namespace Mine
theorem divrem_school_w {prog : Program} {w : World} {h0 : Heap} {mg mb : Str → Option Value} {ads : Ads} (S : Stat h0 mg mb) (T : Tops h0 mg ads) : FnOk prog w h0 4 (ads 43) (P_divrem_school ads) := by
  refine' fnOk_of (d := 3) S T.divrem_school ["a", "b", "w"] ["shift", "divisor", "rest", "quotient"] ?hb ?hl ?hn rfl rfl rfl ?hc (fun A L cd O => ?hB) (P_divrem_school ads) ?hP
  case hb =>
    intro pm cd doc vs h
    exact vs3 (P := fun vs => bindArgs _ ⟨vs, []⟩ = pure (List.zip _ vs)) (by intros; rfl) h
  case hl => decide
  case hn => decide
  case hc => decide
  case hB =>
    exact (SSs.cons (SS.guard (STr.cmp O eq_ok (SE.len O (SB.of (SE.name O 1 "b" _ rfl)) _ _ rfl S.len.1 S.len.2) (SE.int 0 _ _) _) _)
    (SSs.cons (SS.ite (STr.cmp O lt_ok (SE.call O ((compare_w S T).mono (by decide)) "compare" (SEs.cons (SE.name O 0 "a" _ rfl) (SEs.cons (SE.name O 1 "b" _ rfl) SEs.nil)) _ _ rfl T.compare.gname) (SE.int 0 _ _) _) (SSs.cons (SS.ret (SE.tuple (SEs.cons (SE.listI SEs.nil _) (SEs.cons (SE.slice (SB.of (SE.name O 0 "a" _ rfl)) OptE.none OptE.none _ _) SEs.nil)) _ _) _)
    SSs.nil) SSs.nil _)
    (SSs.cons (SS.ite (STr.cmp O eq_ok (SE.len O (SB.of (SE.name O 1 "b" _ rfl)) _ _ rfl S.len.1 S.len.2) (SE.int 1 _ _) _) (SSs.cons (SS.ret (SE.call O ((divrem_small_w S T).mono (by decide)) "divrem_small" (SEs.cons (SE.name O 0 "a" _ rfl) (SEs.cons (SE.name O 1 "b" _ rfl) (SEs.cons (SE.name O 2 "w" _ rfl) SEs.nil))) _ _ rfl T.divrem_small.gname) _)
    SSs.nil) SSs.nil _)
    (SSs.cons (SS.assign O 3 "shift" (SE.bin sub_ok (SE.name O 2 "w" _ rfl) (SE.call O ((bits_w S T).mono (by decide)) "bits" (SEs.cons (SE.listI (SEs.cons (SE.last (SB.of (SE.name O 1 "b" _ rfl)) _ _ _ _) SEs.nil) _) (SEs.cons (SE.name O 2 "w" _ rfl) SEs.nil)) _ _ rfl T.bits.gname) _) _ _ rfl (.inl ⟨rfl, rfl⟩))
    (SSs.cons (SS.assign O 4 "divisor" (SE.call O ((shift_left_w S T).mono (by decide)) "shift_left" (SEs.cons (SE.name O 1 "b" _ rfl) (SEs.cons (SE.name O 3 "shift" _ rfl) (SEs.cons (SE.name O 2 "w" _ rfl) SEs.nil))) _ _ rfl T.shift_left.gname) _ _ rfl (.inl ⟨rfl, rfl⟩))
    (SSs.cons (SS.assign O 5 "rest" (SE.call O ((shift_left_w S T).mono (by decide)) "shift_left" (SEs.cons (SE.name O 0 "a" _ rfl) (SEs.cons (SE.name O 3 "shift" _ rfl) (SEs.cons (SE.name O 2 "w" _ rfl) SEs.nil))) _ _ rfl T.shift_left.gname) _ _ rfl (.inl ⟨rfl, rfl⟩))
    (SSs.cons (SS.assignO O 5 "rest" (SO.add (SE.name O 5 "rest" _ rfl) (SE.bin mul_ok (SE.listI (SEs.cons (SE.int 0 _ _) SEs.nil) _) (SE.bin sub_ok (SE.bin add_ok (SE.len O (SB.of (SE.name O 0 "a" _ rfl)) _ _ rfl S.len.1 S.len.2) (SE.int 1 _ _) _) (SE.len O (SB.of (SE.name O 5 "rest" _ rfl)) _ _ rfl S.len.1 S.len.2) _) _) _) _ _ rfl (.inl ⟨rfl, rfl⟩))
    (SSs.cons (SS.assignM O 6 "quotient" (SM.call O ((divide_rows_w S T).mono (by decide)) 5 "rest" "divide_rows" (SEs.cons (SE.name O 4 "divisor" _ rfl) (SEs.cons (SE.name O 2 "w" _ rfl) SEs.nil)) _ _ _ rfl rfl T.divide_rows.gname) _ _ rfl (.inl ⟨rfl, rfl⟩))
    (SSs.cons (SS.freeze 5 (SS.ret (SE.tuple (SEs.cons (SE.call O ((normal_w S T).mono (by decide)) "normal" (SEs.cons (SE.name O 6 "quotient" _ rfl) SEs.nil) _ _ rfl T.normal.gname) (SEs.cons (SE.call O ((shift_right_w S T).mono (by decide)) "shift_right" (SEs.cons (SE.call O ((normal_w S T).mono (by decide)) "normal" (SEs.cons (SE.name O 5 "rest" _ rfl) SEs.nil) _ _ rfl T.normal.gname) (SEs.cons (SE.name O 3 "shift" _ rfl) (SEs.cons (SE.name O 2 "w" _ rfl) SEs.nil))) _ _ rfl T.shift_right.gname) SEs.nil)) _ _) _))
    SSs.nil)))))))))
  case hP =>
    intro xs G h
    obtain ⟨w, m, n, ⟨hw, hm, hn, hn0⟩, rfl, hG⟩ := h
    refine ⟨rfl, ?_⟩
    have hB := B2 hw
    have h256 := B256 hw
    have h8 := hw.hi
    have la := limbs_len hB hm
    have lb := limbs_len hB hn
    have l0 := limbs_len0 hB n
    ((try dsimp only [zaa, zab, zac, zad, zae, zaf, zag, zah, zai, zaj, zak, zal, zam, zan, zao, zap, zaq, zar, zas, zat, zau, zav, zaw, zax, zay, zaz, zba, zbb, zbc, zbd, zbe, zbf, zbg, zbh, zbi, zbj, zbk, zbl, zbm, zbn, zbo, zbp, zbq, zbr, zbs, zbt, zbu, zbv, zbw, zbx, zby, zbz, zca, zcb, zcc, zcd, zce, zcf, zcg, zch, zci, zcj, zck, zcl, zcm, zcn, zco, zcp, zcq, zcr, zcs, zct, zcu, zcv, zcw, zcx, zcy, zcz, zda, zdb, zdc, zdd, zde, zdf, zdg, zdh, zdi, zdj, zdk, zdl, zdm, zdn, zdo, zdp, zdq, zdr, zds, zdt, zdu, zdv, zdw, zdx, zdy, zdz, zea, zeb, zec, zed, zee, zef, zeg, zeh, zei, zej, zek, zel, zem, zen, zeo, zep, zeq, zer, zes, zet, zeu, zev, zew, zex, zey, zez, zfa, zfb, zfc, zfd, zfe, zff, zfg, zfh, zfi, zfj, zfk, zfl, zfm, zfn, zfo, zfp, zfq, zfr, zfs, zft, zfu, zfv, zfw, zfx, zfy, zfz, zga, zgb, zgc, Nat.reduceAdd] at hG ⊢); (try simp only [zgd, zge, zgf, zgg, true_and, and_true, Int.one_mul] at hG ⊢); (try dsimp only [zaa, zab, zac, zad, zae, zaf, zag, zah, zai, zaj, zak, zal, zam, zan, zao, zap, zaq, zar, zas, zat, zau, zav, zaw, zax, zay, zaz, zba, zbb, zbc, zbd, zbe, zbf, zbg, zbh, zbi, zbj, zbk, zbl, zbm, zbn, zbo, zbp, zbq, zbr, zbs, zbt, zbu, zbv, zbw, zbx, zby, zbz, zca, zcb, zcc, zcd, zce, zcf, zcg, zch, zci, zcj, zck, zcl, zcm, zcn, zco, zcp, zcq, zcr, zcs, zct, zcu, zcv, zcw, zcx, zcy, zcz, zda, zdb, zdc, zdd, zde, zdf, zdg, zdh, zdi, zdj, zdk, zdl, zdm, zdn, zdo, zdp, zdq, zdr, zds, zdt, zdu, zdv, zdw, zdx, zdy, zdz, zea, zeb, zec, zed, zee, zef, zeg, zeh, zei, zej, zek, zel, zem, zen, zeo, zep, zeq, zer, zes, zet, zeu, zev, zew, zex, zey, zez, zfa, zfb, zfc, zfd, zfe, zff, zfg, zfh, zfi, zfj, zfk, zfl, zfm, zfn, zfo, zfp, zfq, zfr, zfs, zft, zfu, zfv, zfw, zfx, zfy, zfz, zga, zgb, zgc, Nat.reduceAdd] at hG ⊢))
    refine ⟨by apply decide_eq_false; lia, w, m, n, ⟨hw, by lia, by lia⟩, rfl, ?_⟩
    ((try dsimp only [zaa, zab, zac, zad, zae, zaf, zag, zah, zai, zaj, zak, zal, zam, zan, zao, zap, zaq, zar, zas, zat, zau, zav, zaw, zax, zay, zaz, zba, zbb, zbc, zbd, zbe, zbf, zbg, zbh, zbi, zbj, zbk, zbl, zbm, zbn, zbo, zbp, zbq, zbr, zbs, zbt, zbu, zbv, zbw, zbx, zby, zbz, zca, zcb, zcc, zcd, zce, zcf, zcg, zch, zci, zcj, zck, zcl, zcm, zcn, zco, zcp, zcq, zcr, zcs, zct, zcu, zcv, zcw, zcx, zcy, zcz, zda, zdb, zdc, zdd, zde, zdf, zdg, zdh, zdi, zdj, zdk, zdl, zdm, zdn, zdo, zdp, zdq, zdr, zds, zdt, zdu, zdv, zdw, zdx, zdy, zdz, zea, zeb, zec, zed, zee, zef, zeg, zeh, zei, zej, zek, zel, zem, zen, zeo, zep, zeq, zer, zes, zet, zeu, zev, zew, zex, zey, zez, zfa, zfb, zfc, zfd, zfe, zff, zfg, zfh, zfi, zfj, zfk, zfl, zfm, zfn, zfo, zfp, zfq, zfr, zfs, zft, zfu, zfv, zfw, zfx, zfy, zfz, zga, zgb, zgc, Nat.reduceAdd]); (try simp only [zgd, zge, zgf, zgg, true_and, and_true, Int.sign_neg_iff]); (try dsimp only [zaa, zab, zac, zad, zae, zaf, zag, zah, zai, zaj, zak, zal, zam, zan, zao, zap, zaq, zar, zas, zat, zau, zav, zaw, zax, zay, zaz, zba, zbb, zbc, zbd, zbe, zbf, zbg, zbh, zbi, zbj, zbk, zbl, zbm, zbn, zbo, zbp, zbq, zbr, zbs, zbt, zbu, zbv, zbw, zbx, zby, zbz, zca, zcb, zcc, zcd, zce, zcf, zcg, zch, zci, zcj, zck, zcl, zcm, zcn, zco, zcp, zcq, zcr, zcs, zct, zcu, zcv, zcw, zcx, zcy, zcz, zda, zdb, zdc, zdd, zde, zdf, zdg, zdh, zdi, zdj, zdk, zdl, zdm, zdn, zdo, zdp, zdq, zdr, zds, zdt, zdu, zdv, zdw, zdx, zdy, zdz, zea, zeb, zec, zed, zee, zef, zeg, zeh, zei, zej, zek, zel, zem, zen, zeo, zep, zeq, zer, zes, zet, zeu, zev, zew, zex, zey, zez, zfa, zfb, zfc, zfd, zfe, zff, zfg, zfh, zfi, zfj, zfk, zfl, zfm, zfn, zfo, zfp, zfq, zfr, zfs, zft, zfu, zfv, zfw, zfx, zfy, zfz, zga, zgb, zgc, Nat.reduceAdd]))
    refine ⟨fun h => ?_, fun h => ⟨fun h1 => ?_, fun h1 => ⟨by lia, ?_⟩⟩⟩
    · rw [Nat.div_eq_of_lt (by lia), Nat.mod_eq_of_lt (by lia), limbs_zero] at hG
      rw [pick_all]; exact hG
    · have hlt := limbs_lt hB n
      rw [show (limbs (2 ^ w) n).length = 1 by lia, Nat.pow_one] at hlt
      exact ⟨w, m, n, ⟨hw, by lia, hn0, hlt⟩, rfl, hG⟩
    have db := limbs_dg hB n
    have dgt := db.getD (by lia) ((limbs (2 ^ w) n).length - 1)
    have nrm := limbs_nrm hB n
    have hx : 0 < (limbs (2 ^ w) n).getD ((limbs (2 ^ w) n).length - 1) 0 := by
      rcases nrm with e | e
      · rw [e] at h1 l0; simp at l0; lia
      · lia
    obtain ⟨x, hxe⟩ : ∃ x : Nat, (limbs (2 ^ w) n).getD ((limbs (2 ^ w) n).length - 1) 0 = (x : Int) := ⟨_, (Int.toNat_of_nonneg dgt.1).symm⟩
    rw [hxe] at hx dgt ⊢
    refine ⟨w, x, ⟨hw, by lia, by lia⟩, rfl, ?_⟩
    ((try dsimp only [zaa, zab, zac, zad, zae, zaf, zag, zah, zai, zaj, zak, zal, zam, zan, zao, zap, zaq, zar, zas, zat, zau, zav, zaw, zax, zay, zaz, zba, zbb, zbc, zbd, zbe, zbf, zbg, zbh, zbi, zbj, zbk, zbl, zbm, zbn, zbo, zbp, zbq, zbr, zbs, zbt, zbu, zbv, zbw, zbx, zby, zbz, zca, zcb, zcc, zcd, zce, zcf, zcg, zch, zci, zcj, zck, zcl, zcm, zcn, zco, zcp, zcq, zcr, zcs, zct, zcu, zcv, zcw, zcx, zcy, zcz, zda, zdb, zdc, zdd, zde, zdf, zdg, zdh, zdi, zdj, zdk, zdl, zdm, zdn, zdo, zdp, zdq, zdr, zds, zdt, zdu, zdv, zdw, zdx, zdy, zdz, zea, zeb, zec, zed, zee, zef, zeg, zeh, zei, zej, zek, zel, zem, zen, zeo, zep, zeq, zer, zes, zet, zeu, zev, zew, zex, zey, zez, zfa, zfb, zfc, zfd, zfe, zff, zfg, zfh, zfi, zfj, zfk, zfl, zfm, zfn, zfo, zfp, zfq, zfr, zfs, zft, zfu, zfv, zfw, zfx, zfy, zfz, zga, zgb, zgc, Nat.reduceAdd]); (try simp only [zgd, zge, zgf, zgg, true_and, and_true]))
    have hbx : Builtin.Int.intBits (x : Int) ≤ w := intBits_le (by lia)
    have hbx0 : 0 < Builtin.Int.intBits (x : Int) := by
      rcases Nat.eq_zero_or_pos (Builtin.Int.intBits (x : Int)) with e | e
      · have := (PySem.intBits_le_iff (m := 0) (x := (x : Int))).mp (by lia)
        lia
      · exact e
    have hxb : x < 2 ^ Builtin.Int.intBits (x : Int) := by
      have := (PySem.intBits_le_iff (m := Builtin.Int.intBits (x : Int)) (x := (x : Int))).mp (Nat.le_refl _)
      lia
    generalize hbe : Builtin.Int.intBits (x : Int) = be at *
    obtain ⟨s, hs⟩ : ∃ s : Nat, w - be = s := ⟨_, rfl⟩
    have hsub : (w : Int) - (be : Int) = (s : Int) := by lia
    rw [hsub]
    refine ⟨w, n, s, ⟨hw, by lia, by lia⟩, rfl, w, m, s, ⟨hw, by lia, by lia⟩, rfl, ?_⟩
    ((try dsimp only [zaa, zab, zac, zad, zae, zaf, zag, zah, zai, zaj, zak, zal, zam, zan, zao, zap, zaq, zar, zas, zat, zau, zav, zaw, zax, zay, zaz, zba, zbb, zbc, zbd, zbe, zbf, zbg, zbh, zbi, zbj, zbk, zbl, zbm, zbn, zbo, zbp, zbq, zbr, zbs, zbt, zbu, zbv, zbw, zbx, zby, zbz, zca, zcb, zcc, zcd, zce, zcf, zcg, zch, zci, zcj, zck, zcl, zcm, zcn, zco, zcp, zcq, zcr, zcs, zct, zcu, zcv, zcw, zcx, zcy, zcz, zda, zdb, zdc, zdd, zde, zdf, zdg, zdh, zdi, zdj, zdk, zdl, zdm, zdn, zdo, zdp, zdq, zdr, zds, zdt, zdu, zdv, zdw, zdx, zdy, zdz, zea, zeb, zec, zed, zee, zef, zeg, zeh, zei, zej, zek, zel, zem, zen, zeo, zep, zeq, zer, zes, zet, zeu, zev, zew, zex, zey, zez, zfa, zfb, zfc, zfd, zfe, zff, zfg, zfh, zfi, zfj, zfk, zfl, zfm, zfn, zfo, zfp, zfq, zfr, zfs, zft, zfu, zfv, zfw, zfx, zfy, zfz, zga, zgb, zgc, Nat.reduceAdd]); (try simp only [zgd, zge, zgf, zgg, true_and, and_true]))
    have hmn : n ≤ m := by lia
    have hpws : 2 ^ be * 2 ^ s = 2 ^ w := by rw [← Nat.pow_add]; congr 1; lia
    have hs1 : 1 ≤ 2 ^ s := Nat.one_le_two_pow
    have hsB : 2 ^ s ≤ 2 ^ w := Nat.pow_le_pow_right (by lia) (by lia)
    have hs256 : 2 ^ s ≤ 256 := by lia
    have hmlt := limbs_lt hB m
    have hnge := limbs_ge hB hn0
    have hvn := val_take_drop ((2 ^ w : Nat) : Int) (limbs (2 ^ w) n) ((limbs (2 ^ w) n).length - 1) (by lia)
    have hdn := val_drop ((2 ^ w : Nat) : Int) (limbs (2 ^ w) n) ((limbs (2 ^ w) n).length - 1)
    rw [hxe, List.drop_of_length_le (i := (limbs (2 ^ w) n).length - 1 + 1) (by lia)] at hdn
    rw [hdn, limbs_val hB] at hvn
    have hlo := val_lt (db.take ((limbs (2 ^ w) n).length - 1))
    rw [List.length_take_of_le (by lia)] at hlo
    have hlenmono : (limbs (2 ^ w) n).length ≤ (limbs (2 ^ w) m).length := by
      rcases Nat.lt_or_ge (limbs (2 ^ w) m).length (limbs (2 ^ w) n).length with h | h
      · have := limbs_len_lt hB h; lia
      · exact h
    obtain ⟨la', hla⟩ : ∃ k, (limbs (2 ^ w) m).length = k := ⟨_, rfl⟩
    obtain ⟨ln, hln⟩ : ∃ k, (limbs (2 ^ w) n).length = k := ⟨_, rfl⟩
    rw [hla] at la hmlt hlenmono ⊢
    rw [hln] at lb l0 h1 hnge hvn hlo hlenmono
    have hpc : ∀ k : Nat, (((2 ^ w) ^ k : Nat) : Int) = ((2 ^ w : Nat) : Int) ^ k := fun k => Int.natCast_pow _ _
    have hnlt : n < (2 ^ w) ^ (ln - 1) * (x + 1) := by
      have : (n : Int) < (((2 ^ w) ^ (ln - 1) * (x + 1) : Nat) : Int) := by
        rw [Int.natCast_mul, hpc, Int.natCast_add, Int.mul_add, hvn]
        simp only [val, Int.mul_zero, Int.add_zero]
        lia
      lia
    have hn2 : n * 2 ^ s < (2 ^ w) ^ ln := by
      have h3 : (2 ^ w) ^ (ln - 1) * (x + 1) * 2 ^ s ≤ (2 ^ w) ^ (ln - 1) * 2 ^ w := by
        rw [Nat.mul_assoc, ← hpws]
        exact Nat.mul_le_mul_left _ (Nat.mul_le_mul_right _ hxb)
      have h4 : n * 2 ^ s < (2 ^ w) ^ (ln - 1) * (x + 1) * 2 ^ s := Nat.mul_lt_mul_of_pos_right hnlt (by lia)
      have h5 : (2 ^ w) ^ (ln - 1) * 2 ^ w = (2 ^ w) ^ ln := by rw [← Nat.pow_succ]; congr 1; lia
      lia
    have hnn : n * 1 ≤ n * 2 ^ s := Nat.mul_le_mul_left _ hs1
    have hlnD : (limbs (2 ^ w) (n * 2 ^ s)).length = ln := by
      have h1 := limbs_len_le hB hn2
      have h2 := limbs_len_ge hB (show (2 ^ w) ^ (ln - 1) ≤ n * 2 ^ s by lia)
      lia
    have hm2 : m * 2 ^ s < (2 ^ w) ^ (la' + 1) := by
      rw [Nat.pow_succ]
      exact Nat.lt_of_lt_of_le (Nat.mul_lt_mul_of_pos_right hmlt (by lia)) (Nat.mul_le_mul_left _ hsB)
    have hlmR := limbs_len_le hB hm2
    have hn200 : n * 2 ^ s ≤ 2 ^ 200 * 256 := Nat.mul_le_mul (by lia) hs256
    have hm200 : m * 2 ^ s ≤ 2 ^ 200 * 256 := Nat.mul_le_mul (by lia) hs256
    obtain ⟨lm, hlm⟩ : ∃ k, (limbs (2 ^ w) (m * 2 ^ s)).length = k := ⟨_, rfl⟩
    rw [hlm] at hlmR ⊢
    have hcnt : ((la' : Int) + 1 - (lm : Int)).toNat = la' + 1 - lm := by lia
    show mulT _ _ _
    unfold mulT
    simp only [hcnt, flat1, List.length_singleton]
    refine ⟨by lia, by lia, by lia, ?_⟩
    ((try dsimp only [zaa, zab, zac, zad, zae, zaf, zag, zah, zai, zaj, zak, zal, zam, zan, zao, zap, zaq, zar, zas, zat, zau, zav, zaw, zax, zay, zaz, zba, zbb, zbc, zbd, zbe, zbf, zbg, zbh, zbi, zbj, zbk, zbl, zbm, zbn, zbo, zbp, zbq, zbr, zbs, zbt, zbu, zbv, zbw, zbx, zby, zbz, zca, zcb, zcc, zcd, zce, zcf, zcg, zch, zci, zcj, zck, zcl, zcm, zcn, zco, zcp, zcq, zcr, zcs, zct, zcu, zcv, zcw, zcx, zcy, zcz, zda, zdb, zdc, zdd, zde, zdf, zdg, zdh, zdi, zdj, zdk, zdl, zdm, zdn, zdo, zdp, zdq, zdr, zds, zdt, zdu, zdv, zdw, zdx, zdy, zdz, zea, zeb, zec, zed, zee, zef, zeg, zeh, zei, zej, zek, zel, zem, zen, zeo, zep, zeq, zer, zes, zet, zeu, zev, zew, zex, zey, zez, zfa, zfb, zfc, zfd, zfe, zff, zfg, zfh, zfi, zfj, zfk, zfl, zfm, zfn, zfo, zfp, zfq, zfr, zfs, zft, zfu, zfv, zfw, zfx, zfy, zfz, zga, zgb, zgc, Nat.reduceAdd]); (try simp only [zgd, zge, zgf, zgg, true_and, and_true, hlm, List.length_replicate]); (try dsimp only [zaa, zab, zac, zad, zae, zaf, zag, zah, zai, zaj, zak, zal, zam, zan, zao, zap, zaq, zar, zas, zat, zau, zav, zaw, zax, zay, zaz, zba, zbb, zbc, zbd, zbe, zbf, zbg, zbh, zbi, zbj, zbk, zbl, zbm, zbn, zbo, zbp, zbq, zbr, zbs, zbt, zbu, zbv, zbw, zbx, zby, zbz, zca, zcb, zcc, zcd, zce, zcf, zcg, zch, zci, zcj, zck, zcl, zcm, zcn, zco, zcp, zcq, zcr, zcs, zct, zcu, zcv, zcw, zcx, zcy, zcz, zda, zdb, zdc, zdd, zde, zdf, zdg, zdh, zdi, zdj, zdk, zdl, zdm, zdn, zdo, zdp, zdq, zdr, zds, zdt, zdu, zdv, zdw, zdx, zdy, zdz, zea, zeb, zec, zed, zee, zef, zeg, zeh, zei, zej, zek, zel, zem, zen, zeo, zep, zeq, zer, zes, zet, zeu, zev, zew, zex, zey, zez, zfa, zfb, zfc, zfd, zfe, zff, zfg, zfh, zfi, zfj, zfk, zfl, zfm, zfn, zfo, zfp, zfq, zfr, zfs, zft, zfu, zfv, zfw, zfx, zfy, zfz, zga, zgb, zgc, Nat.reduceAdd]))
    refine ⟨by lia, ?_⟩
    have hvr : val ((2 ^ w : Nat) : Int) (limbs (2 ^ w) (m * 2 ^ s) ++ List.replicate (la' + 1 - lm) 0) = ((m * 2 ^ s : Nat) : Int) := by
      rw [val_append, val_rep, limbs_val hB]; simp
    have hdr : Dg (2 ^ w) (limbs (2 ^ w) (m * 2 ^ s) ++ List.replicate (la' + 1 - lm) 0) := (limbs_dg hB _).append (Dg.rep (by lia) _)
    have hlr : (limbs (2 ^ w) (m * 2 ^ s) ++ List.replicate (la' + 1 - lm) 0).length = la' + 1 := by
      rw [List.length_append, hlm, List.length_replicate]; lia
    generalize limbs (2 ^ w) (m * 2 ^ s) ++ List.replicate (la' + 1 - lm) 0 = rest at *
    have dD := limbs_dg hB (n * 2 ^ s)
    have vD := limbs_val hB (n * 2 ^ s)
    have nD := limbs_nrm hB (n * 2 ^ s)
    have htopD : 0 < (limbs (2 ^ w) (n * 2 ^ s)).getD (ln - 1) 0 := by
      have := dD.getD (by lia) (ln - 1)
      rcases nD with e | e
      · rw [e] at hlnD; simp at hlnD; lia
      · rw [hlnD] at e; lia
    have hini : val ((2 ^ w : Nat) : Int) (rest.drop (la' + 1 - ln)) < ((n * 2 ^ s : Nat) : Int) := by
      have h1 := val_take_drop ((2 ^ w : Nat) : Int) rest (la' + 1 - ln) (by lia)
      have h2 := val_nonneg (hdr.take (la' + 1 - ln))
      have h3 := val_nonneg (hdr.drop (la' + 1 - ln))
      obtain ⟨Z, hZ⟩ : ∃ Z : Nat, val ((2 ^ w : Nat) : Int) (rest.drop (la' + 1 - ln)) = (Z : Int) := ⟨_, (Int.toNat_of_nonneg h3).symm⟩
      rw [hZ] at h1 ⊢
      rcases Nat.lt_or_ge Z (n * 2 ^ s) with h | h
      · lia
      · have h4 : (2 ^ w) ^ (la' + 1 - ln) * ((2 ^ w) ^ (ln - 1) * 2 ^ s) ≤ (2 ^ w) ^ (la' + 1 - ln) * Z := Nat.mul_le_mul_left _ (Nat.le_trans (Nat.mul_le_mul_right _ hnge) h)
        have h5 : (2 ^ w) ^ (la' + 1 - ln) * ((2 ^ w) ^ (ln - 1) * 2 ^ s) = (2 ^ w) ^ la' * 2 ^ s := by
          rw [← Nat.mul_assoc, ← Nat.pow_add]; congr 2; lia
        have h6 : m * 2 ^ s < (2 ^ w) ^ la' * 2 ^ s := Nat.mul_lt_mul_of_pos_right hmlt (by lia)
        have h7 : (((2 ^ w) ^ (la' + 1 - ln) * Z : Nat) : Int) = ((2 ^ w : Nat) : Int) ^ (la' + 1 - ln) * Z := by rw [Int.natCast_mul, hpc]
        lia
    refine ⟨w, rest, limbs (2 ^ w) (n * 2 ^ s), ⟨hw, hdr, dD, by lia, by lia, by lia, by rw [hlnD]; exact htopD, by rw [hlr, hlnD, vD]; exact hini⟩, rfl, rfl, ?_⟩
    intro Q rest' dQ dR lR' lQ' hv' hlt'
    have q0 := val_nonneg dQ
    have r0 := val_nonneg dR
    obtain ⟨q, hq⟩ : ∃ q : Nat, val ((2 ^ w : Nat) : Int) Q = (q : Int) := ⟨_, (Int.toNat_of_nonneg q0).symm⟩
    obtain ⟨r, hr⟩ : ∃ r : Nat, val ((2 ^ w : Nat) : Int) rest' = (r : Int) := ⟨_, (Int.toNat_of_nonneg r0).symm⟩
    rw [hvr, hq, hr, vD, ← Int.natCast_mul, ← Int.natCast_add] at hv'
    rw [hr, vD] at hlt'
    have hv2 : m * 2 ^ s = q * (n * 2 ^ s) + r := Int.ofNat_inj.mp hv'
    have hn2p : 0 < n * 2 ^ s := by lia
    have hquot : m / n = q := by
      rw [← Nat.mul_div_mul_right m n (show 0 < 2 ^ s by lia), hv2, Nat.mul_comm q, Nat.mul_add_div hn2p, Nat.div_eq_of_lt (by lia)]; lia
    have hrem : m % n * 2 ^ s = r := by
      rw [← Nat.mul_mod_mul_right, hv2, Nat.mul_comm q, Nat.mul_add_mod, Nat.mod_eq_of_lt (by lia)]
    refine ⟨w, Q, ⟨hw, dQ, by lia⟩, rfl, w, rest', ⟨hw, dR, by lia⟩, rfl, ?_⟩
    rw [hq, hr, Int.toNat_natCast, Int.toNat_natCast]
    refine ⟨w, r, s, ⟨hw, by lia, by lia⟩, rfl, ?_⟩
    rw [← hrem, Nat.mul_div_cancel _ (by lia), ← hquot]
    exact hG
end Mine

open PySem PySem.Calls PyProof.Rows
set_option Elab.async false
set_option maxRecDepth 100000
set_option maxHeartbeats 4000000
namespace Mine
theorem tdiv_w {prog : Program} {w : World} {h0 : Heap} {mg mb : Str → Option Value} {ads : Ads} (S : Stat h0 mg mb) (T : Tops h0 mg ads) : FnOk prog w h0 5 (ads 21) (P_tdiv ads) := by
  refine' fnOk_of (d := 4) S T.tdiv ["x", "y", "w", "divrem"] ["quotient", "rest"] ?hb ?hl ?hn rfl rfl rfl ?hc (fun A L cd O => ?hB) (P_tdiv ads) ?hP
  case hb =>
    intro pm cd doc vs h
    exact vs4 (P := fun vs => bindArgs _ ⟨vs, []⟩ = pure (List.zip _ vs)) (by intros; rfl) h
  case hl => decide
  case hn => decide
  case hc => decide
  case hB =>
    exact (SSs.cons (SS.guard (STr.cmp O eq_ok (SE.len O (SB.of (SE.item (SB.of (SE.name O 1 "y" _ rfl)) (SE.int 1 _ _) _)) _ _ rfl S.len.1 S.len.2) (SE.int 0 _ _) _) _)
    (SSs.cons (SS.assignU O [(4, "quotient", _), (5, "rest", _)] (SE.callv O ((divrem_school_w S T).mono (by decide)) 3 "divrem" (SEs.cons (SE.item (SB.of (SE.name O 0 "x" _ rfl)) (SE.int 1 _ _) _) (SEs.cons (SE.item (SB.of (SE.name O 1 "y" _ rfl)) (SE.int 1 _ _) _) (SEs.cons (SE.name O 2 "w" _ rfl) SEs.nil))) _ _ rfl) _ _ _ (all2 ⟨rfl, (.inl ⟨rfl, rfl⟩)⟩ ⟨rfl, (.inl ⟨rfl, rfl⟩)⟩))
    (SSs.cons (SS.ret (SE.tuple (SEs.cons (SE.call O ((signed_w S T).mono (by decide)) "signed" (SEs.cons (SE.cmp O ne_ok (SE.item (SB.of (SE.name O 0 "x" _ rfl)) (SE.int 0 _ _) _) (SE.item (SB.of (SE.name O 1 "y" _ rfl)) (SE.int 0 _ _) _) _) (SEs.cons (SE.name O 4 "quotient" _ rfl) SEs.nil)) _ _ rfl T.signed.gname) (SEs.cons (SE.call O ((signed_w S T).mono (by decide)) "signed" (SEs.cons (SE.item (SB.of (SE.name O 0 "x" _ rfl)) (SE.int 0 _ _) _) (SEs.cons (SE.name O 5 "rest" _ rfl) SEs.nil)) _ _ rfl T.signed.gname) SEs.nil)) _ _) _)
    SSs.nil)))
  case hP =>
    intro xs G h
    obtain ⟨w, m, n, ⟨hw, hm, hn, hn0⟩, rfl, hG⟩ := h
    refine ⟨rfl, ?_⟩
    have l0 := limbs_len0 (B2 hw) n
    ((try dsimp only [zaa, zab, zac, zad, zae, zaf, zag, zah, zai, zaj, zak, zal, zam, zan, zao, zap, zaq, zar, zas, zat, zau, zav, zaw, zax, zay, zaz, zba, zbb, zbc, zbd, zbe, zbf, zbg, zbh, zbi, zbj, zbk, zbl, zbm, zbn, zbo, zbp, zbq, zbr, zbs, zbt, zbu, zbv, zbw, zbx, zby, zbz, zca, zcb, zcc, zcd, zce, zcf, zcg, zch, zci, zcj, zck, zcl, zcm, zcn, zco, zcp, zcq, zcr, zcs, zct, zcu, zcv, zcw, zcx, zcy, zcz, zda, zdb, zdc, zdd, zde, zdf, zdg, zdh, zdi, zdj, zdk, zdl, zdm, zdn, zdo, zdp, zdq, zdr, zds, zdt, zdu, zdv, zdw, zdx, zdy, zdz, zea, zeb, zec, zed, zee, zef, zeg, zeh, zei, zej, zek, zel, zem, zen, zeo, zep, zeq, zer, zes, zet, zeu, zev, zew, zex, zey, zez, zfa, zfb, zfc, zfd, zfe, zff, zfg, zfh, zfi, zfj, zfk, zfl, zfm, zfn, zfo, zfp, zfq, zfr, zfs, zft, zfu, zfv, zfw, zfx, zfy, zfz, zga, zgb, zgc, Nat.reduceAdd] at hG ⊢); (try simp only [zgd, zge, zgf, zgg, true_and, and_true, Int.natAbs_natCast] at hG ⊢); (try dsimp only [zaa, zab, zac, zad, zae, zaf, zag, zah, zai, zaj, zak, zal, zam, zan, zao, zap, zaq, zar, zas, zat, zau, zav, zaw, zax, zay, zaz, zba, zbb, zbc, zbd, zbe, zbf, zbg, zbh, zbi, zbj, zbk, zbl, zbm, zbn, zbo, zbp, zbq, zbr, zbs, zbt, zbu, zbv, zbw, zbx, zby, zbz, zca, zcb, zcc, zcd, zce, zcf, zcg, zch, zci, zcj, zck, zcl, zcm, zcn, zco, zcp, zcq, zcr, zcs, zct, zcu, zcv, zcw, zcx, zcy, zcz, zda, zdb, zdc, zdd, zde, zdf, zdg, zdh, zdi, zdj, zdk, zdl, zdm, zdn, zdo, zdp, zdq, zdr, zds, zdt, zdu, zdv, zdw, zdx, zdy, zdz, zea, zeb, zec, zed, zee, zef, zeg, zeh, zei, zej, zek, zel, zem, zen, zeo, zep, zeq, zer, zes, zet, zeu, zev, zew, zex, zey, zez, zfa, zfb, zfc, zfd, zfe, zff, zfg, zfh, zfi, zfj, zfk, zfl, zfm, zfn, zfo, zfp, zfq, zfr, zfs, zft, zfu, zfv, zfw, zfx, zfy, zfz, zga, zgb, zgc, Nat.reduceAdd] at hG ⊢))
    have dn : ∀ k : Nat, decide ((k : Int) < 0) = false := fun k => by apply decide_eq_false; lia
    rw [dn, dn] at hG ⊢
    refine ⟨by apply decide_eq_false; lia, w, m, n, ⟨hw, by lia, by lia, hn0⟩, rfl, ?_⟩
    ((try dsimp only [zaa, zab, zac, zad, zae, zaf, zag, zah, zai, zaj, zak, zal, zam, zan, zao, zap, zaq, zar, zas, zat, zau, zav, zaw, zax, zay, zaz, zba, zbb, zbc, zbd, zbe, zbf, zbg, zbh, zbi, zbj, zbk, zbl, zbm, zbn, zbo, zbp, zbq, zbr, zbs, zbt, zbu, zbv, zbw, zbx, zby, zbz, zca, zcb, zcc, zcd, zce, zcf, zcg, zch, zci, zcj, zck, zcl, zcm, zcn, zco, zcp, zcq, zcr, zcs, zct, zcu, zcv, zcw, zcx, zcy, zcz, zda, zdb, zdc, zdd, zde, zdf, zdg, zdh, zdi, zdj, zdk, zdl, zdm, zdn, zdo, zdp, zdq, zdr, zds, zdt, zdu, zdv, zdw, zdx, zdy, zdz, zea, zeb, zec, zed, zee, zef, zeg, zeh, zei, zej, zek, zel, zem, zen, zeo, zep, zeq, zer, zes, zet, zeu, zev, zew, zex, zey, zez, zfa, zfb, zfc, zfd, zfe, zff, zfg, zfh, zfi, zfj, zfk, zfl, zfm, zfn, zfo, zfp, zfq, zfr, zfs, zft, zfu, zfv, zfw, zfx, zfy, zfz, zga, zgb, zgc, Nat.reduceAdd]); (try simp only [zgd, zge, zgf, zgg, true_and, and_true]))
    refine ⟨w, _, _, hw, rfl, ?_⟩
    refine ⟨w, _, _, hw, rfl, ?_⟩
    exact hG
end Mine

open PySem PySem.Calls PyProof.Rows
set_option Elab.async false
set_option maxRecDepth 100000
set_option maxHeartbeats 4000000
namespace Mine
theorem common_w {prog : Program} {w : World} {h0 : Heap} {mg mb : Str → Option Value} {ads : Ads} (S : Stat h0 mg mb) (T : Tops h0 mg ads) : FnOk prog w h0 5 (ads 25) (P_common ads) := by
  refine' fnOk_of (d := 4) S T.common ["a", "b", "w", "divrem"] [] ?hb ?hl ?hn rfl rfl rfl ?hc (fun A L cd O => ?hB) (P_common ads) ?hP
  case hb =>
    intro pm cd doc vs h
    exact vs4 (P := fun vs => bindArgs _ ⟨vs, []⟩ = pure (List.zip _ vs)) (by intros; rfl) h
  case hl => decide
  case hn => decide
  case hc => decide
  case hB =>
    exact (SSs.cons (SS.while O (STr.cmp O gt_ok (SE.len O (SB.of (SE.name O 1 "b" _ rfl)) _ _ rfl S.len.1 S.len.2) (SE.int 0 _ _) _) (SSs.cons (SS.assignTS O [(0, "a", ⟨0, 0, 0, 0⟩), (1, "b", ⟨0, 0, 0, 0⟩)] (SR.val (SE.name O 1 "b" _ rfl) (SR.val (SE.item (SB.of (SE.callv O ((divrem_school_w S T).mono (by decide)) 3 "divrem" (SEs.cons (SE.name O 0 "a" _ rfl) (SEs.cons (SE.name O 1 "b" _ rfl) (SEs.cons (SE.name O 2 "w" _ rfl) SEs.nil))) _ _ rfl)) (SE.int 1 _ _) _) SR.nil)) _ _ _ _ _ (all2 ⟨rfl, (.inl ⟨rfl, rfl⟩)⟩ ⟨rfl, (.inl ⟨rfl, rfl⟩)⟩))
    SSs.nil) _)
    (SSs.cons (SS.ret (SE.call O ((normal_w S T).mono (by decide)) "normal" (SEs.cons (SE.name O 0 "a" _ rfl) SEs.nil) _ _ rfl T.normal.gname) _)
    SSs.nil))
  case hP =>
    intro xs G h
    obtain ⟨w, m, n, ⟨hw, hm, hn⟩, rfl, hG⟩ := h
    refine ⟨rfl, ?_⟩
    ((try dsimp only [zaa, zab, zac, zad, zae, zaf, zag, zah, zai, zaj, zak, zal, zam, zan, zao, zap, zaq, zar, zas, zat, zau, zav, zaw, zax, zay, zaz, zba, zbb, zbc, zbd, zbe, zbf, zbg, zbh, zbi, zbj, zbk, zbl, zbm, zbn, zbo, zbp, zbq, zbr, zbs, zbt, zbu, zbv, zbw, zbx, zby, zbz, zca, zcb, zcc, zcd, zce, zcf, zcg, zch, zci, zcj, zck, zcl, zcm, zcn, zco, zcp, zcq, zcr, zcs, zct, zcu, zcv, zcw, zcx, zcy, zcz, zda, zdb, zdc, zdd, zde, zdf, zdg, zdh, zdi, zdj, zdk, zdl, zdm, zdn, zdo, zdp, zdq, zdr, zds, zdt, zdu, zdv, zdw, zdx, zdy, zdz, zea, zeb, zec, zed, zee, zef, zeg, zeh, zei, zej, zek, zel, zem, zen, zeo, zep, zeq, zer, zes, zet, zeu, zev, zew, zex, zey, zez, zfa, zfb, zfc, zfd, zfe, zff, zfg, zfh, zfi, zfj, zfk, zfl, zfm, zfn, zfo, zfp, zfq, zfr, zfs, zft, zfu, zfv, zfw, zfx, zfy, zfz, zga, zgb, zgc, Nat.reduceAdd] at hG ⊢); (try simp only [zgd, zge, zgf, zgg, true_and, and_true, Int.one_mul] at hG ⊢); (try dsimp only [zaa, zab, zac, zad, zae, zaf, zag, zah, zai, zaj, zak, zal, zam, zan, zao, zap, zaq, zar, zas, zat, zau, zav, zaw, zax, zay, zaz, zba, zbb, zbc, zbd, zbe, zbf, zbg, zbh, zbi, zbj, zbk, zbl, zbm, zbn, zbo, zbp, zbq, zbr, zbs, zbt, zbu, zbv, zbw, zbx, zby, zbz, zca, zcb, zcc, zcd, zce, zcf, zcg, zch, zci, zcj, zck, zcl, zcm, zcn, zco, zcp, zcq, zcr, zcs, zct, zcu, zcv, zcw, zcx, zcy, zcz, zda, zdb, zdc, zdd, zde, zdf, zdg, zdh, zdi, zdj, zdk, zdl, zdm, zdn, zdo, zdp, zdq, zdr, zds, zdt, zdu, zdv, zdw, zdx, zdy, zdz, zea, zeb, zec, zed, zee, zef, zeg, zeh, zei, zej, zek, zel, zem, zen, zeo, zep, zeq, zer, zes, zet, zeu, zev, zew, zex, zey, zez, zfa, zfb, zfc, zfd, zfe, zff, zfg, zfh, zfi, zfj, zfk, zfl, zfm, zfn, zfo, zfp, zfq, zfr, zfs, zft, zfu, zfv, zfw, zfx, zfy, zfz, zga, zgb, zgc, Nat.reduceAdd] at hG ⊢))
    have hB := B2 hw
    refine whN_inv (fun k σ => ∃ a : Nat, a < 2 ^ 190 ∧ k < 2 ^ 190 ∧ Nat.gcd a k = Nat.gcd m n ∧ σ = [.val (.ints (limbs (2 ^ w) a)), .val (.ints (limbs (2 ^ w) k)), .val (.int (w : Int)), .val (.fn (ads 43))]) (fun _ _ => False) n _ ⟨m, hm, hn, rfl, rfl⟩ ?_ (fun _ _ h => h.elim)
    rintro k σ K ⟨a, ha, hk, hg, rfl⟩ hK -
    have l0 := limbs_len0 hB k
    ((try dsimp only [zaa, zab, zac, zad, zae, zaf, zag, zah, zai, zaj, zak, zal, zam, zan, zao, zap, zaq, zar, zas, zat, zau, zav, zaw, zax, zay, zaz, zba, zbb, zbc, zbd, zbe, zbf, zbg, zbh, zbi, zbj, zbk, zbl, zbm, zbn, zbo, zbp, zbq, zbr, zbs, zbt, zbu, zbv, zbw, zbx, zby, zbz, zca, zcb, zcc, zcd, zce, zcf, zcg, zch, zci, zcj, zck, zcl, zcm, zcn, zco, zcp, zcq, zcr, zcs, zct, zcu, zcv, zcw, zcx, zcy, zcz, zda, zdb, zdc, zdd, zde, zdf, zdg, zdh, zdi, zdj, zdk, zdl, zdm, zdn, zdo, zdp, zdq, zdr, zds, zdt, zdu, zdv, zdw, zdx, zdy, zdz, zea, zeb, zec, zed, zee, zef, zeg, zeh, zei, zej, zek, zel, zem, zen, zeo, zep, zeq, zer, zes, zet, zeu, zev, zew, zex, zey, zez, zfa, zfb, zfc, zfd, zfe, zff, zfg, zfh, zfi, zfj, zfk, zfl, zfm, zfn, zfo, zfp, zfq, zfr, zfs, zft, zfu, zfv, zfw, zfx, zfy, zfz, zga, zgb, zgc, Nat.reduceAdd]); (try simp only [zgd, zge, zgf, zgg, true_and, and_true]))
    refine ⟨fun h => ?_, fun h => ?_⟩
    · refine ⟨w, a, k, ⟨hw, by lia, by lia, by lia⟩, rfl, ?_⟩
      have hm := Nat.mod_lt a (show k > 0 by lia)
      ((try dsimp only [zaa, zab, zac, zad, zae, zaf, zag, zah, zai, zaj, zak, zal, zam, zan, zao, zap, zaq, zar, zas, zat, zau, zav, zaw, zax, zay, zaz, zba, zbb, zbc, zbd, zbe, zbf, zbg, zbh, zbi, zbj, zbk, zbl, zbm, zbn, zbo, zbp, zbq, zbr, zbs, zbt, zbu, zbv, zbw, zbx, zby, zbz, zca, zcb, zcc, zcd, zce, zcf, zcg, zch, zci, zcj, zck, zcl, zcm, zcn, zco, zcp, zcq, zcr, zcs, zct, zcu, zcv, zcw, zcx, zcy, zcz, zda, zdb, zdc, zdd, zde, zdf, zdg, zdh, zdi, zdj, zdk, zdl, zdm, zdn, zdo, zdp, zdq, zdr, zds, zdt, zdu, zdv, zdw, zdx, zdy, zdz, zea, zeb, zec, zed, zee, zef, zeg, zeh, zei, zej, zek, zel, zem, zen, zeo, zep, zeq, zer, zes, zet, zeu, zev, zew, zex, zey, zez, zfa, zfb, zfc, zfd, zfe, zff, zfg, zfh, zfi, zfj, zfk, zfl, zfm, zfn, zfo, zfp, zfq, zfr, zfs, zft, zfu, zfv, zfw, zfx, zfy, zfz, zga, zgb, zgc, Nat.reduceAdd]); (try simp only [zgd, zge, zgf, zgg, true_and, and_true]))
      refine ⟨by decide, hK (a % k) _ hm ⟨k, hk, by lia, ?_, rfl⟩⟩
      rw [Nat.gcd_comm, ← Nat.gcd_rec, Nat.gcd_comm]; exact hg
    · have hk0 : k = 0 := by lia
      rw [hk0, Nat.gcd_zero_right] at hg
      refine ⟨w, _, ⟨hw, limbs_dg hB a, Nat.le_trans (limbs_len hB ha) (by lia)⟩, rfl, ?_⟩
      rw [limbs_val hB, Int.toNat_natCast, hg]
      exact hG
end Mine

open PySem PySem.Calls PyProof.Rows
set_option Elab.async false
set_option maxRecDepth 100000
set_option maxHeartbeats 4000000
namespace Mine
theorem cut_signed_w {prog : Program} {w : World} {h0 : Heap} {mg mb : Str → Option Value} {ads : Ads} (S : Stat h0 mg mb) (T : Tops h0 mg ads) : FnOk prog w h0 5 (ads 26) (P_cut_signed ads) := by
  refine' fnOk_of (d := 4) S T.cut_signed ["x", "d", "w", "divrem"] [] ?hb ?hl ?hn rfl rfl rfl ?hc (fun A L cd O => ?hB) (P_cut_signed ads) ?hP
  case hb =>
    intro pm cd doc vs h
    exact vs4 (P := fun vs => bindArgs _ ⟨vs, []⟩ = pure (List.zip _ vs)) (by intros; rfl) h
  case hl => decide
  case hn => decide
  case hc => decide
  case hB =>
    exact (SSs.cons (SS.ret (SE.tuple (SEs.cons (SE.item (SB.of (SE.name O 0 "x" _ rfl)) (SE.int 0 _ _) _) (SEs.cons (SE.item (SB.of (SE.callv O ((divrem_school_w S T).mono (by decide)) 3 "divrem" (SEs.cons (SE.item (SB.of (SE.name O 0 "x" _ rfl)) (SE.int 1 _ _) _) (SEs.cons (SE.name O 1 "d" _ rfl) (SEs.cons (SE.name O 2 "w" _ rfl) SEs.nil))) _ _ rfl)) (SE.int 0 _ _) _) SEs.nil)) _ _) _)
    SSs.nil)
  case hP =>
    intro xs G h
    obtain ⟨w, z, n, ⟨hw, hz, hn, hn0, hd⟩, rfl, hG⟩ := h
    refine ⟨rfl, ?_⟩
    ((try dsimp only [zaa, zab, zac, zad, zae, zaf, zag, zah, zai, zaj, zak, zal, zam, zan, zao, zap, zaq, zar, zas, zat, zau, zav, zaw, zax, zay, zaz, zba, zbb, zbc, zbd, zbe, zbf, zbg, zbh, zbi, zbj, zbk, zbl, zbm, zbn, zbo, zbp, zbq, zbr, zbs, zbt, zbu, zbv, zbw, zbx, zby, zbz, zca, zcb, zcc, zcd, zce, zcf, zcg, zch, zci, zcj, zck, zcl, zcm, zcn, zco, zcp, zcq, zcr, zcs, zct, zcu, zcv, zcw, zcx, zcy, zcz, zda, zdb, zdc, zdd, zde, zdf, zdg, zdh, zdi, zdj, zdk, zdl, zdm, zdn, zdo, zdp, zdq, zdr, zds, zdt, zdu, zdv, zdw, zdx, zdy, zdz, zea, zeb, zec, zed, zee, zef, zeg, zeh, zei, zej, zek, zel, zem, zen, zeo, zep, zeq, zer, zes, zet, zeu, zev, zew, zex, zey, zez, zfa, zfb, zfc, zfd, zfe, zff, zfg, zfh, zfi, zfj, zfk, zfl, zfm, zfn, zfo, zfp, zfq, zfr, zfs, zft, zfu, zfv, zfw, zfx, zfy, zfz, zga, zgb, zgc, Nat.reduceAdd] at hG ⊢); (try simp only [zgd, zge, zgf, zgg, true_and, and_true, Int.one_mul] at hG ⊢); (try dsimp only [zaa, zab, zac, zad, zae, zaf, zag, zah, zai, zaj, zak, zal, zam, zan, zao, zap, zaq, zar, zas, zat, zau, zav, zaw, zax, zay, zaz, zba, zbb, zbc, zbd, zbe, zbf, zbg, zbh, zbi, zbj, zbk, zbl, zbm, zbn, zbo, zbp, zbq, zbr, zbs, zbt, zbu, zbv, zbw, zbx, zby, zbz, zca, zcb, zcc, zcd, zce, zcf, zcg, zch, zci, zcj, zck, zcl, zcm, zcn, zco, zcp, zcq, zcr, zcs, zct, zcu, zcv, zcw, zcx, zcy, zcz, zda, zdb, zdc, zdd, zde, zdf, zdg, zdh, zdi, zdj, zdk, zdl, zdm, zdn, zdo, zdp, zdq, zdr, zds, zdt, zdu, zdv, zdw, zdx, zdy, zdz, zea, zeb, zec, zed, zee, zef, zeg, zeh, zei, zej, zek, zel, zem, zen, zeo, zep, zeq, zer, zes, zet, zeu, zev, zew, zex, zey, zez, zfa, zfb, zfc, zfd, zfe, zff, zfg, zfh, zfi, zfj, zfk, zfl, zfm, zfn, zfo, zfp, zfq, zfr, zfs, zft, zfu, zfv, zfw, zfx, zfy, zfz, zga, zgb, zgc, Nat.reduceAdd] at hG ⊢))
    refine ⟨w, z.natAbs, n, ⟨hw, by lia, by lia, hn0⟩, rfl, ?_⟩
    ((try dsimp only [zaa, zab, zac, zad, zae, zaf, zag, zah, zai, zaj, zak, zal, zam, zan, zao, zap, zaq, zar, zas, zat, zau, zav, zaw, zax, zay, zaz, zba, zbb, zbc, zbd, zbe, zbf, zbg, zbh, zbi, zbj, zbk, zbl, zbm, zbn, zbo, zbp, zbq, zbr, zbs, zbt, zbu, zbv, zbw, zbx, zby, zbz, zca, zcb, zcc, zcd, zce, zcf, zcg, zch, zci, zcj, zck, zcl, zcm, zcn, zco, zcp, zcq, zcr, zcs, zct, zcu, zcv, zcw, zcx, zcy, zcz, zda, zdb, zdc, zdd, zde, zdf, zdg, zdh, zdi, zdj, zdk, zdl, zdm, zdn, zdo, zdp, zdq, zdr, zds, zdt, zdu, zdv, zdw, zdx, zdy, zdz, zea, zeb, zec, zed, zee, zef, zeg, zeh, zei, zej, zek, zel, zem, zen, zeo, zep, zeq, zer, zes, zet, zeu, zev, zew, zex, zey, zez, zfa, zfb, zfc, zfd, zfe, zff, zfg, zfh, zfi, zfj, zfk, zfl, zfm, zfn, zfo, zfp, zfq, zfr, zfs, zft, zfu, zfv, zfw, zfx, zfy, zfz, zga, zgb, zgc, Nat.reduceAdd]); (try simp only [zgd, zge, zgf, zgg, true_and, and_true]))
    obtain ⟨k, hk⟩ := hd
    have e1 : z.natAbs / n = k := by rw [hk, Nat.mul_div_cancel_left _ hn0]
    have hz' : z = n * (if z < 0 then -(k : Int) else k) := by
      split
      · rw [Int.mul_neg, ← Int.natCast_mul, ← hk]; lia
      · rw [← Int.natCast_mul, ← hk]; lia
    have e2 : z / (n : Int) = if z < 0 then -(k : Int) else k := by
      conv => lhs; rw [hz']
      rw [Int.mul_ediv_cancel_left _ (by lia)]
    have e3 : z < 0 → 0 < k := by
      intro h
      rcases Nat.eq_zero_or_pos k with h0 | h0
      · rw [h0, Nat.mul_zero] at hk; lia
      · exact h0
    rw [e1]
    rw [e2, show (if z < 0 then -(k : Int) else k).natAbs = k by split <;> lia, show decide ((if z < 0 then -(k : Int) else k) < 0) = decide (z < 0) by apply decide_eq_decide.mpr; split <;> lia] at hG
    exact hG
end Mine

open PySem PySem.Calls PyProof.Rows
set_option Elab.async false
set_option maxRecDepth 100000
set_option maxHeartbeats 4000000
namespace Mine
theorem cdiv_w {prog : Program} {w : World} {h0 : Heap} {mg mb : Str → Option Value} {ads : Ads} (S : Stat h0 mg mb) (T : Tops h0 mg ads) : FnOk prog w h0 6 (ads 22) (P_cdiv ads) := by
  refine' fnOk_of (d := 5) S T.cdiv ["x", "y", "w", "divrem"] ["quotient", "rest"] ?hb ?hl ?hn rfl rfl rfl ?hc (fun A L cd O => ?hB) (P_cdiv ads) ?hP
  case hb =>
    intro pm cd doc vs h
    exact vs4 (P := fun vs => bindArgs _ ⟨vs, []⟩ = pure (List.zip _ vs)) (by intros; rfl) h
  case hl => decide
  case hn => decide
  case hc => decide
  case hB =>
    exact (SSs.cons (SS.assignU O [(4, "quotient", _), (5, "rest", _)] (SE.call O ((tdiv_w S T).mono (by decide)) "tdiv" (SEs.cons (SE.name O 0 "x" _ rfl) (SEs.cons (SE.name O 1 "y" _ rfl) (SEs.cons (SE.name O 2 "w" _ rfl) (SEs.cons (SE.name O 3 "divrem" _ rfl) SEs.nil)))) _ _ rfl T.tdiv.gname) _ _ _ (all2 ⟨rfl, (.inl ⟨rfl, rfl⟩)⟩ ⟨rfl, (.inl ⟨rfl, rfl⟩)⟩))
    (SSs.cons (SS.ite (STr.and (STr.cmp O gt_ok (SE.len O (SB.of (SE.item (SB.of (SE.name O 5 "rest" _ rfl)) (SE.int 1 _ _) _)) _ _ rfl S.len.1 S.len.2) (SE.int 0 _ _) _) (STr.cmp O eq_ok (SE.item (SB.of (SE.name O 0 "x" _ rfl)) (SE.int 0 _ _) _) (SE.item (SB.of (SE.name O 1 "y" _ rfl)) (SE.int 0 _ _) _) _) _) (SSs.cons (SS.ret (SE.tuple (SEs.cons (SE.tuple (SEs.cons (SE.bool false _ _) (SEs.cons (SE.call O ((add_limb_w S T).mono (by decide)) "add_limb" (SEs.cons (SE.item (SB.of (SE.name O 4 "quotient" _ rfl)) (SE.int 1 _ _) _) (SEs.cons (SE.int 1 _ _) (SEs.cons (SE.name O 2 "w" _ rfl) SEs.nil))) _ _ rfl T.add_limb.gname) SEs.nil)) _ _) (SEs.cons (SE.call O ((s_sub_w S T).mono (by decide)) "s_sub" (SEs.cons (SE.name O 5 "rest" _ rfl) (SEs.cons (SE.name O 1 "y" _ rfl) (SEs.cons (SE.name O 2 "w" _ rfl) SEs.nil))) _ _ rfl T.s_sub.gname) SEs.nil)) _ _) _)
    SSs.nil) SSs.nil _)
    (SSs.cons (SS.ret (SE.tuple (SEs.cons (SE.name O 4 "quotient" _ rfl) (SEs.cons (SE.name O 5 "rest" _ rfl) SEs.nil)) _ _) _)
    SSs.nil)))
  case hP =>
    intro xs G h
    obtain ⟨w, m, n, ⟨hw, hm, hn, hn0⟩, rfl, hG⟩ := h
    refine ⟨rfl, ?_⟩
    have l0 := limbs_len0 (B2 hw) (m % n)
    have hB := B2 hw
    have hmod := Nat.mod_lt m hn0
    have hdiv : m / n ≤ m := Nat.div_le_self m n
    ((try dsimp only [zaa, zab, zac, zad, zae, zaf, zag, zah, zai, zaj, zak, zal, zam, zan, zao, zap, zaq, zar, zas, zat, zau, zav, zaw, zax, zay, zaz, zba, zbb, zbc, zbd, zbe, zbf, zbg, zbh, zbi, zbj, zbk, zbl, zbm, zbn, zbo, zbp, zbq, zbr, zbs, zbt, zbu, zbv, zbw, zbx, zby, zbz, zca, zcb, zcc, zcd, zce, zcf, zcg, zch, zci, zcj, zck, zcl, zcm, zcn, zco, zcp, zcq, zcr, zcs, zct, zcu, zcv, zcw, zcx, zcy, zcz, zda, zdb, zdc, zdd, zde, zdf, zdg, zdh, zdi, zdj, zdk, zdl, zdm, zdn, zdo, zdp, zdq, zdr, zds, zdt, zdu, zdv, zdw, zdx, zdy, zdz, zea, zeb, zec, zed, zee, zef, zeg, zeh, zei, zej, zek, zel, zem, zen, zeo, zep, zeq, zer, zes, zet, zeu, zev, zew, zex, zey, zez, zfa, zfb, zfc, zfd, zfe, zff, zfg, zfh, zfi, zfj, zfk, zfl, zfm, zfn, zfo, zfp, zfq, zfr, zfs, zft, zfu, zfv, zfw, zfx, zfy, zfz, zga, zgb, zgc, Nat.reduceAdd] at hG ⊢); (try simp only [zgd, zge, zgf, zgg, true_and, and_true, Int.natAbs_natCast] at hG ⊢); (try dsimp only [zaa, zab, zac, zad, zae, zaf, zag, zah, zai, zaj, zak, zal, zam, zan, zao, zap, zaq, zar, zas, zat, zau, zav, zaw, zax, zay, zaz, zba, zbb, zbc, zbd, zbe, zbf, zbg, zbh, zbi, zbj, zbk, zbl, zbm, zbn, zbo, zbp, zbq, zbr, zbs, zbt, zbu, zbv, zbw, zbx, zby, zbz, zca, zcb, zcc, zcd, zce, zcf, zcg, zch, zci, zcj, zck, zcl, zcm, zcn, zco, zcp, zcq, zcr, zcs, zct, zcu, zcv, zcw, zcx, zcy, zcz, zda, zdb, zdc, zdd, zde, zdf, zdg, zdh, zdi, zdj, zdk, zdl, zdm, zdn, zdo, zdp, zdq, zdr, zds, zdt, zdu, zdv, zdw, zdx, zdy, zdz, zea, zeb, zec, zed, zee, zef, zeg, zeh, zei, zej, zek, zel, zem, zen, zeo, zep, zeq, zer, zes, zet, zeu, zev, zew, zex, zey, zez, zfa, zfb, zfc, zfd, zfe, zff, zfg, zfh, zfi, zfj, zfk, zfl, zfm, zfn, zfo, zfp, zfq, zfr, zfs, zft, zfu, zfv, zfw, zfx, zfy, zfz, zga, zgb, zgc, Nat.reduceAdd] at hG ⊢))
    refine ⟨w, m, n, ⟨hw, hm, hn, hn0⟩, rfl, ?_⟩
    ((try dsimp only [zaa, zab, zac, zad, zae, zaf, zag, zah, zai, zaj, zak, zal, zam, zan, zao, zap, zaq, zar, zas, zat, zau, zav, zaw, zax, zay, zaz, zba, zbb, zbc, zbd, zbe, zbf, zbg, zbh, zbi, zbj, zbk, zbl, zbm, zbn, zbo, zbp, zbq, zbr, zbs, zbt, zbu, zbv, zbw, zbx, zby, zbz, zca, zcb, zcc, zcd, zce, zcf, zcg, zch, zci, zcj, zck, zcl, zcm, zcn, zco, zcp, zcq, zcr, zcs, zct, zcu, zcv, zcw, zcx, zcy, zcz, zda, zdb, zdc, zdd, zde, zdf, zdg, zdh, zdi, zdj, zdk, zdl, zdm, zdn, zdo, zdp, zdq, zdr, zds, zdt, zdu, zdv, zdw, zdx, zdy, zdz, zea, zeb, zec, zed, zee, zef, zeg, zeh, zei, zej, zek, zel, zem, zen, zeo, zep, zeq, zer, zes, zet, zeu, zev, zew, zex, zey, zez, zfa, zfb, zfc, zfd, zfe, zff, zfg, zfh, zfi, zfj, zfk, zfl, zfm, zfn, zfo, zfp, zfq, zfr, zfs, zft, zfu, zfv, zfw, zfx, zfy, zfz, zga, zgb, zgc, Nat.reduceAdd]); (try simp only [zgd, zge, zgf, zgg, true_and, and_true, Int.natAbs_natCast]); (try dsimp only [zaa, zab, zac, zad, zae, zaf, zag, zah, zai, zaj, zak, zal, zam, zan, zao, zap, zaq, zar, zas, zat, zau, zav, zaw, zax, zay, zaz, zba, zbb, zbc, zbd, zbe, zbf, zbg, zbh, zbi, zbj, zbk, zbl, zbm, zbn, zbo, zbp, zbq, zbr, zbs, zbt, zbu, zbv, zbw, zbx, zby, zbz, zca, zcb, zcc, zcd, zce, zcf, zcg, zch, zci, zcj, zck, zcl, zcm, zcn, zco, zcp, zcq, zcr, zcs, zct, zcu, zcv, zcw, zcx, zcy, zcz, zda, zdb, zdc, zdd, zde, zdf, zdg, zdh, zdi, zdj, zdk, zdl, zdm, zdn, zdo, zdp, zdq, zdr, zds, zdt, zdu, zdv, zdw, zdx, zdy, zdz, zea, zeb, zec, zed, zee, zef, zeg, zeh, zei, zej, zek, zel, zem, zen, zeo, zep, zeq, zer, zes, zet, zeu, zev, zew, zex, zey, zez, zfa, zfb, zfc, zfd, zfe, zff, zfg, zfh, zfi, zfj, zfk, zfl, zfm, zfn, zfo, zfp, zfq, zfr, zfs, zft, zfu, zfv, zfw, zfx, zfy, zfz, zga, zgb, zgc, Nat.reduceAdd]))
    have dn : ∀ k : Nat, decide ((k : Int) < 0) = false := fun k => by apply decide_eq_false; lia
    rw [dn] at hG
    simp only [dn, beq_self_eq_true, zgf, zgg]
    have e := Nat.div_add_mod m n
    refine ⟨fun h => ?_, fun h => ?_⟩
    · have e2 : (m + n - 1) / n = m / n + 1 := by
        rw [show m + n - 1 = (m % n - 1) + n * (m / n + 1) by rw [Nat.mul_add]; lia, Nat.add_mul_div_left _ _ hn0, Nat.div_eq_of_lt (by lia)]; lia
      rw [e2] at hG
      refine ⟨w, m / n, 1, ⟨hw, by lia, by lia⟩, rfl, ?_⟩
      refine ⟨w, ((m % n : Nat) : Int), (n : Int), ⟨hw, by lia, by lia⟩, by ((try dsimp only [zaa, zab, zac, zad, zae, zaf, zag, zah, zai, zaj, zak, zal, zam, zan, zao, zap, zaq, zar, zas, zat, zau, zav, zaw, zax, zay, zaz, zba, zbb, zbc, zbd, zbe, zbf, zbg, zbh, zbi, zbj, zbk, zbl, zbm, zbn, zbo, zbp, zbq, zbr, zbs, zbt, zbu, zbv, zbw, zbx, zby, zbz, zca, zcb, zcc, zcd, zce, zcf, zcg, zch, zci, zcj, zck, zcl, zcm, zcn, zco, zcp, zcq, zcr, zcs, zct, zcu, zcv, zcw, zcx, zcy, zcz, zda, zdb, zdc, zdd, zde, zdf, zdg, zdh, zdi, zdj, zdk, zdl, zdm, zdn, zdo, zdp, zdq, zdr, zds, zdt, zdu, zdv, zdw, zdx, zdy, zdz, zea, zeb, zec, zed, zee, zef, zeg, zeh, zei, zej, zek, zel, zem, zen, zeo, zep, zeq, zer, zes, zet, zeu, zev, zew, zex, zey, zez, zfa, zfb, zfc, zfd, zfe, zff, zfg, zfh, zfi, zfj, zfk, zfl, zfm, zfn, zfo, zfp, zfq, zfr, zfs, zft, zfu, zfv, zfw, zfx, zfy, zfz, zga, zgb, zgc, Nat.reduceAdd]); (try simp only [zgd, zge, zgf, zgg, true_and, and_true, Int.natAbs_natCast, dn]); (try dsimp only [zaa, zab, zac, zad, zae, zaf, zag, zah, zai, zaj, zak, zal, zam, zan, zao, zap, zaq, zar, zas, zat, zau, zav, zaw, zax, zay, zaz, zba, zbb, zbc, zbd, zbe, zbf, zbg, zbh, zbi, zbj, zbk, zbl, zbm, zbn, zbo, zbp, zbq, zbr, zbs, zbt, zbu, zbv, zbw, zbx, zby, zbz, zca, zcb, zcc, zcd, zce, zcf, zcg, zch, zci, zcj, zck, zcl, zcm, zcn, zco, zcp, zcq, zcr, zcs, zct, zcu, zcv, zcw, zcx, zcy, zcz, zda, zdb, zdc, zdd, zde, zdf, zdg, zdh, zdi, zdj, zdk, zdl, zdm, zdn, zdo, zdp, zdq, zdr, zds, zdt, zdu, zdv, zdw, zdx, zdy, zdz, zea, zeb, zec, zed, zee, zef, zeg, zeh, zei, zej, zek, zel, zem, zen, zeo, zep, zeq, zer, zes, zet, zeu, zev, zew, zex, zey, zez, zfa, zfb, zfc, zfd, zfe, zff, zfg, zfh, zfi, zfj, zfk, zfl, zfm, zfn, zfo, zfp, zfq, zfr, zfs, zft, zfu, zfv, zfw, zfx, zfy, zfz, zga, zgb, zgc, Nat.reduceAdd])), ?_⟩
      exact hG _
    · have e2 : (m + n - 1) / n = m / n := by
        rw [show m + n - 1 = (n - 1) + n * (m / n) by lia, Nat.add_mul_div_left _ _ hn0, Nat.div_eq_of_lt (by lia)]; lia
      rw [e2] at hG
      exact hG _
end Mine

open PySem PySem.Calls PyProof.Rows
set_option Elab.async false
set_option maxRecDepth 100000
set_option maxHeartbeats 4000000
namespace Mine
theorem r_make_w {prog : Program} {w : World} {h0 : Heap} {mg mb : Str → Option Value} {ads : Ads} (S : Stat h0 mg mb) (T : Tops h0 mg ads) : FnOk prog w h0 6 (ads 28) (P_r_make ads) := by
  refine' fnOk_of (d := 5) S T.r_make ["top", "bottom", "w", "divrem"] ["told"] ?hb ?hl ?hn rfl rfl rfl ?hc (fun A L cd O => ?hB) (P_r_make ads) ?hP
  case hb =>
    intro pm cd doc vs h
    exact vs4 (P := fun vs => bindArgs _ ⟨vs, []⟩ = pure (List.zip _ vs)) (by intros; rfl) h
  case hl => decide
  case hn => decide
  case hc => decide
  case hB =>
    exact (SSs.cons (SS.guard (STr.cmp O eq_ok (SE.len O (SB.of (SE.item (SB.of (SE.name O 1 "bottom" _ rfl)) (SE.int 1 _ _) _)) _ _ rfl S.len.1 S.len.2) (SE.int 0 _ _) _) _)
    (SSs.cons (SS.ite (STr.cmp O eq_ok (SE.len O (SB.of (SE.item (SB.of (SE.name O 0 "top" _ rfl)) (SE.int 1 _ _) _)) _ _ rfl S.len.1 S.len.2) (SE.int 0 _ _) _) (SSs.cons (SS.ret (SE.tuple (SEs.cons (SE.tuple (SEs.cons (SE.bool false _ _) (SEs.cons (SE.listI SEs.nil _) SEs.nil)) _ _) (SEs.cons (SE.listI (SEs.cons (SE.int 1 _ _) SEs.nil) _) SEs.nil)) _ _) _)
    SSs.nil) SSs.nil _)
    (SSs.cons (SS.assign O 4 "told" (SE.call O ((common_w S T).mono (by decide)) "common" (SEs.cons (SE.item (SB.of (SE.name O 0 "top" _ rfl)) (SE.int 1 _ _) _) (SEs.cons (SE.item (SB.of (SE.name O 1 "bottom" _ rfl)) (SE.int 1 _ _) _) (SEs.cons (SE.name O 2 "w" _ rfl) (SEs.cons (SE.name O 3 "divrem" _ rfl) SEs.nil)))) _ _ rfl T.common.gname) _ _ rfl (.inl ⟨rfl, rfl⟩))
    (SSs.cons (SS.ret (SE.tuple (SEs.cons (SE.tuple (SEs.cons (SE.cmp O ne_ok (SE.item (SB.of (SE.name O 0 "top" _ rfl)) (SE.int 0 _ _) _) (SE.item (SB.of (SE.name O 1 "bottom" _ rfl)) (SE.int 0 _ _) _) _) (SEs.cons (SE.item (SB.of (SE.callv O ((divrem_school_w S T).mono (by decide)) 3 "divrem" (SEs.cons (SE.item (SB.of (SE.name O 0 "top" _ rfl)) (SE.int 1 _ _) _) (SEs.cons (SE.name O 4 "told" _ rfl) (SEs.cons (SE.name O 2 "w" _ rfl) SEs.nil))) _ _ rfl)) (SE.int 0 _ _) _) SEs.nil)) _ _) (SEs.cons (SE.item (SB.of (SE.callv O ((divrem_school_w S T).mono (by decide)) 3 "divrem" (SEs.cons (SE.item (SB.of (SE.name O 1 "bottom" _ rfl)) (SE.int 1 _ _) _) (SEs.cons (SE.name O 4 "told" _ rfl) (SEs.cons (SE.name O 2 "w" _ rfl) SEs.nil))) _ _ rfl)) (SE.int 0 _ _) _) SEs.nil)) _ _) _)
    SSs.nil))))
  case hP =>
    intro xs G h
    obtain ⟨w, z, n, ⟨hw, hz, hn, hn0⟩, rfl, hG⟩ := h
    refine ⟨rfl, ?_⟩
    have hB := B2 hw
    have l0 := limbs_len0 hB n
    have l1 := limbs_len0 hB z.natAbs
    have dn : decide ((n : Int) < 0) = false := by apply decide_eq_false; lia
    have hgn : Nat.gcd z.natAbs n ≤ n := Nat.gcd_le_right _ hn0
    have hg0 : 0 < Nat.gcd z.natAbs n := Nat.gcd_pos_of_pos_right _ hn0
    rw [qv_mk hn0] at hG
    ((try dsimp only [zaa, zab, zac, zad, zae, zaf, zag, zah, zai, zaj, zak, zal, zam, zan, zao, zap, zaq, zar, zas, zat, zau, zav, zaw, zax, zay, zaz, zba, zbb, zbc, zbd, zbe, zbf, zbg, zbh, zbi, zbj, zbk, zbl, zbm, zbn, zbo, zbp, zbq, zbr, zbs, zbt, zbu, zbv, zbw, zbx, zby, zbz, zca, zcb, zcc, zcd, zce, zcf, zcg, zch, zci, zcj, zck, zcl, zcm, zcn, zco, zcp, zcq, zcr, zcs, zct, zcu, zcv, zcw, zcx, zcy, zcz, zda, zdb, zdc, zdd, zde, zdf, zdg, zdh, zdi, zdj, zdk, zdl, zdm, zdn, zdo, zdp, zdq, zdr, zds, zdt, zdu, zdv, zdw, zdx, zdy, zdz, zea, zeb, zec, zed, zee, zef, zeg, zeh, zei, zej, zek, zel, zem, zen, zeo, zep, zeq, zer, zes, zet, zeu, zev, zew, zex, zey, zez, zfa, zfb, zfc, zfd, zfe, zff, zfg, zfh, zfi, zfj, zfk, zfl, zfm, zfn, zfo, zfp, zfq, zfr, zfs, zft, zfu, zfv, zfw, zfx, zfy, zfz, zga, zgb, zgc, Nat.reduceAdd] at hG ⊢); (try simp only [zgd, zge, zgf, zgg, true_and, and_true, Int.natAbs_natCast, dn] at hG ⊢); (try dsimp only [zaa, zab, zac, zad, zae, zaf, zag, zah, zai, zaj, zak, zal, zam, zan, zao, zap, zaq, zar, zas, zat, zau, zav, zaw, zax, zay, zaz, zba, zbb, zbc, zbd, zbe, zbf, zbg, zbh, zbi, zbj, zbk, zbl, zbm, zbn, zbo, zbp, zbq, zbr, zbs, zbt, zbu, zbv, zbw, zbx, zby, zbz, zca, zcb, zcc, zcd, zce, zcf, zcg, zch, zci, zcj, zck, zcl, zcm, zcn, zco, zcp, zcq, zcr, zcs, zct, zcu, zcv, zcw, zcx, zcy, zcz, zda, zdb, zdc, zdd, zde, zdf, zdg, zdh, zdi, zdj, zdk, zdl, zdm, zdn, zdo, zdp, zdq, zdr, zds, zdt, zdu, zdv, zdw, zdx, zdy, zdz, zea, zeb, zec, zed, zee, zef, zeg, zeh, zei, zej, zek, zel, zem, zen, zeo, zep, zeq, zer, zes, zet, zeu, zev, zew, zex, zey, zez, zfa, zfb, zfc, zfd, zfe, zff, zfg, zfh, zfi, zfj, zfk, zfl, zfm, zfn, zfo, zfp, zfq, zfr, zfs, zft, zfu, zfv, zfw, zfx, zfy, zfz, zga, zgb, zgc, Nat.reduceAdd] at hG ⊢))
    refine ⟨by apply decide_eq_false; lia, fun h => ?_, fun h => ?_⟩
    · have hz0 : z = 0 := by lia
      subst hz0
      have h1 : Nat.gcd (Int.natAbs 0) n = n := Nat.gcd_zero_left n
      rw [h1, Nat.div_self hn0, show Int.natAbs 0 / n = 0 from Nat.zero_div n, limbs_zero, limbs_pos hB (by lia), Nat.mod_eq_of_lt (by lia), Nat.div_eq_of_lt (by lia), limbs_zero] at hG
      exact hG
    refine ⟨w, z.natAbs, n, ⟨hw, by lia, by lia⟩, rfl, ?_⟩
    refine ⟨w, z.natAbs, Nat.gcd z.natAbs n, ⟨hw, by lia, by lia, hg0⟩, rfl, ?_⟩
    ((try dsimp only [zaa, zab, zac, zad, zae, zaf, zag, zah, zai, zaj, zak, zal, zam, zan, zao, zap, zaq, zar, zas, zat, zau, zav, zaw, zax, zay, zaz, zba, zbb, zbc, zbd, zbe, zbf, zbg, zbh, zbi, zbj, zbk, zbl, zbm, zbn, zbo, zbp, zbq, zbr, zbs, zbt, zbu, zbv, zbw, zbx, zby, zbz, zca, zcb, zcc, zcd, zce, zcf, zcg, zch, zci, zcj, zck, zcl, zcm, zcn, zco, zcp, zcq, zcr, zcs, zct, zcu, zcv, zcw, zcx, zcy, zcz, zda, zdb, zdc, zdd, zde, zdf, zdg, zdh, zdi, zdj, zdk, zdl, zdm, zdn, zdo, zdp, zdq, zdr, zds, zdt, zdu, zdv, zdw, zdx, zdy, zdz, zea, zeb, zec, zed, zee, zef, zeg, zeh, zei, zej, zek, zel, zem, zen, zeo, zep, zeq, zer, zes, zet, zeu, zev, zew, zex, zey, zez, zfa, zfb, zfc, zfd, zfe, zff, zfg, zfh, zfi, zfj, zfk, zfl, zfm, zfn, zfo, zfp, zfq, zfr, zfs, zft, zfu, zfv, zfw, zfx, zfy, zfz, zga, zgb, zgc, Nat.reduceAdd]); (try simp only [zgd, zge, zgf, zgg, true_and, and_true]))
    refine ⟨w, n, Nat.gcd z.natAbs n, ⟨hw, by lia, by lia, hg0⟩, rfl, ?_⟩
    ((try dsimp only [zaa, zab, zac, zad, zae, zaf, zag, zah, zai, zaj, zak, zal, zam, zan, zao, zap, zaq, zar, zas, zat, zau, zav, zaw, zax, zay, zaz, zba, zbb, zbc, zbd, zbe, zbf, zbg, zbh, zbi, zbj, zbk, zbl, zbm, zbn, zbo, zbp, zbq, zbr, zbs, zbt, zbu, zbv, zbw, zbx, zby, zbz, zca, zcb, zcc, zcd, zce, zcf, zcg, zch, zci, zcj, zck, zcl, zcm, zcn, zco, zcp, zcq, zcr, zcs, zct, zcu, zcv, zcw, zcx, zcy, zcz, zda, zdb, zdc, zdd, zde, zdf, zdg, zdh, zdi, zdj, zdk, zdl, zdm, zdn, zdo, zdp, zdq, zdr, zds, zdt, zdu, zdv, zdw, zdx, zdy, zdz, zea, zeb, zec, zed, zee, zef, zeg, zeh, zei, zej, zek, zel, zem, zen, zeo, zep, zeq, zer, zes, zet, zeu, zev, zew, zex, zey, zez, zfa, zfb, zfc, zfd, zfe, zff, zfg, zfh, zfi, zfj, zfk, zfl, zfm, zfn, zfo, zfp, zfq, zfr, zfs, zft, zfu, zfv, zfw, zfx, zfy, zfz, zga, zgb, zgc, Nat.reduceAdd]); (try simp only [zgd, zge, zgf, zgg, true_and, and_true]))
    have e : (!(decide (z < 0) == false)) = decide (z < 0) := by cases decide (z < 0) <;> rfl
    rw [e]
    exact hG
end Mine

open PySem PySem.Calls PyProof.Rows
set_option Elab.async false
set_option maxRecDepth 100000
set_option maxHeartbeats 4000000
namespace Mine
theorem r_add_w {prog : Program} {w : World} {h0 : Heap} {mg mb : Str → Option Value} {ads : Ads} (S : Stat h0 mg mb) (T : Tops h0 mg ads) : FnOk prog w h0 6 (ads 30) (P_r_add ads) := by
  refine' fnOk_of (d := 5) S T.r_add ["x", "y", "w", "mul", "divrem"] ["told", "here", "there", "top", "out"] ?hb ?hl ?hn rfl rfl rfl ?hc (fun A L cd O => ?hB) (P_r_add ads) ?hP
  case hb =>
    intro pm cd doc vs h
    exact vs5 (P := fun vs => bindArgs _ ⟨vs, []⟩ = pure (List.zip _ vs)) (by intros; rfl) h
  case hl => decide
  case hn => decide
  case hc => decide
  case hB =>
    exact (SSs.cons (SS.assign O 5 "told" (SE.call O ((common_w S T).mono (by decide)) "common" (SEs.cons (SE.item (SB.of (SE.name O 0 "x" _ rfl)) (SE.int 1 _ _) _) (SEs.cons (SE.item (SB.of (SE.name O 1 "y" _ rfl)) (SE.int 1 _ _) _) (SEs.cons (SE.name O 2 "w" _ rfl) (SEs.cons (SE.name O 4 "divrem" _ rfl) SEs.nil)))) _ _ rfl T.common.gname) _ _ rfl (.inl ⟨rfl, rfl⟩))
    (SSs.cons (SS.assignTS O [(6, "here", ⟨0, 0, 0, 0⟩), (7, "there", ⟨0, 0, 0, 0⟩)] (SR.val (SE.item (SB.of (SE.callv O ((divrem_school_w S T).mono (by decide)) 4 "divrem" (SEs.cons (SE.item (SB.of (SE.name O 0 "x" _ rfl)) (SE.int 1 _ _) _) (SEs.cons (SE.name O 5 "told" _ rfl) (SEs.cons (SE.name O 2 "w" _ rfl) SEs.nil))) _ _ rfl)) (SE.int 0 _ _) _) (SR.val (SE.item (SB.of (SE.callv O ((divrem_school_w S T).mono (by decide)) 4 "divrem" (SEs.cons (SE.item (SB.of (SE.name O 1 "y" _ rfl)) (SE.int 1 _ _) _) (SEs.cons (SE.name O 5 "told" _ rfl) (SEs.cons (SE.name O 2 "w" _ rfl) SEs.nil))) _ _ rfl)) (SE.int 0 _ _) _) SR.nil)) _ _ _ _ _ (all2 ⟨rfl, (.inl ⟨rfl, rfl⟩)⟩ ⟨rfl, (.inl ⟨rfl, rfl⟩)⟩))
    (SSs.cons (SS.assign O 8 "top" (SE.call O ((s_add_w S T).mono (by decide)) "s_add" (SEs.cons (SE.call O ((s_mul_w S T).mono (by decide)) "s_mul" (SEs.cons (SE.item (SB.of (SE.name O 0 "x" _ rfl)) (SE.int 0 _ _) _) (SEs.cons (SE.call O ((signed_of_w S T).mono (by decide)) "signed_of" (SEs.cons (SE.name O 7 "there" _ rfl) SEs.nil) _ _ rfl T.signed_of.gname) (SEs.cons (SE.name O 2 "w" _ rfl) (SEs.cons (SE.name O 3 "mul" _ rfl) SEs.nil)))) _ _ rfl T.s_mul.gname) (SEs.cons (SE.call O ((s_mul_w S T).mono (by decide)) "s_mul" (SEs.cons (SE.item (SB.of (SE.name O 1 "y" _ rfl)) (SE.int 0 _ _) _) (SEs.cons (SE.call O ((signed_of_w S T).mono (by decide)) "signed_of" (SEs.cons (SE.name O 6 "here" _ rfl) SEs.nil) _ _ rfl T.signed_of.gname) (SEs.cons (SE.name O 2 "w" _ rfl) (SEs.cons (SE.name O 3 "mul" _ rfl) SEs.nil)))) _ _ rfl T.s_mul.gname) (SEs.cons (SE.name O 2 "w" _ rfl) SEs.nil))) _ _ rfl T.s_add.gname) _ _ rfl (.inl ⟨rfl, rfl⟩))
    (SSs.cons (SS.ite (STr.cmp O eq_ok (SE.len O (SB.of (SE.item (SB.of (SE.name O 8 "top" _ rfl)) (SE.int 1 _ _) _)) _ _ rfl S.len.1 S.len.2) (SE.int 0 _ _) _) (SSs.cons (SS.ret (SE.tuple (SEs.cons (SE.name O 8 "top" _ rfl) (SEs.cons (SE.listI (SEs.cons (SE.int 1 _ _) SEs.nil) _) SEs.nil)) _ _) _)
    SSs.nil) SSs.nil _)
    (SSs.cons (SS.assign O 9 "out" (SE.call O ((common_w S T).mono (by decide)) "common" (SEs.cons (SE.item (SB.of (SE.name O 8 "top" _ rfl)) (SE.int 1 _ _) _) (SEs.cons (SE.name O 5 "told" _ rfl) (SEs.cons (SE.name O 2 "w" _ rfl) (SEs.cons (SE.name O 4 "divrem" _ rfl) SEs.nil)))) _ _ rfl T.common.gname) _ _ rfl (.inl ⟨rfl, rfl⟩))
    (SSs.cons (SS.ret (SE.tuple (SEs.cons (SE.call O ((cut_signed_w S T).mono (by decide)) "cut_signed" (SEs.cons (SE.name O 8 "top" _ rfl) (SEs.cons (SE.name O 9 "out" _ rfl) (SEs.cons (SE.name O 2 "w" _ rfl) (SEs.cons (SE.name O 4 "divrem" _ rfl) SEs.nil)))) _ _ rfl T.cut_signed.gname) (SEs.cons (SE.callv O ((mul_school_w S T).mono (by decide)) 3 "mul" (SEs.cons (SE.name O 6 "here" _ rfl) (SEs.cons (SE.item (SB.of (SE.callv O ((divrem_school_w S T).mono (by decide)) 4 "divrem" (SEs.cons (SE.item (SB.of (SE.name O 1 "y" _ rfl)) (SE.int 1 _ _) _) (SEs.cons (SE.name O 9 "out" _ rfl) (SEs.cons (SE.name O 2 "w" _ rfl) SEs.nil))) _ _ rfl)) (SE.int 0 _ _) _) (SEs.cons (SE.name O 2 "w" _ rfl) SEs.nil))) _ _ rfl) SEs.nil)) _ _) _)
    SSs.nil))))))
  case hP =>
    intro xs G h
    obtain ⟨w, p, q, ⟨hw, ⟨hp1, hp2⟩, ⟨hq1, hq2⟩⟩, rfl, hG⟩ := h
    refine ⟨rfl, ?_⟩
    have hB := B2 hw
    have hpd := p.den_pos
    have hqd := q.den_pos
    ((try dsimp only [zaa, zab, zac, zad, zae, zaf, zag, zah, zai, zaj, zak, zal, zam, zan, zao, zap, zaq, zar, zas, zat, zau, zav, zaw, zax, zay, zaz, zba, zbb, zbc, zbd, zbe, zbf, zbg, zbh, zbi, zbj, zbk, zbl, zbm, zbn, zbo, zbp, zbq, zbr, zbs, zbt, zbu, zbv, zbw, zbx, zby, zbz, zca, zcb, zcc, zcd, zce, zcf, zcg, zch, zci, zcj, zck, zcl, zcm, zcn, zco, zcp, zcq, zcr, zcs, zct, zcu, zcv, zcw, zcx, zcy, zcz, zda, zdb, zdc, zdd, zde, zdf, zdg, zdh, zdi, zdj, zdk, zdl, zdm, zdn, zdo, zdp, zdq, zdr, zds, zdt, zdu, zdv, zdw, zdx, zdy, zdz, zea, zeb, zec, zed, zee, zef, zeg, zeh, zei, zej, zek, zel, zem, zen, zeo, zep, zeq, zer, zes, zet, zeu, zev, zew, zex, zey, zez, zfa, zfb, zfc, zfd, zfe, zff, zfg, zfh, zfi, zfj, zfk, zfl, zfm, zfn, zfo, zfp, zfq, zfr, zfs, zft, zfu, zfv, zfw, zfx, zfy, zfz, zga, zgb, zgc, Nat.reduceAdd]); (try simp only [zgd, zge, zgf, zgg, true_and, and_true]))
    have g0 : 0 < Nat.gcd p.den q.den := Nat.gcd_pos_of_pos_right _ hqd
    have g1 : Nat.gcd p.den q.den ≤ q.den := Nat.gcd_le_right _ hqd
    have g2 : Nat.gcd p.den q.den ≤ p.den := Nat.gcd_le_left _ hpd
    have d1 : p.den / Nat.gcd p.den q.den ≤ p.den := Nat.div_le_self _ _
    have d2 : q.den / Nat.gcd p.den q.den ≤ q.den := Nat.div_le_self _ _
    have hc : Nat.Coprime (p.den / Nat.gcd p.den q.den) (q.den / Nat.gcd p.den q.den) := Nat.coprime_div_gcd_div_gcd g0
    have e1 : p.den / Nat.gcd p.den q.den * Nat.gcd p.den q.den = p.den := Nat.div_mul_cancel (Nat.gcd_dvd_left _ _)
    have e2 : q.den / Nat.gcd p.den q.den * Nat.gcd p.den q.den = q.den := Nat.div_mul_cancel (Nat.gcd_dvd_right _ _)
    refine ⟨w, p.den, q.den, ⟨hw, by lia, by lia⟩, rfl, ?_⟩
    refine ⟨w, p.den, Nat.gcd p.den q.den, ⟨hw, by lia, by lia, g0⟩, rfl, ?_⟩
    ((try dsimp only [zaa, zab, zac, zad, zae, zaf, zag, zah, zai, zaj, zak, zal, zam, zan, zao, zap, zaq, zar, zas, zat, zau, zav, zaw, zax, zay, zaz, zba, zbb, zbc, zbd, zbe, zbf, zbg, zbh, zbi, zbj, zbk, zbl, zbm, zbn, zbo, zbp, zbq, zbr, zbs, zbt, zbu, zbv, zbw, zbx, zby, zbz, zca, zcb, zcc, zcd, zce, zcf, zcg, zch, zci, zcj, zck, zcl, zcm, zcn, zco, zcp, zcq, zcr, zcs, zct, zcu, zcv, zcw, zcx, zcy, zcz, zda, zdb, zdc, zdd, zde, zdf, zdg, zdh, zdi, zdj, zdk, zdl, zdm, zdn, zdo, zdp, zdq, zdr, zds, zdt, zdu, zdv, zdw, zdx, zdy, zdz, zea, zeb, zec, zed, zee, zef, zeg, zeh, zei, zej, zek, zel, zem, zen, zeo, zep, zeq, zer, zes, zet, zeu, zev, zew, zex, zey, zez, zfa, zfb, zfc, zfd, zfe, zff, zfg, zfh, zfi, zfj, zfk, zfl, zfm, zfn, zfo, zfp, zfq, zfr, zfs, zft, zfu, zfv, zfw, zfx, zfy, zfz, zga, zgb, zgc, Nat.reduceAdd]); (try simp only [zgd, zge, zgf, zgg, true_and, and_true]))
    refine ⟨w, q.den, Nat.gcd p.den q.den, ⟨hw, by lia, by lia, g0⟩, rfl, ?_⟩
    ((try dsimp only [zaa, zab, zac, zad, zae, zaf, zag, zah, zai, zaj, zak, zal, zam, zan, zao, zap, zaq, zar, zas, zat, zau, zav, zaw, zax, zay, zaz, zba, zbb, zbc, zbd, zbe, zbf, zbg, zbh, zbi, zbj, zbk, zbl, zbm, zbn, zbo, zbp, zbq, zbr, zbs, zbt, zbu, zbv, zbw, zbx, zby, zbz, zca, zcb, zcc, zcd, zce, zcf, zcg, zch, zci, zcj, zck, zcl, zcm, zcn, zco, zcp, zcq, zcr, zcs, zct, zcu, zcv, zcw, zcx, zcy, zcz, zda, zdb, zdc, zdd, zde, zdf, zdg, zdh, zdi, zdj, zdk, zdl, zdm, zdn, zdo, zdp, zdq, zdr, zds, zdt, zdu, zdv, zdw, zdx, zdy, zdz, zea, zeb, zec, zed, zee, zef, zeg, zeh, zei, zej, zek, zel, zem, zen, zeo, zep, zeq, zer, zes, zet, zeu, zev, zew, zex, zey, zez, zfa, zfb, zfc, zfd, zfe, zff, zfg, zfh, zfi, zfj, zfk, zfl, zfm, zfn, zfo, zfp, zfq, zfr, zfs, zft, zfu, zfv, zfw, zfx, zfy, zfz, zga, zgb, zgc, Nat.reduceAdd]); (try simp only [zgd, zge, zgf, zgg, true_and, and_true]))
    have hr1 : Nat.Coprime p.num.natAbs (p.den / Nat.gcd p.den q.den) := Nat.Coprime.coprime_dvd_right (Nat.div_dvd_of_dvd (Nat.gcd_dvd_left _ _)) p.reduced
    have hr2 : Nat.Coprime q.num.natAbs (q.den / Nat.gcd p.den q.den) := Nat.Coprime.coprime_dvd_right (Nat.div_dvd_of_dvd (Nat.gcd_dvd_right _ _)) q.reduced
    have hx0 : 0 < p.den / Nat.gcd p.den q.den := Nat.div_pos g2 g0
    have hy0 : 0 < q.den / Nat.gcd p.den q.den := Nat.div_pos g1 g0
    generalize p.den / Nat.gcd p.den q.den = x at *
    generalize q.den / Nat.gcd p.den q.den = y at *
    generalize Nat.gcd p.den q.den = t at *
    have b1 : p.num.natAbs * y ≤ 2 ^ 60 * 2 ^ 60 := Nat.mul_le_mul (by lia) (by lia)
    have b2 : q.num.natAbs * x ≤ 2 ^ 60 * 2 ^ 60 := Nat.mul_le_mul (by lia) (by lia)
    refine ⟨by decide, w, y, trivial, rfl, w, p.num, (y : Int), ⟨hw, by lia, by lia⟩, rfl, w, x, trivial, rfl, w, q.num, (x : Int), ⟨hw, by lia, by lia⟩, rfl, w, p.num * y, q.num * x, ⟨hw, by rw [Int.natAbs_mul, Int.natAbs_natCast]; lia, by rw [Int.natAbs_mul, Int.natAbs_natCast]; lia⟩, rfl, ?_⟩
    ((try dsimp only [zaa, zab, zac, zad, zae, zaf, zag, zah, zai, zaj, zak, zal, zam, zan, zao, zap, zaq, zar, zas, zat, zau, zav, zaw, zax, zay, zaz, zba, zbb, zbc, zbd, zbe, zbf, zbg, zbh, zbi, zbj, zbk, zbl, zbm, zbn, zbo, zbp, zbq, zbr, zbs, zbt, zbu, zbv, zbw, zbx, zby, zbz, zca, zcb, zcc, zcd, zce, zcf, zcg, zch, zci, zcj, zck, zcl, zcm, zcn, zco, zcp, zcq, zcr, zcs, zct, zcu, zcv, zcw, zcx, zcy, zcz, zda, zdb, zdc, zdd, zde, zdf, zdg, zdh, zdi, zdj, zdk, zdl, zdm, zdn, zdo, zdp, zdq, zdr, zds, zdt, zdu, zdv, zdw, zdx, zdy, zdz, zea, zeb, zec, zed, zee, zef, zeg, zeh, zei, zej, zek, zel, zem, zen, zeo, zep, zeq, zer, zes, zet, zeu, zev, zew, zex, zey, zez, zfa, zfb, zfc, zfd, zfe, zff, zfg, zfh, zfi, zfj, zfk, zfl, zfm, zfn, zfo, zfp, zfq, zfr, zfs, zft, zfu, zfv, zfw, zfx, zfy, zfz, zga, zgb, zgc, Nat.reduceAdd]); (try simp only [zgd, zge, zgf, zgg, true_and, and_true]))
    have l0 := limbs_len0 hB (p.num * y + q.num * x).natAbs
    have e1' : (p.den : Int) = x * t := by rw [← e1]; exact Int.natCast_mul _ _
    have e2' : (q.den : Int) = y * t := by rw [← e2]; exact Int.natCast_mul _ _
    have hsum : p + q = mkRat (p.num * y + q.num * x) (x * q.den) := by
      rw [Rat.add_def', Rat.mkRat_eq_iff (Nat.ne_of_gt (Nat.mul_pos hpd hqd)) (Nat.ne_of_gt (Nat.mul_pos hx0 hqd)), Int.natCast_mul, Int.natCast_mul, e1', e2']
      grind
    have c1 : Nat.Coprime (p.num * y + q.num * x).natAbs x := cop_lin hr1 hc
    have c2 : Nat.Coprime (p.num * y + q.num * x).natAbs y := by rw [Int.add_comm]; exact cop_lin hr2 hc.symm
    have hbn : (p.num * y + q.num * x).natAbs < 2 ^ 190 := by
      have h1 := Int.natAbs_add_le (p.num * y) (q.num * x)
      rw [Int.natAbs_mul, Int.natAbs_mul, Int.natAbs_natCast, Int.natAbs_natCast] at h1
      lia
    generalize p.num * y + q.num * x = T at *
    refine ⟨fun h => ?_, fun h => ?_⟩
    · have hT : T = 0 := by lia
      rw [hsum, hT, Rat.zero_mkRat, qv_zero hw] at hG
      rw [hT]
      simp only [Int.natAbs_zero, limbs_zero]
      exact hG
    have o0 : 0 < Nat.gcd T.natAbs t := Nat.gcd_pos_of_pos_right _ g0
    have o1 : Nat.gcd T.natAbs t ≤ t := Nat.gcd_le_right _ g0
    have o2 : Nat.gcd T.natAbs t ∣ t := Nat.gcd_dvd_right _ _
    have hcT : Nat.Coprime (T.natAbs / Nat.gcd T.natAbs t) (t / Nat.gcd T.natAbs t) := Nat.coprime_div_gcd_div_gcd o0
    refine ⟨w, T.natAbs, t, ⟨hw, by lia, by lia⟩, rfl, ?_⟩
    refine ⟨w, T, Nat.gcd T.natAbs t, ⟨hw, by lia, by lia, o0, Nat.gcd_dvd_left _ _⟩, rfl, ?_⟩
    refine ⟨w, q.den, Nat.gcd T.natAbs t, ⟨hw, by lia, by lia, o0⟩, rfl, ?_⟩
    ((try dsimp only [zaa, zab, zac, zad, zae, zaf, zag, zah, zai, zaj, zak, zal, zam, zan, zao, zap, zaq, zar, zas, zat, zau, zav, zaw, zax, zay, zaz, zba, zbb, zbc, zbd, zbe, zbf, zbg, zbh, zbi, zbj, zbk, zbl, zbm, zbn, zbo, zbp, zbq, zbr, zbs, zbt, zbu, zbv, zbw, zbx, zby, zbz, zca, zcb, zcc, zcd, zce, zcf, zcg, zch, zci, zcj, zck, zcl, zcm, zcn, zco, zcp, zcq, zcr, zcs, zct, zcu, zcv, zcw, zcx, zcy, zcz, zda, zdb, zdc, zdd, zde, zdf, zdg, zdh, zdi, zdj, zdk, zdl, zdm, zdn, zdo, zdp, zdq, zdr, zds, zdt, zdu, zdv, zdw, zdx, zdy, zdz, zea, zeb, zec, zed, zee, zef, zeg, zeh, zei, zej, zek, zel, zem, zen, zeo, zep, zeq, zer, zes, zet, zeu, zev, zew, zex, zey, zez, zfa, zfb, zfc, zfd, zfe, zff, zfg, zfh, zfi, zfj, zfk, zfl, zfm, zfn, zfo, zfp, zfq, zfr, zfs, zft, zfu, zfv, zfw, zfx, zfy, zfz, zga, zgb, zgc, Nat.reduceAdd]); (try simp only [zgd, zge, zgf, zgg, true_and, and_true]))
    have s1 := sdiv o0 (Nat.gcd_dvd_left T.natAbs t)
    have e3 : q.den / Nat.gcd T.natAbs t = y * (t / Nat.gcd T.natAbs t) := by rw [← e2, Nat.mul_div_assoc _ o2]
    have d5 : q.den / Nat.gcd T.natAbs t ≤ q.den := Nat.div_le_self _ _
    refine ⟨w, x, _, ⟨hw, by lia, by lia⟩, rfl, ?_⟩
    have hpos : 0 < x * (q.den / Nat.gcd T.natAbs t) := Nat.mul_pos hx0 (Nat.div_pos (by lia) o0)
    have key := rat_of (q := p + q) (a := T / (Nat.gcd T.natAbs t : Nat)) (b := x * (q.den / Nat.gcd T.natAbs t)) hpos ?_ ?_
    · simp only [qv, sv, key.1, key.2] at hG
      exact hG
    · rw [s1.1, e3]
      refine Nat.Coprime.mul_right (Nat.Coprime.coprime_dvd_left (Nat.div_dvd_of_dvd (Nat.gcd_dvd_left _ _)) c1) (Nat.Coprime.mul_right (Nat.Coprime.coprime_dvd_left (Nat.div_dvd_of_dvd (Nat.gcd_dvd_left _ _)) c2) hcT)
    · rw [hsum, Rat.mkRat_eq_iff (Nat.ne_of_gt (Nat.mul_pos hx0 hqd)) (Nat.ne_of_gt hpos)]
      have f1 : T / (Nat.gcd T.natAbs t : Nat) * (Nat.gcd T.natAbs t : Nat) = T := Int.ediv_mul_cancel (Int.ofNat_dvd_left.mpr (Nat.gcd_dvd_left _ _))
      have f2 : q.den / Nat.gcd T.natAbs t * Nat.gcd T.natAbs t = q.den := Nat.div_mul_cancel (Nat.dvd_trans o2 ⟨y, by rw [Nat.mul_comm]; exact e2.symm⟩)
      generalize T / (Nat.gcd T.natAbs t : Nat) = a at *
      generalize q.den / Nat.gcd T.natAbs t = d at *
      have f2' : (q.den : Int) = d * (Nat.gcd T.natAbs t : Nat) := by rw [← f2]; exact Int.natCast_mul _ _
      rw [Int.natCast_mul, Int.natCast_mul, f2', ← f1]
      grind
end Mine

open PySem PySem.Calls PyProof.Rows
set_option Elab.async false
set_option maxRecDepth 100000
set_option maxHeartbeats 4000000
namespace Mine
theorem r_mul_w {prog : Program} {w : World} {h0 : Heap} {mg mb : Str → Option Value} {ads : Ads} (S : Stat h0 mg mb) (T : Tops h0 mg ads) : FnOk prog w h0 6 (ads 32) (P_r_mul ads) := by
  refine' fnOk_of (d := 5) S T.r_mul ["x", "y", "w", "mul", "divrem"] ["one", "other", "top"] ?hb ?hl ?hn rfl rfl rfl ?hc (fun A L cd O => ?hB) (P_r_mul ads) ?hP
  case hb =>
    intro pm cd doc vs h
    exact vs5 (P := fun vs => bindArgs _ ⟨vs, []⟩ = pure (List.zip _ vs)) (by intros; rfl) h
  case hl => decide
  case hn => decide
  case hc => decide
  case hB =>
    exact (SSs.cons (SS.ite (STr.or (STr.cmp O eq_ok (SE.len O (SB.of (SE.item (SB.of (SE.item (SB.of (SE.name O 0 "x" _ rfl)) (SE.int 0 _ _) _)) (SE.int 1 _ _) _)) _ _ rfl S.len.1 S.len.2) (SE.int 0 _ _) _) (STr.cmp O eq_ok (SE.len O (SB.of (SE.item (SB.of (SE.item (SB.of (SE.name O 1 "y" _ rfl)) (SE.int 0 _ _) _)) (SE.int 1 _ _) _)) _ _ rfl S.len.1 S.len.2) (SE.int 0 _ _) _) _) (SSs.cons (SS.ret (SE.tuple (SEs.cons (SE.tuple (SEs.cons (SE.bool false _ _) (SEs.cons (SE.listI SEs.nil _) SEs.nil)) _ _) (SEs.cons (SE.listI (SEs.cons (SE.int 1 _ _) SEs.nil) _) SEs.nil)) _ _) _)
    SSs.nil) SSs.nil _)
    (SSs.cons (SS.assignTS O [(5, "one", ⟨0, 0, 0, 0⟩), (6, "other", ⟨0, 0, 0, 0⟩)] (SR.val (SE.call O ((common_w S T).mono (by decide)) "common" (SEs.cons (SE.item (SB.of (SE.item (SB.of (SE.name O 0 "x" _ rfl)) (SE.int 0 _ _) _)) (SE.int 1 _ _) _) (SEs.cons (SE.item (SB.of (SE.name O 1 "y" _ rfl)) (SE.int 1 _ _) _) (SEs.cons (SE.name O 2 "w" _ rfl) (SEs.cons (SE.name O 4 "divrem" _ rfl) SEs.nil)))) _ _ rfl T.common.gname) (SR.val (SE.call O ((common_w S T).mono (by decide)) "common" (SEs.cons (SE.item (SB.of (SE.item (SB.of (SE.name O 1 "y" _ rfl)) (SE.int 0 _ _) _)) (SE.int 1 _ _) _) (SEs.cons (SE.item (SB.of (SE.name O 0 "x" _ rfl)) (SE.int 1 _ _) _) (SEs.cons (SE.name O 2 "w" _ rfl) (SEs.cons (SE.name O 4 "divrem" _ rfl) SEs.nil)))) _ _ rfl T.common.gname) SR.nil)) _ _ _ _ _ (all2 ⟨rfl, (.inl ⟨rfl, rfl⟩)⟩ ⟨rfl, (.inl ⟨rfl, rfl⟩)⟩))
    (SSs.cons (SS.assign O 7 "top" (SE.call O ((s_mul_w S T).mono (by decide)) "s_mul" (SEs.cons (SE.call O ((cut_signed_w S T).mono (by decide)) "cut_signed" (SEs.cons (SE.item (SB.of (SE.name O 0 "x" _ rfl)) (SE.int 0 _ _) _) (SEs.cons (SE.name O 5 "one" _ rfl) (SEs.cons (SE.name O 2 "w" _ rfl) (SEs.cons (SE.name O 4 "divrem" _ rfl) SEs.nil)))) _ _ rfl T.cut_signed.gname) (SEs.cons (SE.call O ((cut_signed_w S T).mono (by decide)) "cut_signed" (SEs.cons (SE.item (SB.of (SE.name O 1 "y" _ rfl)) (SE.int 0 _ _) _) (SEs.cons (SE.name O 6 "other" _ rfl) (SEs.cons (SE.name O 2 "w" _ rfl) (SEs.cons (SE.name O 4 "divrem" _ rfl) SEs.nil)))) _ _ rfl T.cut_signed.gname) (SEs.cons (SE.name O 2 "w" _ rfl) (SEs.cons (SE.name O 3 "mul" _ rfl) SEs.nil)))) _ _ rfl T.s_mul.gname) _ _ rfl (.inl ⟨rfl, rfl⟩))
    (SSs.cons (SS.ret (SE.tuple (SEs.cons (SE.name O 7 "top" _ rfl) (SEs.cons (SE.callv O ((mul_school_w S T).mono (by decide)) 3 "mul" (SEs.cons (SE.item (SB.of (SE.callv O ((divrem_school_w S T).mono (by decide)) 4 "divrem" (SEs.cons (SE.item (SB.of (SE.name O 0 "x" _ rfl)) (SE.int 1 _ _) _) (SEs.cons (SE.name O 6 "other" _ rfl) (SEs.cons (SE.name O 2 "w" _ rfl) SEs.nil))) _ _ rfl)) (SE.int 0 _ _) _) (SEs.cons (SE.item (SB.of (SE.callv O ((divrem_school_w S T).mono (by decide)) 4 "divrem" (SEs.cons (SE.item (SB.of (SE.name O 1 "y" _ rfl)) (SE.int 1 _ _) _) (SEs.cons (SE.name O 5 "one" _ rfl) (SEs.cons (SE.name O 2 "w" _ rfl) SEs.nil))) _ _ rfl)) (SE.int 0 _ _) _) (SEs.cons (SE.name O 2 "w" _ rfl) SEs.nil))) _ _ rfl) SEs.nil)) _ _) _)
    SSs.nil))))
  case hP =>
    intro xs G h
    obtain ⟨w, p, q, ⟨hw, ⟨hp1, hp2⟩, ⟨hq1, hq2⟩⟩, rfl, hG⟩ := h
    refine ⟨rfl, ?_⟩
    have hB := B2 hw
    have l0 := limbs_len0 hB p.num.natAbs
    have l1 := limbs_len0 hB q.num.natAbs
    have hz : p.num = 0 ∨ q.num = 0 → G (PV.tup [PV.tup [PV.bool false, PV.ints []], PV.ints [1]]) := by
      intro h
      rw [← qv_zero hw]
      have : p * q = 0 := by
        rcases h with h | h
        · rw [Rat.num_eq_zero.mp h, Rat.zero_mul]
        · rw [Rat.num_eq_zero.mp h, Rat.mul_zero]
      rw [← this]; exact hG
    have hpd := p.den_pos
    have hqd := q.den_pos
    ((try dsimp only [zaa, zab, zac, zad, zae, zaf, zag, zah, zai, zaj, zak, zal, zam, zan, zao, zap, zaq, zar, zas, zat, zau, zav, zaw, zax, zay, zaz, zba, zbb, zbc, zbd, zbe, zbf, zbg, zbh, zbi, zbj, zbk, zbl, zbm, zbn, zbo, zbp, zbq, zbr, zbs, zbt, zbu, zbv, zbw, zbx, zby, zbz, zca, zcb, zcc, zcd, zce, zcf, zcg, zch, zci, zcj, zck, zcl, zcm, zcn, zco, zcp, zcq, zcr, zcs, zct, zcu, zcv, zcw, zcx, zcy, zcz, zda, zdb, zdc, zdd, zde, zdf, zdg, zdh, zdi, zdj, zdk, zdl, zdm, zdn, zdo, zdp, zdq, zdr, zds, zdt, zdu, zdv, zdw, zdx, zdy, zdz, zea, zeb, zec, zed, zee, zef, zeg, zeh, zei, zej, zek, zel, zem, zen, zeo, zep, zeq, zer, zes, zet, zeu, zev, zew, zex, zey, zez, zfa, zfb, zfc, zfd, zfe, zff, zfg, zfh, zfi, zfj, zfk, zfl, zfm, zfn, zfo, zfp, zfq, zfr, zfs, zft, zfu, zfv, zfw, zfx, zfy, zfz, zga, zgb, zgc, Nat.reduceAdd] at hz ⊢); (try simp only [zgd, zge, zgf, zgg, true_and, and_true] at hz ⊢))
    refine ⟨fun h => hz (.inl (by lia)), fun h => ⟨fun h' => hz (.inr (by lia)), fun h' => ?_⟩⟩
    have g1 : 0 < Nat.gcd p.num.natAbs q.den := Nat.gcd_pos_of_pos_right _ hqd
    have g2 : 0 < Nat.gcd q.num.natAbs p.den := Nat.gcd_pos_of_pos_right _ hpd
    have g1' : Nat.gcd p.num.natAbs q.den ≤ q.den := Nat.gcd_le_right _ hqd
    have g2' : Nat.gcd q.num.natAbs p.den ≤ p.den := Nat.gcd_le_right _ hpd
    have hparts := mul_parts (show 0 < p.num.natAbs by lia) hpd (show 0 < q.num.natAbs by lia) hqd p.reduced q.reduced
    have s1 := sdiv g1 (Nat.gcd_dvd_left p.num.natAbs q.den)
    have s2 := sdiv g2 (Nat.gcd_dvd_left q.num.natAbs p.den)
    have d1 : p.num.natAbs / Nat.gcd p.num.natAbs q.den ≤ p.num.natAbs := Nat.div_le_self _ _
    have d2 : q.num.natAbs / Nat.gcd q.num.natAbs p.den ≤ q.num.natAbs := Nat.div_le_self _ _
    have d3 : p.den / Nat.gcd q.num.natAbs p.den ≤ p.den := Nat.div_le_self _ _
    have d4 : q.den / Nat.gcd p.num.natAbs q.den ≤ q.den := Nat.div_le_self _ _
    refine ⟨w, p.num.natAbs, q.den, ⟨hw, by lia, by lia⟩, rfl, w, q.num.natAbs, p.den, ⟨hw, by lia, by lia⟩, rfl, ?_⟩
    ((try dsimp only [zaa, zab, zac, zad, zae, zaf, zag, zah, zai, zaj, zak, zal, zam, zan, zao, zap, zaq, zar, zas, zat, zau, zav, zaw, zax, zay, zaz, zba, zbb, zbc, zbd, zbe, zbf, zbg, zbh, zbi, zbj, zbk, zbl, zbm, zbn, zbo, zbp, zbq, zbr, zbs, zbt, zbu, zbv, zbw, zbx, zby, zbz, zca, zcb, zcc, zcd, zce, zcf, zcg, zch, zci, zcj, zck, zcl, zcm, zcn, zco, zcp, zcq, zcr, zcs, zct, zcu, zcv, zcw, zcx, zcy, zcz, zda, zdb, zdc, zdd, zde, zdf, zdg, zdh, zdi, zdj, zdk, zdl, zdm, zdn, zdo, zdp, zdq, zdr, zds, zdt, zdu, zdv, zdw, zdx, zdy, zdz, zea, zeb, zec, zed, zee, zef, zeg, zeh, zei, zej, zek, zel, zem, zen, zeo, zep, zeq, zer, zes, zet, zeu, zev, zew, zex, zey, zez, zfa, zfb, zfc, zfd, zfe, zff, zfg, zfh, zfi, zfj, zfk, zfl, zfm, zfn, zfo, zfp, zfq, zfr, zfs, zft, zfu, zfv, zfw, zfx, zfy, zfz, zga, zgb, zgc, Nat.reduceAdd]); (try simp only [zgd, zge, zgf, zgg, true_and, and_true]))
    refine ⟨by decide, w, p.num, Nat.gcd p.num.natAbs q.den, ⟨hw, by lia, by lia, g1, Nat.gcd_dvd_left _ _⟩, rfl, ?_⟩
    refine ⟨w, q.num, Nat.gcd q.num.natAbs p.den, ⟨hw, by lia, by lia, g2, Nat.gcd_dvd_left _ _⟩, rfl, ?_⟩
    refine ⟨w, p.num / (Nat.gcd p.num.natAbs q.den : Nat), q.num / (Nat.gcd q.num.natAbs p.den : Nat), ⟨hw, by lia, by lia⟩, rfl, ?_⟩
    refine ⟨w, p.den, Nat.gcd q.num.natAbs p.den, ⟨hw, by lia, by lia, g2⟩, rfl, ?_⟩
    ((try dsimp only [zaa, zab, zac, zad, zae, zaf, zag, zah, zai, zaj, zak, zal, zam, zan, zao, zap, zaq, zar, zas, zat, zau, zav, zaw, zax, zay, zaz, zba, zbb, zbc, zbd, zbe, zbf, zbg, zbh, zbi, zbj, zbk, zbl, zbm, zbn, zbo, zbp, zbq, zbr, zbs, zbt, zbu, zbv, zbw, zbx, zby, zbz, zca, zcb, zcc, zcd, zce, zcf, zcg, zch, zci, zcj, zck, zcl, zcm, zcn, zco, zcp, zcq, zcr, zcs, zct, zcu, zcv, zcw, zcx, zcy, zcz, zda, zdb, zdc, zdd, zde, zdf, zdg, zdh, zdi, zdj, zdk, zdl, zdm, zdn, zdo, zdp, zdq, zdr, zds, zdt, zdu, zdv, zdw, zdx, zdy, zdz, zea, zeb, zec, zed, zee, zef, zeg, zeh, zei, zej, zek, zel, zem, zen, zeo, zep, zeq, zer, zes, zet, zeu, zev, zew, zex, zey, zez, zfa, zfb, zfc, zfd, zfe, zff, zfg, zfh, zfi, zfj, zfk, zfl, zfm, zfn, zfo, zfp, zfq, zfr, zfs, zft, zfu, zfv, zfw, zfx, zfy, zfz, zga, zgb, zgc, Nat.reduceAdd]); (try simp only [zgd, zge, zgf, zgg, true_and, and_true]))
    refine ⟨w, q.den, Nat.gcd p.num.natAbs q.den, ⟨hw, by lia, by lia, g1⟩, rfl, ?_⟩
    ((try dsimp only [zaa, zab, zac, zad, zae, zaf, zag, zah, zai, zaj, zak, zal, zam, zan, zao, zap, zaq, zar, zas, zat, zau, zav, zaw, zax, zay, zaz, zba, zbb, zbc, zbd, zbe, zbf, zbg, zbh, zbi, zbj, zbk, zbl, zbm, zbn, zbo, zbp, zbq, zbr, zbs, zbt, zbu, zbv, zbw, zbx, zby, zbz, zca, zcb, zcc, zcd, zce, zcf, zcg, zch, zci, zcj, zck, zcl, zcm, zcn, zco, zcp, zcq, zcr, zcs, zct, zcu, zcv, zcw, zcx, zcy, zcz, zda, zdb, zdc, zdd, zde, zdf, zdg, zdh, zdi, zdj, zdk, zdl, zdm, zdn, zdo, zdp, zdq, zdr, zds, zdt, zdu, zdv, zdw, zdx, zdy, zdz, zea, zeb, zec, zed, zee, zef, zeg, zeh, zei, zej, zek, zel, zem, zen, zeo, zep, zeq, zer, zes, zet, zeu, zev, zew, zex, zey, zez, zfa, zfb, zfc, zfd, zfe, zff, zfg, zfh, zfi, zfj, zfk, zfl, zfm, zfn, zfo, zfp, zfq, zfr, zfs, zft, zfu, zfv, zfw, zfx, zfy, zfz, zga, zgb, zgc, Nat.reduceAdd]); (try simp only [zgd, zge, zgf, zgg, true_and, and_true]))
    refine ⟨w, _, _, ⟨hw, by lia, by lia⟩, rfl, ?_⟩
    have key := rat_of (q := p * q) (a := p.num / (Nat.gcd p.num.natAbs q.den : Nat) * (q.num / (Nat.gcd q.num.natAbs p.den : Nat))) (b := p.den / Nat.gcd q.num.natAbs p.den * (q.den / Nat.gcd p.num.natAbs q.den))
      (Nat.mul_pos (Nat.div_pos g2' g2) (Nat.div_pos g1' g1)) (by rw [Int.natAbs_mul, s1.1, s2.1]; exact hparts) ?_
    · simp only [qv, sv, key.1, key.2] at hG
      exact hG
    rw [Rat.mul_def', Rat.mkRat_eq_iff (Nat.ne_of_gt (Nat.mul_pos hpd hqd)) (Nat.ne_of_gt (Nat.mul_pos (Nat.div_pos g2' g2) (Nat.div_pos g1' g1)))]
    have e1 : p.num / (Nat.gcd p.num.natAbs q.den : Nat) * (Nat.gcd p.num.natAbs q.den : Nat) = p.num := Int.ediv_mul_cancel (Int.ofNat_dvd_left.mpr (Nat.gcd_dvd_left _ _))
    have e2 : q.num / (Nat.gcd q.num.natAbs p.den : Nat) * (Nat.gcd q.num.natAbs p.den : Nat) = q.num := Int.ediv_mul_cancel (Int.ofNat_dvd_left.mpr (Nat.gcd_dvd_left _ _))
    have e3 : p.den / Nat.gcd q.num.natAbs p.den * Nat.gcd q.num.natAbs p.den = p.den := Nat.div_mul_cancel (Nat.gcd_dvd_right _ _)
    have e4 : q.den / Nat.gcd p.num.natAbs q.den * Nat.gcd p.num.natAbs q.den = q.den := Nat.div_mul_cancel (Nat.gcd_dvd_right _ _)
    generalize p.num / (Nat.gcd p.num.natAbs q.den : Nat) = a at *
    generalize q.num / (Nat.gcd q.num.natAbs p.den : Nat) = c at *
    generalize p.den / Nat.gcd q.num.natAbs p.den = b at *
    generalize q.den / Nat.gcd p.num.natAbs q.den = d at *
    generalize Nat.gcd p.num.natAbs q.den = x at *
    generalize Nat.gcd q.num.natAbs p.den = y at *
    have e3' : (p.den : Int) = b * y := by rw [← e3]; exact Int.natCast_mul _ _
    have e4' : (q.den : Int) = d * x := by rw [← e4]; exact Int.natCast_mul _ _
    rw [Int.natCast_mul, Int.natCast_mul, e3', e4', ← e1, ← e2]
    grind
end Mine

open PySem PySem.Calls PyProof.Rows
set_option Elab.async false
set_option maxRecDepth 100000
set_option maxHeartbeats 4000000
namespace Mine
theorem r_sub_w {prog : Program} {w : World} {h0 : Heap} {mg mb : Str → Option Value} {ads : Ads} (S : Stat h0 mg mb) (T : Tops h0 mg ads) : FnOk prog w h0 7 (ads 31) (P_r_sub ads) := by
  refine' fnOk_of (d := 6) S T.r_sub ["x", "y", "w", "mul", "divrem"] [] ?hb ?hl ?hn rfl rfl rfl ?hc (fun A L cd O => ?hB) (P_r_sub ads) ?hP
  case hb =>
    intro pm cd doc vs h
    exact vs5 (P := fun vs => bindArgs _ ⟨vs, []⟩ = pure (List.zip _ vs)) (by intros; rfl) h
  case hl => decide
  case hn => decide
  case hc => decide
  case hB =>
    exact (SSs.cons (SS.ret (SE.call O ((r_add_w S T).mono (by decide)) "r_add" (SEs.cons (SE.name O 0 "x" _ rfl) (SEs.cons (SE.call O ((r_neg_w S T).mono (by decide)) "r_neg" (SEs.cons (SE.name O 1 "y" _ rfl) SEs.nil) _ _ rfl T.r_neg.gname) (SEs.cons (SE.name O 2 "w" _ rfl) (SEs.cons (SE.name O 3 "mul" _ rfl) (SEs.cons (SE.name O 4 "divrem" _ rfl) SEs.nil))))) _ _ rfl T.r_add.gname) _)
    SSs.nil)
  case hP =>
    intro xs G h
    obtain ⟨w, p, q, ⟨hw, ⟨hp1, hp2⟩, ⟨hq1, hq2⟩⟩, rfl, hG⟩ := h
    refine ⟨rfl, ?_⟩
    ((try dsimp only [zaa, zab, zac, zad, zae, zaf, zag, zah, zai, zaj, zak, zal, zam, zan, zao, zap, zaq, zar, zas, zat, zau, zav, zaw, zax, zay, zaz, zba, zbb, zbc, zbd, zbe, zbf, zbg, zbh, zbi, zbj, zbk, zbl, zbm, zbn, zbo, zbp, zbq, zbr, zbs, zbt, zbu, zbv, zbw, zbx, zby, zbz, zca, zcb, zcc, zcd, zce, zcf, zcg, zch, zci, zcj, zck, zcl, zcm, zcn, zco, zcp, zcq, zcr, zcs, zct, zcu, zcv, zcw, zcx, zcy, zcz, zda, zdb, zdc, zdd, zde, zdf, zdg, zdh, zdi, zdj, zdk, zdl, zdm, zdn, zdo, zdp, zdq, zdr, zds, zdt, zdu, zdv, zdw, zdx, zdy, zdz, zea, zeb, zec, zed, zee, zef, zeg, zeh, zei, zej, zek, zel, zem, zen, zeo, zep, zeq, zer, zes, zet, zeu, zev, zew, zex, zey, zez, zfa, zfb, zfc, zfd, zfe, zff, zfg, zfh, zfi, zfj, zfk, zfl, zfm, zfn, zfo, zfp, zfq, zfr, zfs, zft, zfu, zfv, zfw, zfx, zfy, zfz, zga, zgb, zgc, Nat.reduceAdd]); (try simp only [zgd, zge, zgf, zgg, true_and, and_true]))
    refine ⟨w, q, hw, rfl, w, p, -q, ⟨hw, ⟨hp1, hp2⟩, ⟨?_, ?_⟩⟩, rfl, ?_⟩
    · rw [Rat.neg_num, Int.natAbs_neg]; exact hq1
    · rw [Rat.neg_den]; exact hq2
    rw [← Rat.sub_eq_add_neg]; exact hG
end Mine

open PySem PySem.Calls PyProof.Rows
set_option Elab.async false
set_option maxRecDepth 100000
set_option maxHeartbeats 4000000
namespace Mine
theorem r_div_w {prog : Program} {w : World} {h0 : Heap} {mg mb : Str → Option Value} {ads : Ads} (S : Stat h0 mg mb) (T : Tops h0 mg ads) : FnOk prog w h0 7 (ads 34) (P_r_div ads) := by
  refine' fnOk_of (d := 6) S T.r_div ["x", "y", "w", "mul", "divrem"] [] ?hb ?hl ?hn rfl rfl rfl ?hc (fun A L cd O => ?hB) (P_r_div ads) ?hP
  case hb =>
    intro pm cd doc vs h
    exact vs5 (P := fun vs => bindArgs _ ⟨vs, []⟩ = pure (List.zip _ vs)) (by intros; rfl) h
  case hl => decide
  case hn => decide
  case hc => decide
  case hB =>
    exact (SSs.cons (SS.ret (SE.call O ((r_mul_w S T).mono (by decide)) "r_mul" (SEs.cons (SE.name O 0 "x" _ rfl) (SEs.cons (SE.call O ((r_inverse_w S T).mono (by decide)) "r_inverse" (SEs.cons (SE.name O 1 "y" _ rfl) SEs.nil) _ _ rfl T.r_inverse.gname) (SEs.cons (SE.name O 2 "w" _ rfl) (SEs.cons (SE.name O 3 "mul" _ rfl) (SEs.cons (SE.name O 4 "divrem" _ rfl) SEs.nil))))) _ _ rfl T.r_mul.gname) _)
    SSs.nil)
  case hP =>
    intro xs G h
    obtain ⟨w, p, q, ⟨hw, ⟨hp1, hp2⟩, ⟨hq1, hq2⟩, hq⟩, rfl, hG⟩ := h
    refine ⟨rfl, ?_⟩
    have hn : q.num ≠ 0 := fun e => hq (Rat.num_eq_zero.mp e)
    have e1 : q⁻¹.den = q.num.natAbs := by
      show (Rat.inv q).den = _
      unfold Rat.inv
      split
      · rfl
      · split
        · rfl
        · lia
    have e2 : q⁻¹.num.natAbs = q.den := by
      show (Rat.inv q).num.natAbs = _
      unfold Rat.inv
      split
      · show (-(q.den : Int)).natAbs = _; lia
      · split
        · rfl
        · lia
    ((try dsimp only [zaa, zab, zac, zad, zae, zaf, zag, zah, zai, zaj, zak, zal, zam, zan, zao, zap, zaq, zar, zas, zat, zau, zav, zaw, zax, zay, zaz, zba, zbb, zbc, zbd, zbe, zbf, zbg, zbh, zbi, zbj, zbk, zbl, zbm, zbn, zbo, zbp, zbq, zbr, zbs, zbt, zbu, zbv, zbw, zbx, zby, zbz, zca, zcb, zcc, zcd, zce, zcf, zcg, zch, zci, zcj, zck, zcl, zcm, zcn, zco, zcp, zcq, zcr, zcs, zct, zcu, zcv, zcw, zcx, zcy, zcz, zda, zdb, zdc, zdd, zde, zdf, zdg, zdh, zdi, zdj, zdk, zdl, zdm, zdn, zdo, zdp, zdq, zdr, zds, zdt, zdu, zdv, zdw, zdx, zdy, zdz, zea, zeb, zec, zed, zee, zef, zeg, zeh, zei, zej, zek, zel, zem, zen, zeo, zep, zeq, zer, zes, zet, zeu, zev, zew, zex, zey, zez, zfa, zfb, zfc, zfd, zfe, zff, zfg, zfh, zfi, zfj, zfk, zfl, zfm, zfn, zfo, zfp, zfq, zfr, zfs, zft, zfu, zfv, zfw, zfx, zfy, zfz, zga, zgb, zgc, Nat.reduceAdd]); (try simp only [zgd, zge, zgf, zgg, true_and, and_true]))
    refine ⟨w, q, ⟨hw, hq⟩, rfl, w, p, q⁻¹, ⟨hw, ⟨hp1, hp2⟩, ⟨by rw [e2]; exact hq2, by rw [e1]; exact hq1⟩⟩, rfl, ?_⟩
    rw [← Rat.div_def]; exact hG
end Mine

open PySem PySem.Calls PyProof.Rows
set_option Elab.async false
set_option maxRecDepth 100000
set_option maxHeartbeats 4000000
namespace Mine
theorem law_first_within_w {prog : Program} {w : World} {h0 : Heap} {mg mb : Str → Option Value} {ads : Ads} (S : Stat h0 mg mb) (T : Tops h0 mg ads) : FnOk prog w h0 7 (ads 50) (P_law_first_within ads) := by
  refine' fnOk_of (d := 6) S T.law_first_within ["begin", "end", "w"] ["many", "top", "found"] ?hb ?hl ?hn rfl rfl rfl ?hc (fun A L cd O => ?hB) (P_law_first_within ads) ?hP
  case hb =>
    intro pm cd doc vs h
    exact vs3 (P := fun vs => bindArgs _ ⟨vs, []⟩ = pure (List.zip _ vs)) (by intros; rfl) h
  case hl => decide
  case hn => decide
  case hc => decide
  case hB =>
    exact (SSs.cons (SS.forR1 O 3 "many" (SE.int 24 _ _) (SSs.cons (SS.assign O 4 "top" (SE.item (SB.of (SE.call O ((cdiv_w S T).mono (by decide)) "cdiv" (SEs.cons (SE.call O ((s_shift_w S T).mono (by decide)) "s_shift" (SEs.cons (SE.item (SB.of (SE.name O 0 "begin" _ rfl)) (SE.int 0 _ _) _) (SEs.cons (SE.name O 3 "many" _ rfl) (SEs.cons (SE.name O 2 "w" _ rfl) SEs.nil))) _ _ rfl T.s_shift.gname) (SEs.cons (SE.tuple (SEs.cons (SE.bool false _ _) (SEs.cons (SE.item (SB.of (SE.name O 0 "begin" _ rfl)) (SE.int 1 _ _) _) SEs.nil)) _ _) (SEs.cons (SE.name O 2 "w" _ rfl) (SEs.cons (SE.fn O "divrem_school" _ _ rfl T.divrem_school.gname) SEs.nil)))) _ _ rfl T.cdiv.gname)) (SE.int 0 _ _) _) _ _ rfl (.inl ⟨rfl, rfl⟩))
    (SSs.cons (SS.assign O 5 "found" (SE.call O ((r_make_w S T).mono (by decide)) "r_make" (SEs.cons (SE.name O 4 "top" _ rfl) (SEs.cons (SE.call O ((s_shift_w S T).mono (by decide)) "s_shift" (SEs.cons (SE.tuple (SEs.cons (SE.bool false _ _) (SEs.cons (SE.listI (SEs.cons (SE.int 1 _ _) SEs.nil) _) SEs.nil)) _ _) (SEs.cons (SE.name O 3 "many" _ rfl) (SEs.cons (SE.name O 2 "w" _ rfl) SEs.nil))) _ _ rfl T.s_shift.gname) (SEs.cons (SE.name O 2 "w" _ rfl) (SEs.cons (SE.fn O "divrem_school" _ _ rfl T.divrem_school.gname) SEs.nil)))) _ _ rfl T.r_make.gname) _ _ rfl (.inl ⟨rfl, rfl⟩))
    (SSs.cons (SS.ite (STr.cmp O lt_ok (SE.call O ((r_compare_w S T).mono (by decide)) "r_compare" (SEs.cons (SE.name O 5 "found" _ rfl) (SEs.cons (SE.name O 1 "end" _ rfl) (SEs.cons (SE.name O 2 "w" _ rfl) (SEs.cons (SE.fn O "mul_school" _ _ rfl T.mul_school.gname) SEs.nil)))) _ _ rfl T.r_compare.gname) (SE.int 0 _ _) _) (SSs.cons (SS.ret (SE.tuple (SEs.cons (SE.name O 3 "many" _ rfl) (SEs.cons (SE.name O 5 "found" _ rfl) SEs.nil)) _ _) _)
    SSs.nil) SSs.nil _)
    SSs.nil))) _ _ _ _ rfl (.inl ⟨rfl, rfl⟩) rfl S.range.1 S.range.2)
    (SSs.cons (SS.ret (SE.tuple (SEs.cons (SE.int 24 _ _) (SEs.cons (SE.name O 0 "begin" _ rfl) SEs.nil)) _ _) _)
    SSs.nil))
  case hP =>
    intro xs G h
    obtain ⟨w, b, e, ⟨hw, hb0, hb1, hb2, he⟩, rfl, hG⟩ := h
    refine ⟨rfl, ?_⟩
    have hbn0 : 0 ≤ b.num := Rat.num_nonneg.mpr hb0
    obtain ⟨bn, hbn⟩ : ∃ bn : Nat, b.num = (bn : Int) := ⟨_, (Int.toNat_of_nonneg hbn0).symm⟩
    have hbd := b.den_pos
    obtain ⟨eV, heV⟩ : ∃ v, qv w e = v := ⟨_, rfl⟩
    obtain ⟨bV, hbV⟩ : ∃ v, qv w b = v := ⟨_, rfl⟩
    have hbV' : bV = .tup [sv w (bn : Nat), .ints (limbs (2 ^ w) b.den)] := by rw [← hbV, qv, hbn]; rfl
    have hex := heV
    rw [heV, hbV, hbV']
    have hG' : ∀ k q, fwN b e 24 0 = (k, q) → G (.tup [iv k, qv w q]) := by intro k q h; rw [h] at hG; exact hG
    dsimp only [zaa, zab, zac, zad, zae, zaf, zag, zah, zai, zaj, zak, zal, zam, zan, zao, zap, zaq, zar, zas, zat, zau, zav, zaw, zax, zay, zaz, zba, zbb, zbc, zbd, zbe, zbf, zbg, zbh, zbi, zbj, zbk, zbl, zbm, zbn, zbo, zbp, zbq, zbr, zbs, zbt, zbu, zbv, zbw, zbx, zby, zbz, zca, zcb, zcc, zcd, zce, zcf, zcg, zch, zci, zcj, zck, zcl, zcm, zcn, zco, zcp, zcq, zcr, zcs, zct, zcu, zcv, zcw, zcx, zcy, zcz, zda, zdb, zdc, zdd, zde, zdf, zdg, zdh, zdi, zdj, zdk, zdl, zdm, zdn, zdo, zdp, zdq, zdr, zds, zdt, zdu, zdv, zdw, zdx, zdy, zdz, zea, zeb, zec, zed, zee, zef, zeg, zeh, zei, zej, zek, zel, zem, zen, zeo, zep, zeq, zer, zes, zet, zeu, zev, zew, zex, zey, zez, zfa, zfb, zfc, zfd, zfe, zff, zfg, zfh, zfi, zfj, zfk, zfl, zfm, zfn, zfo, zfp, zfq, zfr, zfs, zft, zfu, zfv, zfw, zfx, zfy, zgc, Nat.reduceAdd]
    refine ⟨by decide, by decide, ?_⟩
    refine forR_inv (fun k σ => ∃ (t u v : Sl), fwN b e (24 - k) k = fwN b e 24 0 ∧ σ = [.val (.tup [sv w (bn : Nat), .ints (limbs (2 ^ w) b.den)]), .val eV, .val (.int (w : Int)), t, u, v]) (fun r _ => G r) ⟨_, _, _, rfl, rfl⟩ ?_ ?_ (fun _ _ h => h)
    · rintro k σ K hk ⟨t, u, v, hfw, rfl⟩ hK hR
      have hk24 : k < 24 := hk
      have hp : 2 ^ k ≤ 2 ^ 24 := Nat.pow_le_pow_right (by lia) (by lia)
      have hp0 : 0 < 2 ^ k := Nat.two_pow_pos k
      have hbk : bn * 2 ^ k ≤ 2 ^ 30 * 2 ^ 24 := Nat.mul_le_mul (by lia) hp
      dsimp only [zaa, zab, zac, zad, zae, zaf, zag, zah, zai, zaj, zak, zal, zam, zan, zao, zap, zaq, zar, zas, zat, zau, zav, zaw, zax, zay, zaz, zba, zbb, zbc, zbd, zbe, zbf, zbg, zbh, zbi, zbj, zbk, zbl, zbm, zbn, zbo, zbp, zbq, zbr, zbs, zbt, zbu, zbv, zbw, zbx, zby, zbz, zca, zcb, zcc, zcd, zce, zcf, zcg, zch, zci, zcj, zck, zcl, zcm, zcn, zco, zcp, zcq, zcr, zcs, zct, zcu, zcv, zcw, zcx, zcy, zcz, zda, zdb, zdc, zdd, zde, zdf, zdg, zdh, zdi, zdj, zdk, zdl, zdm, zdn, zdo, zdp, zdq, zdr, zds, zdt, zdu, zdv, zdw, zdx, zdy, zdz, zea, zeb, zec, zed, zee, zef, zeg, zeh, zei, zej, zek, zel, zem, zen, zeo, zep, zeq, zer, zes, zet, zeu, zev, zew, zex, zey, zez, zfa, zfb, zfc, zfd, zfe, zff, zfg, zfh, zfi, zfj, zfk, zfl, zfm, zfn, zfo, zfp, zfq, zfr, zfs, zft, zfu, zfv, zfw, zfx, zfy, zgc, Nat.reduceAdd]
      refine ⟨w, bn, k, ⟨hw, by lia, by lia⟩, rfl, ?_⟩
      dsimp only [zaa, zab, zac, zad, zae, zaf, zag, zah, zai, zaj, zak, zal, zam, zan, zao, zap, zaq, zar, zas, zat, zau, zav, zaw, zax, zay, zaz, zba, zbb, zbc, zbd, zbe, zbf, zbg, zbh, zbi, zbj, zbk, zbl, zbm, zbn, zbo, zbp, zbq, zbr, zbs, zbt, zbu, zbv, zbw, zbx, zby, zbz, zca, zcb, zcc, zcd, zce, zcf, zcg, zch, zci, zcj, zck, zcl, zcm, zcn, zco, zcp, zcq, zcr, zcs, zct, zcu, zcv, zcw, zcx, zcy, zcz, zda, zdb, zdc, zdd, zde, zdf, zdg, zdh, zdi, zdj, zdk, zdl, zdm, zdn, zdo, zdp, zdq, zdr, zds, zdt, zdu, zdv, zdw, zdx, zdy, zdz, zea, zeb, zec, zed, zee, zef, zeg, zeh, zei, zej, zek, zel, zem, zen, zeo, zep, zeq, zer, zes, zet, zeu, zev, zew, zex, zey, zez, zfa, zfb, zfc, zfd, zfe, zff, zfg, zfh, zfi, zfj, zfk, zfl, zfm, zfn, zfo, zfp, zfq, zfr, zfs, zft, zfu, zfv, zfw, zfx, zfy, zgc, Nat.reduceAdd]
      refine ⟨w, bn * 2 ^ k, b.den, ⟨hw, by lia, by lia, hbd⟩, by rw [sv_nat w b.den]; rfl, ?_⟩
      intro r
      dsimp only [zaa, zab, zac, zad, zae, zaf, zag, zah, zai, zaj, zak, zal, zam, zan, zao, zap, zaq, zar, zas, zat, zau, zav, zaw, zax, zay, zaz, zba, zbb, zbc, zbd, zbe, zbf, zbg, zbh, zbi, zbj, zbk, zbl, zbm, zbn, zbo, zbp, zbq, zbr, zbs, zbt, zbu, zbv, zbw, zbx, zby, zbz, zca, zcb, zcc, zcd, zce, zcf, zcg, zch, zci, zcj, zck, zcl, zcm, zcn, zco, zcp, zcq, zcr, zcs, zct, zcu, zcv, zcw, zcx, zcy, zcz, zda, zdb, zdc, zdd, zde, zdf, zdg, zdh, zdi, zdj, zdk, zdl, zdm, zdn, zdo, zdp, zdq, zdr, zds, zdt, zdu, zdv, zdw, zdx, zdy, zdz, zea, zeb, zec, zed, zee, zef, zeg, zeh, zei, zej, zek, zel, zem, zen, zeo, zep, zeq, zer, zes, zet, zeu, zev, zew, zex, zey, zez, zfa, zfb, zfc, zfd, zfe, zff, zfg, zfh, zfi, zfj, zfk, zfl, zfm, zfn, zfo, zfp, zfq, zfr, zfs, zft, zfu, zfv, zfw, zfx, zfy, zgc, Nat.reduceAdd]
      refine ⟨w, 1, k, ⟨hw, by lia, by lia⟩, by rw [sv_nat w 1, one_limb hw]; rfl, ?_⟩
      rw [Nat.one_mul]
      have hz : (bn * 2 ^ k + b.den - 1) / b.den ≤ bn * 2 ^ k + b.den - 1 := Nat.div_le_self _ _
      obtain ⟨M, hM⟩ : ∃ M : Nat, (bn * 2 ^ k + b.den - 1) / b.den = M := ⟨_, rfl⟩
      rw [hM] at hz ⊢
      refine ⟨w, (M : Int), 2 ^ k, ⟨hw, by lia, by lia, hp0⟩, rfl, ?_⟩
      dsimp only [zaa, zab, zac, zad, zae, zaf, zag, zah, zai, zaj, zak, zal, zam, zan, zao, zap, zaq, zar, zas, zat, zau, zav, zaw, zax, zay, zaz, zba, zbb, zbc, zbd, zbe, zbf, zbg, zbh, zbi, zbj, zbk, zbl, zbm, zbn, zbo, zbp, zbq, zbr, zbs, zbt, zbu, zbv, zbw, zbx, zby, zbz, zca, zcb, zcc, zcd, zce, zcf, zcg, zch, zci, zcj, zck, zcl, zcm, zcn, zco, zcp, zcq, zcr, zcs, zct, zcu, zcv, zcw, zcx, zcy, zcz, zda, zdb, zdc, zdd, zde, zdf, zdg, zdh, zdi, zdj, zdk, zdl, zdm, zdn, zdo, zdp, zdq, zdr, zds, zdt, zdu, zdv, zdw, zdx, zdy, zdz, zea, zeb, zec, zed, zee, zef, zeg, zeh, zei, zej, zek, zel, zem, zen, zeo, zep, zeq, zer, zes, zet, zeu, zev, zew, zex, zey, zez, zfa, zfb, zfc, zfd, zfe, zff, zfg, zfh, zfi, zfj, zfk, zfl, zfm, zfn, zfo, zfp, zfq, zfr, zfs, zft, zfu, zfv, zfw, zfx, zfy, zgc, Nat.reduceAdd]
      obtain ⟨q, hq⟩ : ∃ q : Rat, mkRat (M : Int) (2 ^ k) = q := ⟨_, rfl⟩
      have hSq : Sm q := by rw [← hq]; exact Sm_mk (by lia) (by lia) hp0
      rw [hq]
      have hstep : fwN b e (24 - k) k = if q < e then (k, q) else fwN b e (24 - (k + 1)) (k + 1) := by
        rw [show 24 - k = (24 - (k + 1)) + 1 by lia]
        show (if mkRat (((b.num.toNat * 2 ^ k + b.den - 1) / b.den : Nat) : Int) (2 ^ k) < e then _ else _) = _
        rw [hbn, Int.toNat_natCast, hM, hq]
      refine ⟨w, q, e, ⟨hw, hSq, he⟩, by rw [← heV]; rfl, ?_⟩
      dsimp only [zaa, zab, zac, zad, zae, zaf, zag, zah, zai, zaj, zak, zal, zam, zan, zao, zap, zaq, zar, zas, zat, zau, zav, zaw, zax, zay, zaz, zba, zbb, zbc, zbd, zbe, zbf, zbg, zbh, zbi, zbj, zbk, zbl, zbm, zbn, zbo, zbp, zbq, zbr, zbs, zbt, zbu, zbv, zbw, zbx, zby, zbz, zca, zcb, zcc, zcd, zce, zcf, zcg, zch, zci, zcj, zck, zcl, zcm, zcn, zco, zcp, zcq, zcr, zcs, zct, zcu, zcv, zcw, zcx, zcy, zcz, zda, zdb, zdc, zdd, zde, zdf, zdg, zdh, zdi, zdj, zdk, zdl, zdm, zdn, zdo, zdp, zdq, zdr, zds, zdt, zdu, zdv, zdw, zdx, zdy, zdz, zea, zeb, zec, zed, zee, zef, zeg, zeh, zei, zej, zek, zel, zem, zen, zeo, zep, zeq, zer, zes, zet, zeu, zev, zew, zex, zey, zez, zfa, zfb, zfc, zfd, zfe, zff, zfg, zfh, zfi, zfj, zfk, zfl, zfm, zfn, zfo, zfp, zfq, zfr, zfs, zft, zfu, zfv, zfw, zfx, zfy, zgc, Nat.reduceAdd]
      simp only [zgd, sign_lt]
      refine ⟨fun h => hR _ _ ?_, fun h => hK _ ⟨_, _, _, ?_, rfl⟩⟩
      · refine hG' k q ?_
        rw [← hfw, hstep, if_pos h]
      · rw [← hfw, hstep, if_neg h]
    · rintro σ' ⟨t, u, v, hfw, rfl⟩
      dsimp only [zaa, zab, zac, zad, zae, zaf, zag, zah, zai, zaj, zak, zal, zam, zan, zao, zap, zaq, zar, zas, zat, zau, zav, zaw, zax, zay, zaz, zba, zbb, zbc, zbd, zbe, zbf, zbg, zbh, zbi, zbj, zbk, zbl, zbm, zbn, zbo, zbp, zbq, zbr, zbs, zbt, zbu, zbv, zbw, zbx, zby, zbz, zca, zcb, zcc, zcd, zce, zcf, zcg, zch, zci, zcj, zck, zcl, zcm, zcn, zco, zcp, zcq, zcr, zcs, zct, zcu, zcv, zcw, zcx, zcy, zcz, zda, zdb, zdc, zdd, zde, zdf, zdg, zdh, zdi, zdj, zdk, zdl, zdm, zdn, zdo, zdp, zdq, zdr, zds, zdt, zdu, zdv, zdw, zdx, zdy, zdz, zea, zeb, zec, zed, zee, zef, zeg, zeh, zei, zej, zek, zel, zem, zen, zeo, zep, zeq, zer, zes, zet, zeu, zev, zew, zex, zey, zez, zfa, zfb, zfc, zfd, zfe, zff, zfg, zfh, zfi, zfj, zfk, zfl, zfm, zfn, zfo, zfp, zfq, zfr, zfs, zft, zfu, zfv, zfw, zfx, zfy, zgc, Nat.reduceAdd]
      have e2 : fwN b e 24 0 = (24, b) := hfw.symm
      have := hG' 24 b e2
      rw [hbV, hbV'] at this
      exact this
end Mine

open PySem PySem.Calls PyProof.Rows
set_option Elab.async false
set_option maxRecDepth 100000
set_option maxHeartbeats 4000000
namespace Mine

abbrev lawNs : List Str := ["script", "letter", "w", "weights", "text", "shares", "begin", "long", "at", "ahead", "after", "share", "end", "many", "here", "last", "sign", "told"]
abbrev lawCx (prog : Program) (w : World) (h0 : Heap) (mg mb : Str → Option Value) (A : Around) (L a : Addr) (cd : Value) : Cx :=
  ⟨prog, w, h0, mg, mb, A.deeper (envOfC "law" (scopeOf (stAt 51)) L a cd), envOfC "law" (scopeOf (stAt 51)) L a cd, lawNs⟩
def lawWalk {prog : Program} {w : World} {h0 : Heap} {mg mb : Str → Option Value} {ads : Ads} (S : Stat h0 mg mb) (T : Tops h0 mg ads) {A : Around} {L a : Addr} {cd : Value} (O : (lawCx prog w h0 mg mb A L a cd).Ok 8) : { F : Tr // SSs (lawCx prog w h0 mg mb A L a cd) (bodyOf (stAt 51)) F } :=
  Subtype.mk _ (SSs.cons (SS.assignO O 1 "letter" (SO.listP (SEs.cons (SE.int 0 _ _) (SEs.cons (SE.comp O rfl (by decide) rfl (by decide) rfl (SE.slice (SB.of (SE.name O 0 "script" _ rfl)) OptE.none (OptE.some (SE.int 10 _ _)) _ _) (fun _ => TJ.nil) (fun _ => EJ.pure O (Free.of0 rfl rfl) (fun Cc O => (SE.abs O (SE.toInt O (SE.name O 0 "sign" _ rfl) _ _ rfl S.int.1 S.int.2) _ _ rfl S.abs.1 S.abs.2))) _) SEs.nil)) _) _ _ rfl (.inr ⟨_, rfl, rfl⟩))
    (SSs.cons (SS.assignM O 2 "w" (SM.add 3 _ _ (SM.call O ((law_spelled_w S T).mono (by decide)) 1 "letter" "_law_spelled" (SEs.cons (SE.int 6 _ _) SEs.nil) _ _ _ rfl rfl T.law_spelled.gname) _) _ _ rfl (.inr ⟨_, rfl, rfl⟩))
    (SSs.cons (SS.assignCompN O rfl (by decide) rfl (by decide) rfl 1 (SN.add 2 _ _ (SN.call O ((law_spelled_w S T).mono (by decide)) 1 "letter" "_law_spelled" (SEs.cons (SE.int 3 _ _) SEs.nil) _ _ _ rfl rfl T.law_spelled.gname) _) (fun _ => EJ.change O (Free.of1 1 rfl rfl rfl rfl rfl (fun _ => rfl)) 0 1 rfl (fun Cc O => (SN.add 1 _ _ (SN.call O ((law_spelled_w S T).mono (by decide)) 1 "letter" "_law_spelled" (SEs.cons (SE.int 4 _ _) SEs.nil) _ _ _ rfl rfl T.law_spelled.gname) _))) 3 "weights" _ _ rfl (.inr ⟨_, rfl, rfl⟩) rfl S.range.1 S.range.2)
    (SSs.cons (SS.assignComp O rfl (by decide) rfl (by decide) rfl 1 (SN.add 1 _ _ (SN.call O ((law_spelled_w S T).mono (by decide)) 1 "letter" "_law_spelled" (SEs.cons (SE.int 4 _ _) SEs.nil) _ _ _ rfl rfl T.law_spelled.gname) _) (fun _ => EJ.change O (Free.of2 1 3 rfl rfl rfl rfl rfl (by decide) rfl rfl rfl rfl (fun _ => rfl) (fun _ => rfl)) 0 1 rfl (fun Cc O => (SN.call O ((law_spelled_w S T).mono (by decide)) 1 "letter" "_law_spelled" (SEs.cons (SE.len O (SB.of (SE.name O 2 "weights" _ rfl)) _ _ rfl S.len.1 S.len.2) SEs.nil) _ _ _ rfl rfl T.law_spelled.gname))) 4 "text" _ _ rfl (.inl ⟨rfl, rfl⟩) rfl S.range.1 S.range.2)
    (SSs.cons (SS.assignTS O [(5, "shares", ⟨0, 0, 0, 0⟩), (6, "begin", ⟨0, 0, 0, 0⟩), (7, "long", ⟨0, 0, 0, 0⟩)] (SR.val (SE.call O ((law_shares_w S T).mono (by decide)) "_law_shares" (SEs.cons (SE.name O 3 "weights" _ rfl) (SEs.cons (SE.name O 2 "w" _ rfl) SEs.nil)) _ _ rfl T.law_shares.gname) (SR.val (SE.tuple (SEs.cons (SE.tuple (SEs.cons (SE.bool false _ _) (SEs.cons (SE.listI SEs.nil _) SEs.nil)) _ _) (SEs.cons (SE.listI (SEs.cons (SE.int 1 _ _) SEs.nil) _) SEs.nil)) _ _) (SR.val (SE.tuple (SEs.cons (SE.tuple (SEs.cons (SE.bool false _ _) (SEs.cons (SE.listI (SEs.cons (SE.int 1 _ _) SEs.nil) _) SEs.nil)) _ _) (SEs.cons (SE.listI (SEs.cons (SE.int 1 _ _) SEs.nil) _) SEs.nil)) _ _) SR.nil))) _ _ _ _ _ (all3 ⟨rfl, (.inl ⟨rfl, rfl⟩)⟩ ⟨rfl, (.inl ⟨rfl, rfl⟩)⟩ ⟨rfl, (.inl ⟨rfl, rfl⟩)⟩))
    (SSs.cons (SS.forR1 O 8 "at" (SE.len O (SB.of (SE.name O 4 "text" _ rfl)) _ _ rfl S.len.1 S.len.2) (SSs.cons (SS.assignTS O [(9, "ahead", ⟨0, 0, 0, 0⟩), (10, "after", ⟨0, 0, 0, 0⟩)] (SR.val (SE.name O 6 "begin" _ rfl) (SR.val (SE.call O ((r_add_w S T).mono (by decide)) "r_add" (SEs.cons (SE.name O 6 "begin" _ rfl) (SEs.cons (SE.name O 7 "long" _ rfl) (SEs.cons (SE.name O 2 "w" _ rfl) (SEs.cons (SE.fn O "mul_school" _ _ rfl T.mul_school.gname) (SEs.cons (SE.fn O "divrem_school" _ _ rfl T.divrem_school.gname) SEs.nil))))) _ _ rfl T.r_add.gname) SR.nil)) _ _ _ _ _ (all2 ⟨rfl, (.inl ⟨rfl, rfl⟩)⟩ ⟨rfl, (.inl ⟨rfl, rfl⟩)⟩))
    (SSs.cons (SS.assign O 11 "share" (SE.item (SB.of (SE.name O 5 "shares" _ rfl)) (SE.item (SB.of (SE.name O 4 "text" _ rfl)) (SE.name O 8 "at" _ rfl) _) _) _ _ rfl (.inl ⟨rfl, rfl⟩))
    (SSs.cons (SS.assign O 6 "begin" (SE.call O ((r_add_w S T).mono (by decide)) "r_add" (SEs.cons (SE.name O 6 "begin" _ rfl) (SEs.cons (SE.call O ((r_mul_w S T).mono (by decide)) "r_mul" (SEs.cons (SE.name O 7 "long" _ rfl) (SEs.cons (SE.item (SB.of (SE.name O 11 "share" _ rfl)) (SE.int 0 _ _) _) (SEs.cons (SE.name O 2 "w" _ rfl) (SEs.cons (SE.fn O "mul_school" _ _ rfl T.mul_school.gname) (SEs.cons (SE.fn O "divrem_school" _ _ rfl T.divrem_school.gname) SEs.nil))))) _ _ rfl T.r_mul.gname) (SEs.cons (SE.name O 2 "w" _ rfl) (SEs.cons (SE.fn O "mul_school" _ _ rfl T.mul_school.gname) (SEs.cons (SE.fn O "divrem_school" _ _ rfl T.divrem_school.gname) SEs.nil))))) _ _ rfl T.r_add.gname) _ _ rfl (.inl ⟨rfl, rfl⟩))
    (SSs.cons (SS.assign O 7 "long" (SE.call O ((r_mul_w S T).mono (by decide)) "r_mul" (SEs.cons (SE.name O 7 "long" _ rfl) (SEs.cons (SE.item (SB.of (SE.name O 11 "share" _ rfl)) (SE.int 1 _ _) _) (SEs.cons (SE.name O 2 "w" _ rfl) (SEs.cons (SE.fn O "mul_school" _ _ rfl T.mul_school.gname) (SEs.cons (SE.fn O "divrem_school" _ _ rfl T.divrem_school.gname) SEs.nil))))) _ _ rfl T.r_mul.gname) _ _ rfl (.inl ⟨rfl, rfl⟩))
    (SSs.cons (SS.ite (STr.cmp O ne_ok (SE.tuple (SEs.cons (SE.name O 6 "begin" _ rfl) (SEs.cons (SE.name O 7 "long" _ rfl) SEs.nil)) _ _) (SE.call O ((law_plain_span_w S T).mono (by decide)) "_law_plain_span" (SEs.cons (SE.name O 3 "weights" _ rfl) (SEs.cons (SE.slice (SB.of (SE.name O 4 "text" _ rfl)) OptE.none (OptE.some (SE.bin add_ok (SE.name O 8 "at" _ rfl) (SE.int 1 _ _) _)) _ _) (SEs.cons (SE.name O 2 "w" _ rfl) SEs.nil))) _ _ rfl T.law_plain_span.gname) _) (SSs.cons (SS.ret (SE.bool false _ _) _)
    SSs.nil) SSs.nil _)
    (SSs.cons (SS.assign O 12 "end" (SE.call O ((r_add_w S T).mono (by decide)) "r_add" (SEs.cons (SE.name O 6 "begin" _ rfl) (SEs.cons (SE.name O 7 "long" _ rfl) (SEs.cons (SE.name O 2 "w" _ rfl) (SEs.cons (SE.fn O "mul_school" _ _ rfl T.mul_school.gname) (SEs.cons (SE.fn O "divrem_school" _ _ rfl T.divrem_school.gname) SEs.nil))))) _ _ rfl T.r_add.gname) _ _ rfl (.inl ⟨rfl, rfl⟩))
    (SSs.cons (SS.ite (STr.or (STr.cmp O gt_ok (SE.call O ((r_compare_w S T).mono (by decide)) "r_compare" (SEs.cons (SE.name O 9 "ahead" _ rfl) (SEs.cons (SE.name O 6 "begin" _ rfl) (SEs.cons (SE.name O 2 "w" _ rfl) (SEs.cons (SE.fn O "mul_school" _ _ rfl T.mul_school.gname) SEs.nil)))) _ _ rfl T.r_compare.gname) (SE.int 0 _ _) _) (STr.cmp O gt_ok (SE.call O ((r_compare_w S T).mono (by decide)) "r_compare" (SEs.cons (SE.name O 12 "end" _ rfl) (SEs.cons (SE.name O 10 "after" _ rfl) (SEs.cons (SE.name O 2 "w" _ rfl) (SEs.cons (SE.fn O "mul_school" _ _ rfl T.mul_school.gname) SEs.nil)))) _ _ rfl T.r_compare.gname) (SE.int 0 _ _) _) _) (SSs.cons (SS.ret (SE.bool false _ _) _)
    SSs.nil) SSs.nil _)
    (SSs.cons (SS.ite (STr.and (STr.cmp O lt_ok (SE.bin add_ok (SE.item (SB.of (SE.name O 4 "text" _ rfl)) (SE.name O 8 "at" _ rfl) _) (SE.int 1 _ _) _) (SE.len O (SB.of (SE.name O 3 "weights" _ rfl)) _ _ rfl S.len.1 S.len.2) _) (STr.cmp O ne_ok (SE.name O 12 "end" _ rfl) (SE.item (SB.of (SE.call O ((law_plain_span_w S T).mono (by decide)) "_law_plain_span" (SEs.cons (SE.name O 3 "weights" _ rfl) (SEs.cons (SE.bin add_ok (SE.slice (SB.of (SE.name O 4 "text" _ rfl)) OptE.none (OptE.some (SE.name O 8 "at" _ rfl)) _ _) (SE.listI (SEs.cons (SE.bin add_ok (SE.item (SB.of (SE.name O 4 "text" _ rfl)) (SE.name O 8 "at" _ rfl) _) (SE.int 1 _ _) _) SEs.nil) _) _) (SEs.cons (SE.name O 2 "w" _ rfl) SEs.nil))) _ _ rfl T.law_plain_span.gname)) (SE.int 0 _ _) _) _) _) (SSs.cons (SS.ret (SE.bool false _ _) _)
    SSs.nil) SSs.nil _)
    SSs.nil)))))))) _ _ _ _ rfl (.inl ⟨rfl, rfl⟩) rfl S.range.1 S.range.2)
    (SSs.cons (SS.assignU O [(13, "many", _), (14, "here", _)] (SE.call O ((law_first_within_w S T).mono (by decide)) "_law_first_within" (SEs.cons (SE.name O 6 "begin" _ rfl) (SEs.cons (SE.call O ((r_add_w S T).mono (by decide)) "r_add" (SEs.cons (SE.name O 6 "begin" _ rfl) (SEs.cons (SE.name O 7 "long" _ rfl) (SEs.cons (SE.name O 2 "w" _ rfl) (SEs.cons (SE.fn O "mul_school" _ _ rfl T.mul_school.gname) (SEs.cons (SE.fn O "divrem_school" _ _ rfl T.divrem_school.gname) SEs.nil))))) _ _ rfl T.r_add.gname) (SEs.cons (SE.name O 2 "w" _ rfl) SEs.nil))) _ _ rfl T.law_first_within.gname) _ _ _ (all2 ⟨rfl, (.inl ⟨rfl, rfl⟩)⟩ ⟨rfl, (.inr ⟨_, rfl, rfl⟩)⟩))
    (SSs.cons (SS.ite (STr.cmp O gt_ok (SE.name O 13 "many" _ rfl) (SE.int 0 _ _) _) (SSs.cons (SS.assign O 15 "last" (SE.call O ((r_make_w S T).mono (by decide)) "r_make" (SEs.cons (SE.tuple (SEs.cons (SE.bool false _ _) (SEs.cons (SE.listI (SEs.cons (SE.int 1 _ _) SEs.nil) _) SEs.nil)) _ _) (SEs.cons (SE.call O ((s_shift_w S T).mono (by decide)) "s_shift" (SEs.cons (SE.tuple (SEs.cons (SE.bool false _ _) (SEs.cons (SE.listI (SEs.cons (SE.int 1 _ _) SEs.nil) _) SEs.nil)) _ _) (SEs.cons (SE.bin sub_ok (SE.name O 13 "many" _ rfl) (SE.int 1 _ _) _) (SEs.cons (SE.name O 2 "w" _ rfl) SEs.nil))) _ _ rfl T.s_shift.gname) (SEs.cons (SE.name O 2 "w" _ rfl) (SEs.cons (SE.fn O "divrem_school" _ _ rfl T.divrem_school.gname) SEs.nil)))) _ _ rfl T.r_make.gname) _ _ rfl (.inl ⟨rfl, rfl⟩))
    (SSs.cons (SS.ite (STr.cmp O ge_ok (SE.call O ((r_compare_w S T).mono (by decide)) "r_compare" (SEs.cons (SE.name O 7 "long" _ rfl) (SEs.cons (SE.name O 15 "last" _ rfl) (SEs.cons (SE.name O 2 "w" _ rfl) (SEs.cons (SE.fn O "mul_school" _ _ rfl T.mul_school.gname) SEs.nil)))) _ _ rfl T.r_compare.gname) (SE.int 0 _ _) _) (SSs.cons (SS.ret (SE.bool false _ _) _)
    SSs.nil) SSs.nil _)
    SSs.nil)) SSs.nil _)
    (SSs.cons (SS.forL O 16 "sign" (SE.name O 4 "text" _ rfl) (SSs.cons (SS.assign O 17 "told" (SE.bin sub_ok (SE.len O (SB.of (SE.comp O rfl (by decide) rfl (by decide) rfl (SE.name O 5 "shares" _ rfl) (fun _ => TJ.one O (Free.of2 14 2 rfl rfl rfl rfl rfl (by decide) rfl rfl rfl rfl (fun _ => rfl) (fun _ => rfl)) (fun Cc O => (STr.cmp O le_ok (SE.call O ((r_compare_w S T).mono (by decide)) "r_compare" (SEs.cons (SE.item (SB.of (SE.name O 0 "share" _ rfl)) (SE.int 0 _ _) _) (SEs.cons (SE.name O 1 "here" _ rfl) (SEs.cons (SE.name O 2 "w" _ rfl) (SEs.cons (SE.fn O "mul_school" _ _ rfl T.mul_school.gname) SEs.nil)))) _ _ rfl T.r_compare.gname) (SE.int 0 _ _) _))) (fun _ => EJ.pure O (Free.of2 14 2 rfl rfl rfl rfl rfl (by decide) rfl rfl rfl rfl (fun _ => rfl) (fun _ => rfl)) (fun Cc O => (SE.name O 0 "share" _ rfl))) _)) _ _ rfl S.len.1 S.len.2) (SE.int 1 _ _) _) _ _ rfl (.inl ⟨rfl, rfl⟩))
    (SSs.cons (SS.ite (STr.cmp O ne_ok (SE.name O 17 "told" _ rfl) (SE.name O 16 "sign" _ rfl) _) (SSs.cons (SS.ret (SE.bool false _ _) _)
    SSs.nil) SSs.nil _)
    (SSs.cons (SS.assign O 14 "here" (SE.call O ((r_sub_w S T).mono (by decide)) "r_sub" (SEs.cons (SE.name O 14 "here" _ rfl) (SEs.cons (SE.item (SB.of (SE.item (SB.of (SE.name O 5 "shares" _ rfl)) (SE.name O 16 "sign" _ rfl) _)) (SE.int 0 _ _) _) (SEs.cons (SE.name O 2 "w" _ rfl) (SEs.cons (SE.fn O "mul_school" _ _ rfl T.mul_school.gname) (SEs.cons (SE.fn O "divrem_school" _ _ rfl T.divrem_school.gname) SEs.nil))))) _ _ rfl T.r_sub.gname) _ _ rfl (.inr ⟨_, rfl, rfl⟩))
    (SSs.cons (SS.assign O 14 "here" (SE.call O ((r_div_w S T).mono (by decide)) "r_div" (SEs.cons (SE.name O 14 "here" _ rfl) (SEs.cons (SE.item (SB.of (SE.item (SB.of (SE.name O 5 "shares" _ rfl)) (SE.name O 16 "sign" _ rfl) _)) (SE.int 1 _ _) _) (SEs.cons (SE.name O 2 "w" _ rfl) (SEs.cons (SE.fn O "mul_school" _ _ rfl T.mul_school.gname) (SEs.cons (SE.fn O "divrem_school" _ _ rfl T.divrem_school.gname) SEs.nil))))) _ _ rfl T.r_div.gname) _ _ rfl (.inr ⟨_, rfl, rfl⟩))
    SSs.nil)))) _ _ rfl (.inl ⟨rfl, rfl⟩))
    (SSs.cons (SS.ret (SE.bool true _ _) _)
    SSs.nil))))))))))
end Mine

open PySem PySem.Calls PyProof.Rows
set_option Elab.async false
set_option maxRecDepth 100000
set_option maxHeartbeats 4000000
namespace Mine
theorem law_vc {prog : Program} {w : World} {h0 : Heap} {mg mb : Str → Option Value} {ads : Ads} (S : Stat h0 mg mb) (T : Tops h0 mg ads) {A : Around} {L a : Addr} {cd : Value} (O : (lawCx prog w h0 mg mb A L a cd).Ok 8) (script : List Int) :
    (lawWalk S T O).1 (.val (.ints script) :: List.replicate 17 .un) (endT fun r => r = .bool true) := by
  unfold lawWalk
  ((try dsimp only [zaa, zab, zac, zad, zae, zaf, zag, zah, zai, zaj, zak, zal, zam, zan, zao, zap, zaq, zar, zas, zat, zau, zav, zaw, zax, zay, zaz, zba, zbb, zbc, zbd, zbe, zbf, zbg, zbh, zbi, zbj, zbk, zbl, zbm, zbn, zbo, zbp, zbq, zbr, zbs, zbt, zbu, zbv, zbw, zbx, zby, zbz, zca, zcb, zcc, zcd, zce, zcf, zcg, zch, zci, zcj, zck, zcl, zcm, zcn, zco, zcp, zcq, zcr, zcs, zct, zcu, zcv, zcw, zcx, zcy, zcz, zda, zdb, zdc, zdd, zde, zdf, zdg, zdh, zdi, zdj, zdk, zdl, zdm, zdn, zdo, zdp, zdq, zdr, zds, zdt, zdu, zdv, zdw, zdx, zdy, zdz, zea, zeb, zec, zed, zee, zef, zeg, zeh, zei, zej, zek, zel, zem, zen, zeo, zep, zeq, zer, zes, zet, zeu, zev, zew, zex, zey, zez, zfa, zfb, zfc, zfd, zfe, zff, zfg, zfh, zfi, zfj, zfk, zfl, zfm, zfn, zfo, zfp, zfq, zfr, zfs, zft, zfu, zfv, zfw, zfx, zfy, zgc, Nat.reduceAdd]); (try simp only [zgd, zge, zgf, zgg, true_and, and_true]))
  rw [pick_upto _ _ (by decide)]
  refine comp_abs _ _ _ ?_
  rw [List.nil_append, resT_map]
  have hL : ((script.take (Int.toNat 10)).map fun x => if x < 0 then -x else x).length ≤ 100 ∧ ∀ y ∈ ((script.take (Int.toNat 10)).map fun x => if x < 0 then -x else x), 0 ≤ y := by
    refine ⟨?_, fun y hy => ?_⟩
    · rw [List.length_map, List.length_take]
      have : Int.toNat 10 = 10 := rfl
      lia
    · obtain ⟨x, _, rfl⟩ := List.mem_map.mp hy
      split <;> lia
  generalize ((script.take (Int.toNat 10)).map fun x => if x < 0 then -x else x) = L0 at *
  ((try dsimp only [zaa, zab, zac, zad, zae, zaf, zag, zah, zai, zaj, zak, zal, zam, zan, zao, zap, zaq, zar, zas, zat, zau, zav, zaw, zax, zay, zaz, zba, zbb, zbc, zbd, zbe, zbf, zbg, zbh, zbi, zbj, zbk, zbl, zbm, zbn, zbo, zbp, zbq, zbr, zbs, zbt, zbu, zbv, zbw, zbx, zby, zbz, zca, zcb, zcc, zcd, zce, zcf, zcg, zch, zci, zcj, zck, zcl, zcm, zcn, zco, zcp, zcq, zcr, zcs, zct, zcu, zcv, zcw, zcx, zcy, zcz, zda, zdb, zdc, zdd, zde, zdf, zdg, zdh, zdi, zdj, zdk, zdl, zdm, zdn, zdo, zdp, zdq, zdr, zds, zdt, zdu, zdv, zdw, zdx, zdy, zdz, zea, zeb, zec, zed, zee, zef, zeg, zeh, zei, zej, zek, zel, zem, zen, zeo, zep, zeq, zer, zes, zet, zeu, zev, zew, zex, zey, zez, zfa, zfb, zfc, zfd, zfe, zff, zfg, zfh, zfi, zfj, zfk, zfl, zfm, zfn, zfo, zfp, zfq, zfr, zfs, zft, zfu, zfv, zfw, zfx, zfy, zgc, Nat.reduceAdd]); (try simp only [zgd, zge, zgf, zgg, true_and, and_true]))
  refine ⟨L0, 0, 6, ⟨by decide, by decide, by decide, hL.1, hL.2⟩, rfl, rfl, ?_⟩
  ((try dsimp only [zaa, zab, zac, zad, zae, zaf, zag, zah, zai, zaj, zak, zal, zam, zan, zao, zap, zaq, zar, zas, zat, zau, zav, zaw, zax, zay, zaz, zba, zbb, zbc, zbd, zbe, zbf, zbg, zbh, zbi, zbj, zbk, zbl, zbm, zbn, zbo, zbp, zbq, zbr, zbs, zbt, zbu, zbv, zbw, zbx, zby, zbz, zca, zcb, zcc, zcd, zce, zcf, zcg, zch, zci, zcj, zck, zcl, zcm, zcn, zco, zcp, zcq, zcr, zcs, zct, zcu, zcv, zcw, zcx, zcy, zcz, zda, zdb, zdc, zdd, zde, zdf, zdg, zdh, zdi, zdj, zdk, zdl, zdm, zdn, zdo, zdp, zdq, zdr, zds, zdt, zdu, zdv, zdw, zdx, zdy, zdz, zea, zeb, zec, zed, zee, zef, zeg, zeh, zei, zej, zek, zel, zem, zen, zeo, zep, zeq, zer, zes, zet, zeu, zev, zew, zex, zey, zez, zfa, zfb, zfc, zfd, zfe, zff, zfg, zfh, zfi, zfj, zfk, zfl, zfm, zfn, zfo, zfp, zfq, zfr, zfs, zft, zfu, zfv, zfw, zfx, zfy, zgc, Nat.reduceAdd]); (try simp only [zgd, zge, zgf, zgg, true_and, and_true]))
  obtain ⟨w, hwe⟩ : ∃ w : Nat, 3 + spl L0 1 6 = w := ⟨_, rfl⟩
  have hw : Wk w := ⟨by lia, by have := spl_lt (L := L0) (j := 1) (m := 6) (by decide); lia⟩
  rw [show (3 : Int) + ((spl L0 1 6 : Nat) : Int) = (w : Int) by lia]
  clear hwe
  refine ⟨L0, 1, 3, ⟨by decide, by decide, by decide, hL.1, hL.2⟩, rfl, rfl, ?_⟩
  ((try dsimp only [zaa, zab, zac, zad, zae, zaf, zag, zah, zai, zaj, zak, zal, zam, zan, zao, zap, zaq, zar, zas, zat, zau, zav, zaw, zax, zay, zaz, zba, zbb, zbc, zbd, zbe, zbf, zbg, zbh, zbi, zbj, zbk, zbl, zbm, zbn, zbo, zbp, zbq, zbr, zbs, zbt, zbu, zbv, zbw, zbx, zby, zbz, zca, zcb, zcc, zcd, zce, zcf, zcg, zch, zci, zcj, zck, zcl, zcm, zcn, zco, zcp, zcq, zcr, zcs, zct, zcu, zcv, zcw, zcx, zcy, zcz, zda, zdb, zdc, zdd, zde, zdf, zdg, zdh, zdi, zdj, zdk, zdl, zdm, zdn, zdo, zdp, zdq, zdr, zds, zdt, zdu, zdv, zdw, zdx, zdy, zdz, zea, zeb, zec, zed, zee, zef, zeg, zeh, zei, zej, zek, zel, zem, zen, zeo, zep, zeq, zer, zes, zet, zeu, zev, zew, zex, zey, zez, zfa, zfb, zfc, zfd, zfe, zff, zfg, zfh, zfi, zfj, zfk, zfl, zfm, zfn, zfo, zfp, zfq, zfr, zfs, zft, zfu, zfv, zfw, zfx, zfy, zgc, Nat.reduceAdd]); (try simp only [zgd, zge, zgf, zgg, true_and, and_true]))
  obtain ⟨nW, hnW⟩ : ∃ n : Nat, 2 + spl L0 2 3 = n := ⟨_, rfl⟩
  have hnW2 : 2 ≤ nW ∧ nW ≤ 4 := by have := spl_lt (L := L0) (j := 2) (m := 3) (by decide); lia
  rw [show (2 : Int) + ((spl L0 2 3 : Nat) : Int) = (nW : Int) by lia]
  clear hnW
  refine ⟨by lia, by lia, ?_⟩
  refine comp_spl (fun _ => True) (fun _ _ _ => trivial) (L := L0) (lo := 1) (many := 4) (by decide) (by decide) hL ?_ _ [] 2 _ (by simp) trivial rfl (by simp; lia) (fun x hx => by cases hx) ?_
  · rintro k σ q G hk - hσ ⟨-, hG⟩
    have e : sg (mkσ [1] σ q) 1 = sg σ 1 := rfl
    rw [e, hσ]
    refine ⟨L0, k, 4, ⟨by lia, by decide, by decide, hL.1, hL.2⟩, rfl, rfl, ?_⟩
    simp only [zcs, iv] at hG ⊢
    exact hG
  rintro W σ' lW hW rfl
  simp only [List.length_map, List.length_range, Int.toNat_natCast, List.length_nil, Nat.zero_add] at lW ⊢
  rw [resT_iv]
  ((try dsimp only [zaa, zab, zac, zad, zae, zaf, zag, zah, zai, zaj, zak, zal, zam, zan, zao, zap, zaq, zar, zas, zat, zau, zav, zaw, zax, zay, zaz, zba, zbb, zbc, zbd, zbe, zbf, zbg, zbh, zbi, zbj, zbk, zbl, zbm, zbn, zbo, zbp, zbq, zbr, zbs, zbt, zbu, zbv, zbw, zbx, zby, zbz, zca, zcb, zcc, zcd, zce, zcf, zcg, zch, zci, zcj, zck, zcl, zcm, zcn, zco, zcp, zcq, zcr, zcs, zct, zcu, zcv, zcw, zcx, zcy, zcz, zda, zdb, zdc, zdd, zde, zdf, zdg, zdh, zdi, zdj, zdk, zdl, zdm, zdn, zdo, zdp, zdq, zdr, zds, zdt, zdu, zdv, zdw, zdx, zdy, zdz, zea, zeb, zec, zed, zee, zef, zeg, zeh, zei, zej, zek, zel, zem, zen, zeo, zep, zeq, zer, zes, zet, zeu, zev, zew, zex, zey, zez, zfa, zfb, zfc, zfd, zfe, zff, zfg, zfh, zfi, zfj, zfk, zfl, zfm, zfn, zfo, zfp, zfq, zfr, zfs, zft, zfu, zfv, zfw, zfx, zfy, zgc, Nat.reduceAdd]); (try simp only [zgd, zge, zgf, zgg, true_and, and_true]))
  have hW4 : ∀ x ∈ W, 1 ≤ x ∧ x ≤ 4 := fun x hx => by have := hW x hx; lia
  clear hW
  refine ⟨L0, 2 + nW, 4, ⟨by lia, by decide, by decide, hL.1, hL.2⟩, rfl, rfl, ?_⟩
  ((try dsimp only [zaa, zab, zac, zad, zae, zaf, zag, zah, zai, zaj, zak, zal, zam, zan, zao, zap, zaq, zar, zas, zat, zau, zav, zaw, zax, zay, zaz, zba, zbb, zbc, zbd, zbe, zbf, zbg, zbh, zbi, zbj, zbk, zbl, zbm, zbn, zbo, zbp, zbq, zbr, zbs, zbt, zbu, zbv, zbw, zbx, zby, zbz, zca, zcb, zcc, zcd, zce, zcf, zcg, zch, zci, zcj, zck, zcl, zcm, zcn, zco, zcp, zcq, zcr, zcs, zct, zcu, zcv, zcw, zcx, zcy, zcz, zda, zdb, zdc, zdd, zde, zdf, zdg, zdh, zdi, zdj, zdk, zdl, zdm, zdn, zdo, zdp, zdq, zdr, zds, zdt, zdu, zdv, zdw, zdx, zdy, zdz, zea, zeb, zec, zed, zee, zef, zeg, zeh, zei, zej, zek, zel, zem, zen, zeo, zep, zeq, zer, zes, zet, zeu, zev, zew, zex, zey, zez, zfa, zfb, zfc, zfd, zfe, zff, zfg, zfh, zfi, zfj, zfk, zfl, zfm, zfn, zfo, zfp, zfq, zfr, zfs, zft, zfu, zfv, zfw, zfx, zfy, zgc, Nat.reduceAdd]); (try simp only [zgd, zge, zgf, zgg, true_and, and_true]))
  obtain ⟨nT, hnT⟩ : ∃ n : Nat, 1 + spl L0 (2 + nW + 1) 4 = n := ⟨_, rfl⟩
  have hnT2 : 1 ≤ nT ∧ nT ≤ 4 := by have := spl_lt (L := L0) (j := 2 + nW + 1) (m := 4) (by decide); lia
  rw [show (1 : Int) + ((spl L0 (2 + nW + 1) 4 : Nat) : Int) = (nT : Int) by lia]
  clear hnT
  refine ⟨by lia, by lia, ?_⟩
  refine comp_spl (fun σ => sg σ 3 = .val (nlist W)) (fun σ t h => by rw [sg_sp_ne _ _ _ _ (by decide)]; exact h) (L := L0) (lo := 0) (many := nW) (by lia) (by lia) hL ?_ _ [] (2 + nW + 1) _ (by simp) rfl rfl (by simp; lia) (fun x hx => by cases hx) ?_
  · rintro k σ q G hk hg hσ ⟨-, hG⟩
    have e : sg (mkσ [1, 3] σ q) 1 = sg σ 1 := rfl
    have e3 : sg (mkσ [1, 3] σ q) 2 = sg σ 3 := rfl
    rw [e, hσ]
    simp only [nameT, e3, hg, nlist, zdn, zdx]
    refine ⟨L0, k, nW, ⟨by lia, by lia, by lia, hL.1, hL.2⟩, rfl, ?_, ?_⟩
    · rw [List.length_map, lW]; rfl
    · rw [Nat.zero_add] at hG
      exact hG
  rintro T' σ' lT hT rfl
  simp only [List.length_map, List.length_range, Int.toNat_natCast, List.length_nil, Nat.zero_add] at lT ⊢
  rw [resT_iv]
  have hT4 : ∀ s ∈ T', s < W.length := fun s hs => by have := hT s hs; lia
  clear hT
  ((try dsimp only [zaa, zab, zac, zad, zae, zaf, zag, zah, zai, zaj, zak, zal, zam, zan, zao, zap, zaq, zar, zas, zat, zau, zav, zaw, zax, zay, zaz, zba, zbb, zbc, zbd, zbe, zbf, zbg, zbh, zbi, zbj, zbk, zbl, zbm, zbn, zbo, zbp, zbq, zbr, zbs, zbt, zbu, zbv, zbw, zbx, zby, zbz, zca, zcb, zcc, zcd, zce, zcf, zcg, zch, zci, zcj, zck, zcl, zcm, zcn, zco, zcp, zcq, zcr, zcs, zct, zcu, zcv, zcw, zcx, zcy, zcz, zda, zdb, zdc, zdd, zde, zdf, zdg, zdh, zdi, zdj, zdk, zdl, zdm, zdn, zdo, zdp, zdq, zdr, zds, zdt, zdu, zdv, zdw, zdx, zdy, zdz, zea, zeb, zec, zed, zee, zef, zeg, zeh, zei, zej, zek, zel, zem, zen, zeo, zep, zeq, zer, zes, zet, zeu, zev, zew, zex, zey, zez, zfa, zfb, zfc, zfd, zfe, zff, zfg, zfh, zfi, zfj, zfk, zfl, zfm, zfn, zfo, zfp, zfq, zfr, zfs, zft, zfu, zfv, zfw, zfx, zfy, zgc, Nat.reduceAdd]); (try simp only [zgd, zge, zgf, zgg, true_and, and_true]))
  refine ⟨w, W, ⟨hw, by lia, by lia, hW4⟩, rfl, ?_⟩
  ((try dsimp only [zaa, zab, zac, zad, zae, zaf, zag, zah, zai, zaj, zak, zal, zam, zan, zao, zap, zaq, zar, zas, zat, zau, zav, zaw, zax, zay, zaz, zba, zbb, zbc, zbd, zbe, zbf, zbg, zbh, zbi, zbj, zbk, zbl, zbm, zbn, zbo, zbp, zbq, zbr, zbs, zbt, zbu, zbv, zbw, zbx, zby, zbz, zca, zcb, zcc, zcd, zce, zcf, zcg, zch, zci, zcj, zck, zcl, zcm, zcn, zco, zcp, zcq, zcr, zcs, zct, zcu, zcv, zcw, zcx, zcy, zcz, zda, zdb, zdc, zdd, zde, zdf, zdg, zdh, zdi, zdj, zdk, zdl, zdm, zdn, zdo, zdp, zdq, zdr, zds, zdt, zdu, zdv, zdw, zdx, zdy, zdz, zea, zeb, zec, zed, zee, zef, zeg, zeh, zei, zej, zek, zel, zem, zen, zeo, zep, zeq, zer, zes, zet, zeu, zev, zew, zex, zey, zez, zfa, zfb, zfc, zfd, zfe, zff, zfg, zfh, zfi, zfj, zfk, zfl, zfm, zfn, zfo, zfp, zfq, zfr, zfs, zft, zfu, zfv, zfw, zfx, zfy, zgc, Nat.reduceAdd]); (try simp only [zgd, zge, zgf, zgg, true_and, and_true]))
  refine ⟨by decide, ?_⟩
  rw [qv_0 hw, qv_1 hw]
  ((try dsimp only [zaa, zab, zac, zad, zae, zaf, zag, zah, zai, zaj, zak, zal, zam, zan, zao, zap, zaq, zar, zas, zat, zau, zav, zaw, zax, zay, zaz, zba, zbb, zbc, zbd, zbe, zbf, zbg, zbh, zbi, zbj, zbk, zbl, zbm, zbn, zbo, zbp, zbq, zbr, zbs, zbt, zbu, zbv, zbw, zbx, zby, zbz, zca, zcb, zcc, zcd, zce, zcf, zcg, zch, zci, zcj, zck, zcl, zcm, zcn, zco, zcp, zcq, zcr, zcs, zct, zcu, zcv, zcw, zcx, zcy, zcz, zda, zdb, zdc, zdd, zde, zdf, zdg, zdh, zdi, zdj, zdk, zdl, zdm, zdn, zdo, zdp, zdq, zdr, zds, zdt, zdu, zdv, zdw, zdx, zdy, zdz, zea, zeb, zec, zed, zee, zef, zeg, zeh, zei, zej, zek, zel, zem, zen, zeo, zep, zeq, zer, zes, zet, zeu, zev, zew, zex, zey, zez, zfa, zfb, zfc, zfd, zfe, zff, zfg, zfh, zfi, zfj, zfk, zfl, zfm, zfn, zfo, zfp, zfq, zfr, zfs, zft, zfu, zfv, zfw, zfx, zfy, zgc, Nat.reduceAdd]); (try simp only [zgd, zge, zgf, zgg, true_and, and_true, nlist]); (try dsimp only [zaa, zab, zac, zad, zae, zaf, zag, zah, zai, zaj, zak, zal, zam, zan, zao, zap, zaq, zar, zas, zat, zau, zav, zaw, zax, zay, zaz, zba, zbb, zbc, zbd, zbe, zbf, zbg, zbh, zbi, zbj, zbk, zbl, zbm, zbn, zbo, zbp, zbq, zbr, zbs, zbt, zbu, zbv, zbw, zbx, zby, zbz, zca, zcb, zcc, zcd, zce, zcf, zcg, zch, zci, zcj, zck, zcl, zcm, zcn, zco, zcp, zcq, zcr, zcs, zct, zcu, zcv, zcw, zcx, zcy, zcz, zda, zdb, zdc, zdd, zde, zdf, zdg, zdh, zdi, zdj, zdk, zdl, zdm, zdn, zdo, zdp, zdq, zdr, zds, zdt, zdu, zdv, zdw, zdx, zdy, zdz, zea, zeb, zec, zed, zee, zef, zeg, zeh, zei, zej, zek, zel, zem, zen, zeo, zep, zeq, zer, zes, zet, zeu, zev, zew, zex, zey, zez, zfa, zfb, zfc, zfd, zfe, zff, zfg, zfh, zfi, zfj, zfk, zfl, zfm, zfn, zfo, zfp, zfq, zfr, zfs, zft, zfu, zfv, zfw, zfx, zfy, zgc, Nat.reduceAdd]))
  refine ⟨by rw [List.length_map]; lia, by rw [List.length_map]; lia, ?_⟩
  generalize Sl.own (PV.list [PV.int ((2 + nW + 1 + nT : Nat) : Int), PV.ints L0]) = ow
  generalize Sl.val (PV.ints script) = sc
  rw [List.length_map]
  have hS4 := sum_le W hW4
  have hS0 := sum_ge W hW4
  obtain ⟨shv, hshv⟩ : ∃ v, PV.list (shq w W.sum 0 W) = v := ⟨_, rfl⟩
  refine forR_inv (fun k σ => ∃ (b l h : Nat) (x8 x9 x10 x11 x12 : Sl), spanN W (T'.take k) (0, 1, 1) = (b, l, h) ∧ Spn W k b l h ∧ σ = [sc, ow, .val (.int (w : Int)), .val (nlist W), .val (nlist T'), .val (.list (shq w W.sum 0 W)), .val (qv w (rq b h)), .val (qv w (rq l h)), x8, x9, x10, x11, x12, .un, .un, .un, .un, .un]) (fun _ _ => False) ⟨0, 1, 1, _, _, _, _, _, rfl, ⟨by decide, by decide, by decide, by decide⟩, rfl⟩ ?_ ?_ (fun _ _ h => h.elim)
  · rintro k σ K hk ⟨b, l, h, x8, x9, x10, x11, x12, hsp, H, rfl⟩ hK -
    have hs : T'.getD k 0 < W.length := hT4 _ (getD_mem hk)
    have h16 : 16 ^ k ≤ 16 ^ 3 := Nat.pow_le_pow_right (by lia) (by lia)
    have hh := H.hk
    have hh0 := H.h0
    have hl0 := H.l0
    have hbl := H.bl
    ((try dsimp only [zaa, zab, zac, zad, zae, zaf, zag, zah, zai, zaj, zak, zal, zam, zan, zao, zap, zaq, zar, zas, zat, zau, zav, zaw, zax, zay, zaz, zba, zbb, zbc, zbd, zbe, zbf, zbg, zbh, zbi, zbj, zbk, zbl, zbm, zbn, zbo, zbp, zbq, zbr, zbs, zbt, zbu, zbv, zbw, zbx, zby, zbz, zca, zcb, zcc, zcd, zce, zcf, zcg, zch, zci, zcj, zck, zcl, zcm, zcn, zco, zcp, zcq, zcr, zcs, zct, zcu, zcv, zcw, zcx, zcy, zcz, zda, zdb, zdc, zdd, zde, zdf, zdg, zdh, zdi, zdj, zdk, zdl, zdm, zdn, zdo, zdp, zdq, zdr, zds, zdt, zdu, zdv, zdw, zdx, zdy, zdz, zea, zeb, zec, zed, zee, zef, zeg, zeh, zei, zej, zek, zel, zem, zen, zeo, zep, zeq, zer, zes, zet, zeu, zev, zew, zex, zey, zez, zfa, zfb, zfc, zfd, zfe, zff, zfg, zfh, zfi, zfj, zfk, zfl, zfm, zfn, zfo, zfp, zfq, zfr, zfs, zft, zfu, zfv, zfw, zfx, zfy, zgc, Nat.reduceAdd]); (try simp only [zgd, zge, zgf, zgg, true_and, and_true]))
    refine ⟨w, rq b h, rq l h, ⟨hw, Sm_rq (by lia) (by lia) hh0, Sm_rq (by lia) (by lia) hh0⟩, rfl, ?_⟩
    ((try dsimp only [zaa, zab, zac, zad, zae, zaf, zag, zah, zai, zaj, zak, zal, zam, zan, zao, zap, zaq, zar, zas, zat, zau, zav, zaw, zax, zay, zaz, zba, zbb, zbc, zbd, zbe, zbf, zbg, zbh, zbi, zbj, zbk, zbl, zbm, zbn, zbo, zbp, zbq, zbr, zbs, zbt, zbu, zbv, zbw, zbx, zby, zbz, zca, zcb, zcc, zcd, zce, zcf, zcg, zch, zci, zcj, zck, zcl, zcm, zcn, zco, zcp, zcq, zcr, zcs, zct, zcu, zcv, zcw, zcx, zcy, zcz, zda, zdb, zdc, zdd, zde, zdf, zdg, zdh, zdi, zdj, zdk, zdl, zdm, zdn, zdo, zdp, zdq, zdr, zds, zdt, zdu, zdv, zdw, zdx, zdy, zdz, zea, zeb, zec, zed, zee, zef, zeg, zeh, zei, zej, zek, zel, zem, zen, zeo, zep, zeq, zer, zes, zet, zeu, zev, zew, zex, zey, zez, zfa, zfb, zfc, zfd, zfe, zff, zfg, zfh, zfi, zfj, zfk, zfl, zfm, zfn, zfo, zfp, zfq, zfr, zfs, zft, zfu, zfv, zfw, zfx, zfy, zgc, Nat.reduceAdd]); (try simp only [zgd, zge, zgf, zgg, true_and, and_true, nlist, zdr]); (try dsimp only [zaa, zab, zac, zad, zae, zaf, zag, zah, zai, zaj, zak, zal, zam, zan, zao, zap, zaq, zar, zas, zat, zau, zav, zaw, zax, zay, zaz, zba, zbb, zbc, zbd, zbe, zbf, zbg, zbh, zbi, zbj, zbk, zbl, zbm, zbn, zbo, zbp, zbq, zbr, zbs, zbt, zbu, zbv, zbw, zbx, zby, zbz, zca, zcb, zcc, zcd, zce, zcf, zcg, zch, zci, zcj, zck, zcl, zcm, zcn, zco, zcp, zcq, zcr, zcs, zct, zcu, zcv, zcw, zcx, zcy, zcz, zda, zdb, zdc, zdd, zde, zdf, zdg, zdh, zdi, zdj, zdk, zdl, zdm, zdn, zdo, zdp, zdq, zdr, zds, zdt, zdu, zdv, zdw, zdx, zdy, zdz, zea, zeb, zec, zed, zee, zef, zeg, zeh, zei, zej, zek, zel, zem, zen, zeo, zep, zeq, zer, zes, zet, zeu, zev, zew, zex, zey, zez, zfa, zfb, zfc, zfd, zfe, zff, zfg, zfh, zfi, zfj, zfk, zfl, zfm, zfn, zfo, zfp, zfq, zfr, zfs, zft, zfu, zfv, zfw, zfx, zfy, zgc, Nat.reduceAdd]))
    have H' := H.step hW4 (by lia) hs
    obtain ⟨s, hse⟩ : ∃ s, T'.getD k 0 = s := ⟨_, rfl⟩
    rw [hse] at hs H'
    rw [cast_getD, hse, Int.toNat_natCast, shq_nth w W.sum W 0 s hs, shq_len, Nat.zero_add]
    obtain ⟨c, hc⟩ : ∃ c, (W.take s).sum = c := ⟨_, rfl⟩
    obtain ⟨u, hu⟩ : ∃ u, W.getD s 0 = u := ⟨_, rfl⟩
    have hpart := part_le W s hs
    have hu4 := hW4 _ (getD_mem hs)
    have hspk := spanN_take W T' k hk hsp s
    rw [hc, hu] at H' hpart hspk ⊢
    rw [hu] at hu4
    have hS16 : W.sum ≤ 16 := by lia
    have hlc : l * c ≤ 4096 * 16 := Nat.mul_le_mul (by lia) (by lia)
    have hlu : l * u ≤ 4096 * 16 := Nat.mul_le_mul (by lia) (by lia)
    have hhS : h * W.sum ≤ 4096 * 16 := Nat.mul_le_mul (by lia) (by lia)
    have hhS0 : 0 < h * W.sum := Nat.mul_pos hh0 (by lia)
    ((try dsimp only [zaa, zab, zac, zad, zae, zaf, zag, zah, zai, zaj, zak, zal, zam, zan, zao, zap, zaq, zar, zas, zat, zau, zav, zaw, zax, zay, zaz, zba, zbb, zbc, zbd, zbe, zbf, zbg, zbh, zbi, zbj, zbk, zbl, zbm, zbn, zbo, zbp, zbq, zbr, zbs, zbt, zbu, zbv, zbw, zbx, zby, zbz, zca, zcb, zcc, zcd, zce, zcf, zcg, zch, zci, zcj, zck, zcl, zcm, zcn, zco, zcp, zcq, zcr, zcs, zct, zcu, zcv, zcw, zcx, zcy, zcz, zda, zdb, zdc, zdd, zde, zdf, zdg, zdh, zdi, zdj, zdk, zdl, zdm, zdn, zdo, zdp, zdq, zdr, zds, zdt, zdu, zdv, zdw, zdx, zdy, zdz, zea, zeb, zec, zed, zee, zef, zeg, zeh, zei, zej, zek, zel, zem, zen, zeo, zep, zeq, zer, zes, zet, zeu, zev, zew, zex, zey, zez, zfa, zfb, zfc, zfd, zfe, zff, zfg, zfh, zfi, zfj, zfk, zfl, zfm, zfn, zfo, zfp, zfq, zfr, zfs, zft, zfu, zfv, zfw, zfx, zfy, zgc, Nat.reduceAdd]); (try simp only [zgd, zge, zgf, zgg, true_and, and_true]))
    refine ⟨by decide, by lia, by rw [List.length_map]; lia, by lia, by lia, w, rq l h, rq c W.sum, ⟨hw, Sm_rq (by lia) (by lia) hh0, Sm_rq (by lia) (by lia) (by lia)⟩, rfl, ?_⟩
    rw [rq_mul]
    refine ⟨w, rq b h, rq (l * c) (h * W.sum), ⟨hw, Sm_rq (by lia) (by lia) hh0, Sm_rq (by lia) (by lia) hhS0⟩, rfl, ?_⟩
    have e2 : rq b h + rq (l * c) (h * W.sum) = rq (b * W.sum + l * c) (h * W.sum) := by
      rw [rq_add hh0 hhS0, rq_eq (Nat.mul_pos hh0 hhS0) hhS0]; grind
    rw [e2]
    refine ⟨w, rq l h, rq u W.sum, ⟨hw, Sm_rq (by lia) (by lia) hh0, Sm_rq (by lia) (by lia) (by lia)⟩, rfl, ?_⟩
    rw [rq_mul]
    have htk : T'.take (k + 1) = T'.take k ++ [s] := by rw [List.take_add_one, List.getElem?_eq_getElem hk, ← hse, List.getD_eq_getElem?_getD, List.getElem?_eq_getElem hk]; rfl
    refine ⟨w, W, T'.take (k + 1), ⟨hw, by lia, by lia, hW4, by rw [List.length_take]; lia, fun x hx => hT4 x (List.mem_of_mem_take hx)⟩, ?_, ?_⟩
    · rw [pick_upto _ _ (by lia), show ((k : Int) + 1).toNat = k + 1 by lia, cast_take]; rfl
    rw [htk, hspk]
    have hb' := H'.bl
    have hl'0 := H'.l0
    refine ne_qv2 _ _ _ ?_
    rw [zgg]
    ((try dsimp only [zaa, zab, zac, zad, zae, zaf, zag, zah, zai, zaj, zak, zal, zam, zan, zao, zap, zaq, zar, zas, zat, zau, zav, zaw, zax, zay, zaz, zba, zbb, zbc, zbd, zbe, zbf, zbg, zbh, zbi, zbj, zbk, zbl, zbm, zbn, zbo, zbp, zbq, zbr, zbs, zbt, zbu, zbv, zbw, zbx, zby, zbz, zca, zcb, zcc, zcd, zce, zcf, zcg, zch, zci, zcj, zck, zcl, zcm, zcn, zco, zcp, zcq, zcr, zcs, zct, zcu, zcv, zcw, zcx, zcy, zcz, zda, zdb, zdc, zdd, zde, zdf, zdg, zdh, zdi, zdj, zdk, zdl, zdm, zdn, zdo, zdp, zdq, zdr, zds, zdt, zdu, zdv, zdw, zdx, zdy, zdz, zea, zeb, zec, zed, zee, zef, zeg, zeh, zei, zej, zek, zel, zem, zen, zeo, zep, zeq, zer, zes, zet, zeu, zev, zew, zex, zey, zez, zfa, zfb, zfc, zfd, zfe, zff, zfg, zfh, zfi, zfj, zfk, zfl, zfm, zfn, zfo, zfp, zfq, zfr, zfs, zft, zfu, zfv, zfw, zfx, zfy, zgc, Nat.reduceAdd]); (try simp only [zgd, zge, zgf, zgg, true_and, and_true]))
    refine ⟨w, rq (b * W.sum + l * c) (h * W.sum), rq (l * u) (h * W.sum), ⟨hw, Sm_rq (by lia) (by lia) hhS0, Sm_rq (by lia) (by lia) hhS0⟩, rfl, ?_⟩
    ((try dsimp only [zaa, zab, zac, zad, zae, zaf, zag, zah, zai, zaj, zak, zal, zam, zan, zao, zap, zaq, zar, zas, zat, zau, zav, zaw, zax, zay, zaz, zba, zbb, zbc, zbd, zbe, zbf, zbg, zbh, zbi, zbj, zbk, zbl, zbm, zbn, zbo, zbp, zbq, zbr, zbs, zbt, zbu, zbv, zbw, zbx, zby, zbz, zca, zcb, zcc, zcd, zce, zcf, zcg, zch, zci, zcj, zck, zcl, zcm, zcn, zco, zcp, zcq, zcr, zcs, zct, zcu, zcv, zcw, zcx, zcy, zcz, zda, zdb, zdc, zdd, zde, zdf, zdg, zdh, zdi, zdj, zdk, zdl, zdm, zdn, zdo, zdp, zdq, zdr, zds, zdt, zdu, zdv, zdw, zdx, zdy, zdz, zea, zeb, zec, zed, zee, zef, zeg, zeh, zei, zej, zek, zel, zem, zen, zeo, zep, zeq, zer, zes, zet, zeu, zev, zew, zex, zey, zez, zfa, zfb, zfc, zfd, zfe, zff, zfg, zfh, zfi, zfj, zfk, zfl, zfm, zfn, zfo, zfp, zfq, zfr, zfs, zft, zfu, zfv, zfw, zfx, zfy, zgc, Nat.reduceAdd]); (try simp only [zgd, zge, zgf, zgg, true_and, and_true]))
    have hbS : b * W.sum ≤ 4096 * 16 := Nat.mul_le_mul (by lia) (by lia)
    rw [rq_same hhS0, rq_same hh0]
    refine ⟨w, rq b h, rq (b * W.sum + l * c) (h * W.sum), ⟨hw, Sm_rq (by lia) (by lia) hh0, Sm_rq (by lia) (by lia) hhS0⟩, rfl, ?_⟩
    simp only [zdf, zgd, sign_gt]
    refine ⟨fun hc => absurd hc ?_, fun _ => ?_⟩
    · rw [rq_lt hhS0 hh0]
      have : b * (h * W.sum) = b * W.sum * h := by grind
      rw [this, Nat.add_mul]; lia
    refine ⟨w, rq (b * W.sum + l * c + l * u) (h * W.sum), rq (b + l) h, ⟨hw, Sm_rq (by lia) (by lia) hhS0, Sm_rq (by lia) (by lia) hh0⟩, rfl, ?_⟩
    simp only [zdf, zgd, sign_gt]
    have hlS : l * (c + u) ≤ l * W.sum := Nat.mul_le_mul_left _ hpart
    have hlS2 : l * (c + u) = l * c + l * u := Nat.mul_add _ _ _
    refine ⟨fun hc => absurd hc ?_, fun _ => ?_⟩
    · rw [rq_lt hh0 hhS0]
      have h1 : (b + l) * (h * W.sum) = (b * W.sum + l * W.sum) * h := by grind
      have h2 : (b * W.sum + l * c + l * u) * h ≤ (b * W.sum + l * W.sum) * h := Nat.mul_le_mul_right _ (by lia)
      lia
    ((try dsimp only [zaa, zab, zac, zad, zae, zaf, zag, zah, zai, zaj, zak, zal, zam, zan, zao, zap, zaq, zar, zas, zat, zau, zav, zaw, zax, zay, zaz, zba, zbb, zbc, zbd, zbe, zbf, zbg, zbh, zbi, zbj, zbk, zbl, zbm, zbn, zbo, zbp, zbq, zbr, zbs, zbt, zbu, zbv, zbw, zbx, zby, zbz, zca, zcb, zcc, zcd, zce, zcf, zcg, zch, zci, zcj, zck, zcl, zcm, zcn, zco, zcp, zcq, zcr, zcs, zct, zcu, zcv, zcw, zcx, zcy, zcz, zda, zdb, zdc, zdd, zde, zdf, zdg, zdh, zdi, zdj, zdk, zdl, zdm, zdn, zdo, zdp, zdq, zdr, zds, zdt, zdu, zdv, zdw, zdx, zdy, zdz, zea, zeb, zec, zed, zee, zef, zeg, zeh, zei, zej, zek, zel, zem, zen, zeo, zep, zeq, zer, zes, zet, zeu, zev, zew, zex, zey, zez, zfa, zfb, zfc, zfd, zfe, zff, zfg, zfh, zfi, zfj, zfk, zfl, zfm, zfn, zfo, zfp, zfq, zfr, zfs, zft, zfu, zfv, zfw, zfx, zfy, zgc, Nat.reduceAdd]); (try simp only [zgd, zge, zgf, zgg, true_and, and_true]))
    have hnext : K .next _ := hK _ ⟨b * W.sum + l * c, l * u, h * W.sum, .val (.int (k : Int)), .val (qv w (rq b h)), .val (qv w (rq (b + l) h)), .val (.tup [qv w (rq c W.sum), qv w (rq u W.sum)]), .val (qv w (rq (b * W.sum + l * c + l * u) (h * W.sum))), by rw [htk]; exact hspk, H', rfl⟩
    refine ⟨by lia, by rw [List.length_map]; lia, fun hsib => ⟨by lia, by rw [List.length_map]; lia, ?_, ?_⟩, fun _ => hnext⟩
    · rw [pick_upto _ _ (by lia), List.length_take, List.length_map]; lia
    rw [List.length_map] at hsib
    refine ⟨w, W, T'.take k ++ [s + 1], ⟨hw, by lia, by lia, hW4, by rw [List.length_append, List.length_take, List.length_singleton]; lia, fun x hx => ?_⟩, ?_, ?_⟩
    · rcases List.mem_append.mp hx with hx | hx
      · exact hT4 x (List.mem_of_mem_take hx)
      · rw [List.mem_singleton] at hx; lia
    · rw [pick_upto _ _ (by lia), Int.toNat_natCast, cast_take]
      simp only [nlist, List.map_append, List.map_cons, List.map_nil]
      rfl
    rw [spanN_take W T' k hk hsp (s + 1), take_succ_sum, hc, hu, hlS2, ← Nat.add_assoc]
    ((try dsimp only [zaa, zab, zac, zad, zae, zaf, zag, zah, zai, zaj, zak, zal, zam, zan, zao, zap, zaq, zar, zas, zat, zau, zav, zaw, zax, zay, zaz, zba, zbb, zbc, zbd, zbe, zbf, zbg, zbh, zbi, zbj, zbk, zbl, zbm, zbn, zbo, zbp, zbq, zbr, zbs, zbt, zbu, zbv, zbw, zbx, zby, zbz, zca, zcb, zcc, zcd, zce, zcf, zcg, zch, zci, zcj, zck, zcl, zcm, zcn, zco, zcp, zcq, zcr, zcs, zct, zcu, zcv, zcw, zcx, zcy, zcz, zda, zdb, zdc, zdd, zde, zdf, zdg, zdh, zdi, zdj, zdk, zdl, zdm, zdn, zdo, zdp, zdq, zdr, zds, zdt, zdu, zdv, zdw, zdx, zdy, zdz, zea, zeb, zec, zed, zee, zef, zeg, zeh, zei, zej, zek, zel, zem, zen, zeo, zep, zeq, zer, zes, zet, zeu, zev, zew, zex, zey, zez, zfa, zfb, zfc, zfd, zfe, zff, zfg, zfh, zfi, zfj, zfk, zfl, zfm, zfn, zfo, zfp, zfq, zfr, zfs, zft, zfu, zfv, zfw, zfx, zfy, zgc, Nat.reduceAdd]); (try simp only [zgd, zge, zgf, zgg, true_and, and_true]))
    refine ne_qv _ _ ?_
    rw [zgg]
    exact hnext
  rintro σ' ⟨b, l, h, x8, x9, x10, x11, x12, hsp, H, rfl⟩
  rw [List.take_length] at hsp
  have h16 : 16 ^ T'.length ≤ 16 ^ 4 := Nat.pow_le_pow_right (by lia) (by lia)
  have hh := H.hk
  have hh0 := H.h0
  have hl0 := H.l0
  have hbl := H.bl
  refine go_seq ?_
  dsimp only [zaa, zab, zac, zad, zae, zaf, zag, zah, zai, zaj, zak, zal, zam, zan, zao, zap, zaq, zar, zas, zat, zau, zav, zaw, zax, zay, zaz, zba, zbb, zbc, zbd, zbe, zbf, zbg, zbh, zbi, zbj, zbk, zbl, zbm, zbn, zbo, zbp, zbq, zbr, zbs, zbt, zbu, zbv, zbw, zbx, zby, zbz, zca, zcb, zcc, zcd, zce, zcf, zcg, zch, zci, zcj, zck, zcl, zcm, zcn, zco, zcp, zcq, zcr, zcs, zct, zcu, zcv, zcw, zcx, zcy, zcz, zda, zdb, zdc, zdd, zde, zdf, zdg, zdh, zdi, zdj, zdk, zdl, zdm, zdn, zdo, zdp, zdq, zdr, zds, zdt, zdu, zdv, zdw, zdx, zdy, zdz, zea, zeb, zec, zed, zee, zef, zeg, zeh, zei, zej, zek, zel, zem, zen, zeo, zep, zeq, zes, zet, zeu, zev, zew, zex, zey, zez, zfa, zfb, zfc, zfd, zfe, zff, zfg, zfh, zfi, zfj, zfk, zfl, zfm, zfn, zfo, zfp, zfq, zfr, zfs, zft, zfu, zfv, zfw, zfx, zfy, zgc, Nat.reduceAdd]
  refine ⟨w, rq b h, rq l h, ⟨hw, Sm_rq (by lia) (by lia) hh0, Sm_rq (by lia) (by lia) hh0⟩, rfl, ?_⟩
  rw [rq_same hh0]
  obtain ⟨n, hn, -, hnb, hdh⟩ := rq_parts (b := b) hh0
  refine ⟨w, rq b h, rq (b + l) h, ⟨hw, Rat.num_nonneg.mp (by rw [hn]; lia), by rw [hn]; lia, by lia, Sm_rq (by lia) (by lia) hh0⟩, rfl, ?_⟩
  obtain ⟨k, M, hfw, hk16, hM1, hM2, hkl⟩ := fw_spec (b := b) hh0 hl0 (by lia) 24 0 (by lia) (by lia) (fun h => by lia)
  rw [hfw]
  have hp16 : 2 ^ k ≤ 2 ^ 16 := Nat.pow_le_pow_right (by lia) hk16
  have hp0 : 0 < 2 ^ k := Nat.two_pow_pos k
  dsimp only [zaa, zab, zac, zad, zae, zaf, zag, zah, zai, zaj, zak, zal, zam, zan, zao, zap, zaq, zar, zas, zat, zau, zav, zaw, zax, zay, zaz, zba, zbb, zbc, zbd, zbe, zbf, zbg, zbh, zbi, zbj, zbk, zbl, zbm, zbn, zbo, zbp, zbq, zbr, zbs, zbt, zbu, zbv, zbw, zbx, zby, zbz, zca, zcb, zcc, zcd, zce, zcf, zcg, zch, zci, zcj, zck, zcl, zcm, zcn, zco, zcp, zcq, zcr, zcs, zct, zcu, zcv, zcw, zcx, zcy, zcz, zda, zdb, zdc, zdd, zde, zdf, zdg, zdh, zdi, zdj, zdk, zdl, zdm, zdn, zdo, zdp, zdq, zdr, zds, zdt, zdu, zdv, zdw, zdx, zdy, zdz, zea, zeb, zec, zed, zee, zef, zeg, zeh, zei, zej, zek, zel, zem, zen, zeo, zep, zeq, zes, zet, zeu, zev, zew, zex, zey, zez, zfa, zfb, zfc, zfd, zfe, zff, zfg, zfh, zfi, zfj, zfk, zfl, zfm, zfn, zfo, zfp, zfq, zfr, zfs, zft, zfu, zfv, zfw, zfx, zfy, zgc, Nat.reduceAdd]
  simp only [zgd, zge, zgf, zgg, true_and, and_true]
  refine go_seq ?_
  dsimp only [zaa, zab, zac, zad, zae, zaf, zag, zah, zai, zaj, zak, zal, zam, zan, zao, zap, zaq, zar, zas, zat, zau, zav, zaw, zax, zay, zaz, zba, zbb, zbc, zbd, zbe, zbf, zbg, zbh, zbi, zbj, zbk, zbl, zbm, zbn, zbo, zbp, zbq, zbr, zbs, zbt, zbu, zbv, zbw, zbx, zby, zbz, zca, zcb, zcc, zcd, zce, zcf, zcg, zch, zci, zcj, zck, zcl, zcm, zcn, zco, zcp, zcq, zcr, zcs, zct, zcu, zcv, zcw, zcx, zcy, zcz, zda, zdb, zdc, zdd, zde, zdf, zdg, zdh, zdi, zdj, zdk, zdl, zdm, zdn, zdo, zdp, zdq, zdr, zds, zdt, zdu, zdv, zdw, zdx, zdy, zdz, zea, zeb, zec, zed, zee, zef, zeg, zeh, zei, zej, zek, zel, zem, zen, zeo, zep, zeq, zes, zet, zeu, zev, zew, zex, zey, zez, zfa, zfb, zfc, zfd, zfe, zff, zfg, zfh, zfi, zfj, zfk, zfl, zfm, zfn, zfo, zfp, zfq, zfr, zfs, zft, zfu, zfv, zfw, zfx, zfy, zgc, Nat.reduceAdd]
  simp only [zgd, zge, zgf, zgg, true_and, and_true]
  refine two_ways (fun σ => ∃ x15 : Sl, σ = [sc, ow, .val (.int (w : Int)), .val (.ints (castL W)), .val (.ints (castL T')), .val (.list (shq w W.sum 0 W)), .val (qv w (rq b h)), .val (qv w (rq l h)), x8, x9, x10, x11, x12, .val (.int (k : Int)), .val (qv w (rq M (2 ^ k))), x15, .un, .un]) ?_ (fun htail hk0 => ?_) (fun _ => ⟨_, rfl⟩)
  · rintro _ ⟨x15, rfl⟩
    ((try dsimp only [zaa, zab, zac, zad, zae, zaf, zag, zah, zai, zaj, zak, zal, zam, zan, zao, zap, zaq, zar, zas, zat, zau, zav, zaw, zax, zay, zaz, zba, zbb, zbc, zbd, zbe, zbf, zbg, zbh, zbi, zbj, zbk, zbl, zbm, zbn, zbo, zbp, zbq, zbr, zbs, zbt, zbu, zbv, zbw, zbx, zby, zbz, zca, zcb, zcc, zcd, zce, zcf, zcg, zch, zci, zcj, zck, zcl, zcm, zcn, zco, zcp, zcq, zcr, zcs, zct, zcu, zcv, zcw, zcx, zcy, zcz, zda, zdb, zdc, zdd, zde, zdf, zdg, zdh, zdi, zdj, zdk, zdl, zdm, zdn, zdo, zdp, zdq, zdr, zds, zdt, zdu, zdv, zdw, zdx, zdy, zdz, zea, zeb, zec, zed, zee, zef, zeg, zeh, zei, zej, zek, zel, zem, zen, zeo, zep, zeq, zer, zes, zet, zeu, zev, zew, zex, zey, zez, zfa, zfb, zfc, zfd, zfe, zff, zfg, zfh, zfi, zfj, zfk, zfl, zfm, zfn, zfo, zfp, zfq, zfr, zfs, zft, zfu, zfv, zfw, zfx, zfy, zgc, Nat.reduceAdd]); (try simp only [zgd, zge, zgf, zgg, true_and, and_true]))
    try simp only [nlist, zek]
    refine forL_inv (fun i σ => ∃ (N D : Nat) (x15 x16 x17 : Sl), 0 < D ∧ D ≤ 2 ^ 16 * 4 ^ i ∧ (spanN W (T'.drop i) (0, 1, 1)).1 * D ≤ N * (spanN W (T'.drop i) (0, 1, 1)).2.2 ∧ N * (spanN W (T'.drop i) (0, 1, 1)).2.2 < ((spanN W (T'.drop i) (0, 1, 1)).1 + (spanN W (T'.drop i) (0, 1, 1)).2.1) * D ∧ σ = [sc, ow, .val (.int (w : Int)), .val (.ints (castL W)), .val (.ints (castL T')), .val (.list (shq w W.sum 0 W)), .val (qv w (rq b h)), .val (qv w (rq l h)), x8, x9, x10, x11, x12, .val (.int (k : Int)), .val (qv w (rq N D)), x15, x16, x17]) (fun _ _ => False) ⟨M, 2 ^ k, _, _, _, hp0, by lia, by rw [List.drop_zero, hsp]; exact hM1, by rw [List.drop_zero, hsp]; exact hM2, rfl⟩ ?_ ?_ (fun _ _ h => h.elim)
    · rintro i σ K hi ⟨N, D, x15, x16, x17, hD0, hD, hN1, hN2, rfl⟩ hK -
      rw [cast_len] at hi
      rw [cast_getD]
      have hs : T'.getD i 0 < W.length := hT4 _ (getD_mem hi)
      rw [dropN hi, spanN, spanN_gen] at hN1 hN2
      obtain ⟨s, hse⟩ : ∃ s, T'.getD i 0 = s := ⟨_, rfl⟩
      rw [hse] at hs hN1 hN2 ⊢
      have hpart := part_le W s hs
      have hu4 := hW4 _ (getD_mem hs)
      have hcnt := cntS_at (N := N) (D := D) (S := W.sum) W 0 s hs
      have hnth := shq_nth w W.sum W 0 s hs
      rw [Nat.zero_add] at hcnt hnth
      have hsl := shq_len w W.sum W 0
      obtain ⟨c, hc⟩ : ∃ c, (W.take s).sum = c := ⟨_, rfl⟩
      obtain ⟨u, hu⟩ : ∃ u, W.getD s 0 = u := ⟨_, rfl⟩
      rw [hc, hu] at hpart hcnt hN1 hN2 hnth
      rw [hu] at hu4
      have H2 := Spn_of hW4 (by lia) (T'.drop (i + 1)) 0 0 1 1 (fun x hx => hT4 x (List.mem_of_mem_drop hx)) ⟨by decide, by decide, by decide, by decide⟩
      have hK' := fun σ' h => hK σ' h
      simp only [Nat.zero_mul, Nat.zero_add, Nat.one_mul] at hN1 hN2
      have q0 := H2.h0
      have q1 := H2.l0
      have q2 := H2.bl
      generalize hb2 : (spanN W (T'.drop (i + 1)) (0, 1, 1)).1 = b2 at *
      generalize hl2 : (spanN W (T'.drop (i + 1)) (0, 1, 1)).2.1 = l2 at *
      generalize hh2 : (spanN W (T'.drop (i + 1)) (0, 1, 1)).2.2 = h2 at *
      have hcD : c * D ≤ N * W.sum := by
        have e1 : c * D * h2 ≤ N * W.sum * h2 := by
          have : (c * h2 + u * b2) * D = c * D * h2 + u * b2 * D := by grind
          have : N * (W.sum * h2) = N * W.sum * h2 := by grind
          lia
        exact Nat.le_of_mul_le_mul_right e1 q0
      have hcu : N * W.sum < (c + u) * D := by
        have e1 : N * W.sum * h2 < (c + u) * D * h2 := by
          have f1 : N * (W.sum * h2) = N * W.sum * h2 := by grind
          have f2 : (c * h2 + u * b2 + u * l2) * D = (c * h2 + u * (b2 + l2)) * D := by grind
          have f3 : (c * h2 + u * (b2 + l2)) * D ≤ (c * h2 + u * h2) * D := Nat.mul_le_mul_right _ (by have := Nat.mul_le_mul_left u q2; lia)
          have f4 : (c * h2 + u * h2) * D = (c + u) * D * h2 := by grind
          lia
        exact Nat.lt_of_mul_lt_mul_right e1
      have hND : N < D := by
        have e1 : (c + u) * D ≤ W.sum * D := Nat.mul_le_mul_right _ hpart
        have e2 : N * W.sum < D * W.sum := by rw [Nat.mul_comm D]; lia
        exact Nat.lt_of_mul_lt_mul_right e2
      have h4i : 4 ^ i ≤ 4 ^ 3 := Nat.pow_le_pow_right (by lia) (by lia)
      have hS16 : W.sum ≤ 16 := by lia
      have hDS : D * W.sum ≤ 2 ^ 22 * 16 := Nat.mul_le_mul (by lia) hS16
      have hNS : N * W.sum ≤ 2 ^ 22 * 16 := Nat.mul_le_mul (by lia) hS16
      have hDS0 : 0 < D * W.sum := Nat.mul_pos hD0 (by lia)
      ((try dsimp only [zaa, zab, zac, zad, zae, zaf, zag, zah, zai, zaj, zak, zal, zam, zan, zao, zap, zaq, zar, zas, zat, zau, zav, zaw, zax, zay, zaz, zba, zbb, zbc, zbd, zbe, zbf, zbg, zbh, zbi, zbj, zbk, zbl, zbm, zbn, zbo, zbp, zbq, zbr, zbs, zbt, zbu, zbv, zbw, zbx, zby, zbz, zca, zcb, zcc, zcd, zce, zcf, zcg, zch, zci, zcj, zck, zcl, zcm, zcn, zco, zcp, zcq, zcr, zcs, zct, zcu, zcv, zcw, zcx, zcy, zcz, zda, zdb, zdc, zdd, zde, zdf, zdg, zdh, zdi, zdj, zdk, zdl, zdm, zdn, zdo, zdp, zdq, zdr, zds, zdt, zdu, zdv, zdw, zdx, zdy, zdz, zea, zeb, zec, zed, zee, zef, zeg, zeh, zei, zej, zek, zel, zem, zen, zeo, zep, zeq, zer, zes, zet, zeu, zev, zew, zex, zey, zez, zfa, zfb, zfc, zfd, zfe, zff, zfg, zfh, zfi, zfj, zfk, zfl, zfm, zfn, zfo, zfp, zfq, zfr, zfs, zft, zfu, zfv, zfw, zfx, zfy, zgc, Nat.reduceAdd]); (try simp only [zgd, zge, zgf, zgg, true_and, and_true, zel]); (try dsimp only [zaa, zab, zac, zad, zae, zaf, zag, zah, zai, zaj, zak, zal, zam, zan, zao, zap, zaq, zar, zas, zat, zau, zav, zaw, zax, zay, zaz, zba, zbb, zbc, zbd, zbe, zbf, zbg, zbh, zbi, zbj, zbk, zbl, zbm, zbn, zbo, zbp, zbq, zbr, zbs, zbt, zbu, zbv, zbw, zbx, zby, zbz, zca, zcb, zcc, zcd, zce, zcf, zcg, zch, zci, zcj, zck, zcl, zcm, zcn, zco, zcp, zcq, zcr, zcs, zct, zcu, zcv, zcw, zcx, zcy, zcz, zda, zdb, zdc, zdd, zde, zdf, zdg, zdh, zdi, zdj, zdk, zdl, zdm, zdn, zdo, zdp, zdq, zdr, zds, zdt, zdu, zdv, zdw, zdx, zdy, zdz, zea, zeb, zec, zed, zee, zef, zeg, zeh, zei, zej, zek, zel, zem, zen, zeo, zep, zeq, zer, zes, zet, zeu, zev, zew, zex, zey, zez, zfa, zfb, zfc, zfd, zfe, zff, zfg, zfh, zfi, zfj, zfk, zfl, zfm, zfn, zfo, zfp, zfq, zfr, zfs, zft, zfu, zfv, zfw, zfx, zfy, zgc, Nat.reduceAdd]))
      refine comp_cnt (N := N) (D := D) (S := W.sum) ?_ W 0 [] (by lia) ?_
      · intro c' u' G hc' hu' hG
        ((try dsimp only [zaa, zab, zac, zad, zae, zaf, zag, zah, zai, zaj, zak, zal, zam, zan, zao, zap, zaq, zar, zas, zat, zau, zav, zaw, zax, zay, zaz, zba, zbb, zbc, zbd, zbe, zbf, zbg, zbh, zbi, zbj, zbk, zbl, zbm, zbn, zbo, zbp, zbq, zbr, zbs, zbt, zbu, zbv, zbw, zbx, zby, zbz, zca, zcb, zcc, zcd, zce, zcf, zcg, zch, zci, zcj, zck, zcl, zcm, zcn, zco, zcp, zcq, zcr, zcs, zct, zcu, zcv, zcw, zcx, zcy, zcz, zda, zdb, zdc, zdd, zde, zdf, zdg, zdh, zdi, zdj, zdk, zdl, zdm, zdn, zdo, zdp, zdq, zdr, zds, zdt, zdu, zdv, zdw, zdx, zdy, zdz, zea, zeb, zec, zed, zee, zef, zeg, zeh, zei, zej, zek, zel, zem, zen, zeo, zep, zeq, zer, zes, zet, zeu, zev, zew, zex, zey, zez, zfa, zfb, zfc, zfd, zfe, zff, zfg, zfh, zfi, zfj, zfk, zfl, zfm, zfn, zfo, zfp, zfq, zfr, zfs, zft, zfu, zfv, zfw, zfx, zfy, zgc, Nat.reduceAdd]); (try simp only [mkσ, zgd, zge, zgf, zgg, true_and, and_true]); (try dsimp only [zaa, zab, zac, zad, zae, zaf, zag, zah, zai, zaj, zak, zal, zam, zan, zao, zap, zaq, zar, zas, zat, zau, zav, zaw, zax, zay, zaz, zba, zbb, zbc, zbd, zbe, zbf, zbg, zbh, zbi, zbj, zbk, zbl, zbm, zbn, zbo, zbp, zbq, zbr, zbs, zbt, zbu, zbv, zbw, zbx, zby, zbz, zca, zcb, zcc, zcd, zce, zcf, zcg, zch, zci, zcj, zck, zcl, zcm, zcn, zco, zcp, zcq, zcr, zcs, zct, zcu, zcv, zcw, zcx, zcy, zcz, zda, zdb, zdc, zdd, zde, zdf, zdg, zdh, zdi, zdj, zdk, zdl, zdm, zdn, zdo, zdp, zdq, zdr, zds, zdt, zdu, zdv, zdw, zdx, zdy, zdz, zea, zeb, zec, zed, zee, zef, zeg, zeh, zei, zej, zek, zel, zem, zen, zeo, zep, zeq, zer, zes, zet, zeu, zev, zew, zex, zey, zez, zfa, zfb, zfc, zfd, zfe, zff, zfg, zfh, zfi, zfj, zfk, zfl, zfm, zfn, zfo, zfp, zfq, zfr, zfs, zft, zfu, zfv, zfw, zfx, zfy, zgc, Nat.reduceAdd]))
        refine ⟨w, rq c' W.sum, rq N D, ⟨hw, Sm_rq (by lia) (by lia) (by lia), Sm_rq (by lia) (by lia) hD0⟩, rfl, ?_⟩
        simp only [zde]
        have e : decide (Int.sign ((rq c' W.sum).num * (rq N D).den - (rq N D).num * (rq c' W.sum).den) ≤ 0) = decide (c' * D ≤ N * W.sum) := decide_eq_decide.mpr (sign_le.trans (rq_le (by lia) hD0))
        rw [e]; exact hG
      intro acc' hlen
      rw [hcnt hcD hcu, List.length_nil, Nat.zero_add] at hlen
      refine resT_len ?_
      rw [hlen]
      ((try dsimp only [zaa, zab, zac, zad, zae, zaf, zag, zah, zai, zaj, zak, zal, zam, zan, zao, zap, zaq, zar, zas, zat, zau, zav, zaw, zax, zay, zaz, zba, zbb, zbc, zbd, zbe, zbf, zbg, zbh, zbi, zbj, zbk, zbl, zbm, zbn, zbo, zbp, zbq, zbr, zbs, zbt, zbu, zbv, zbw, zbx, zby, zbz, zca, zcb, zcc, zcd, zce, zcf, zcg, zch, zci, zcj, zck, zcl, zcm, zcn, zco, zcp, zcq, zcr, zcs, zct, zcu, zcv, zcw, zcx, zcy, zcz, zda, zdb, zdc, zdd, zde, zdf, zdg, zdh, zdi, zdj, zdk, zdl, zdm, zdn, zdo, zdp, zdq, zdr, zds, zdt, zdu, zdv, zdw, zdx, zdy, zdz, zea, zeb, zec, zed, zee, zef, zeg, zeh, zei, zej, zek, zel, zem, zen, zeo, zep, zeq, zer, zes, zet, zeu, zev, zew, zex, zey, zez, zfa, zfb, zfc, zfd, zfe, zff, zfg, zfh, zfi, zfj, zfk, zfl, zfm, zfn, zfo, zfp, zfq, zfr, zfs, zft, zfu, zfv, zfw, zfx, zfy, zgc, Nat.reduceAdd]); (try simp only [zgd, zge, zgf, zgg, true_and, and_true, zdr]); (try dsimp only [zaa, zab, zac, zad, zae, zaf, zag, zah, zai, zaj, zak, zal, zam, zan, zao, zap, zaq, zar, zas, zat, zau, zav, zaw, zax, zay, zaz, zba, zbb, zbc, zbd, zbe, zbf, zbg, zbh, zbi, zbj, zbk, zbl, zbm, zbn, zbo, zbp, zbq, zbr, zbs, zbt, zbu, zbv, zbw, zbx, zby, zbz, zca, zcb, zcc, zcd, zce, zcf, zcg, zch, zci, zcj, zck, zcl, zcm, zcn, zco, zcp, zcq, zcr, zcs, zct, zcu, zcv, zcw, zcx, zcy, zcz, zda, zdb, zdc, zdd, zde, zdf, zdg, zdh, zdi, zdj, zdk, zdl, zdm, zdn, zdo, zdp, zdq, zdr, zds, zdt, zdu, zdv, zdw, zdx, zdy, zdz, zea, zeb, zec, zed, zee, zef, zeg, zeh, zei, zej, zek, zel, zem, zen, zeo, zep, zeq, zer, zes, zet, zeu, zev, zew, zex, zey, zez, zfa, zfb, zfc, zfd, zfe, zff, zfg, zfh, zfi, zfj, zfk, zfl, zfm, zfn, zfo, zfp, zfq, zfr, zfs, zft, zfu, zfv, zfw, zfx, zfy, zgc, Nat.reduceAdd]))
      refine ⟨fun hne => absurd (by lia) hne, fun _ => ⟨by lia, by rw [hsl]; lia, ?_⟩⟩
      rw [hnth]
      ((try dsimp only [zaa, zab, zac, zad, zae, zaf, zag, zah, zai, zaj, zak, zal, zam, zan, zao, zap, zaq, zar, zas, zat, zau, zav, zaw, zax, zay, zaz, zba, zbb, zbc, zbd, zbe, zbf, zbg, zbh, zbi, zbj, zbk, zbl, zbm, zbn, zbo, zbp, zbq, zbr, zbs, zbt, zbu, zbv, zbw, zbx, zby, zbz, zca, zcb, zcc, zcd, zce, zcf, zcg, zch, zci, zcj, zck, zcl, zcm, zcn, zco, zcp, zcq, zcr, zcs, zct, zcu, zcv, zcw, zcx, zcy, zcz, zda, zdb, zdc, zdd, zde, zdf, zdg, zdh, zdi, zdj, zdk, zdl, zdm, zdn, zdo, zdp, zdq, zdr, zds, zdt, zdu, zdv, zdw, zdx, zdy, zdz, zea, zeb, zec, zed, zee, zef, zeg, zeh, zei, zej, zek, zel, zem, zen, zeo, zep, zeq, zer, zes, zet, zeu, zev, zew, zex, zey, zez, zfa, zfb, zfc, zfd, zfe, zff, zfg, zfh, zfi, zfj, zfk, zfl, zfm, zfn, zfo, zfp, zfq, zfr, zfs, zft, zfu, zfv, zfw, zfx, zfy, zgc, Nat.reduceAdd]); (try simp only [zgd, zge, zgf, zgg, true_and, and_true, zdr]); (try dsimp only [zaa, zab, zac, zad, zae, zaf, zag, zah, zai, zaj, zak, zal, zam, zan, zao, zap, zaq, zar, zas, zat, zau, zav, zaw, zax, zay, zaz, zba, zbb, zbc, zbd, zbe, zbf, zbg, zbh, zbi, zbj, zbk, zbl, zbm, zbn, zbo, zbp, zbq, zbr, zbs, zbt, zbu, zbv, zbw, zbx, zby, zbz, zca, zcb, zcc, zcd, zce, zcf, zcg, zch, zci, zcj, zck, zcl, zcm, zcn, zco, zcp, zcq, zcr, zcs, zct, zcu, zcv, zcw, zcx, zcy, zcz, zda, zdb, zdc, zdd, zde, zdf, zdg, zdh, zdi, zdj, zdk, zdl, zdm, zdn, zdo, zdp, zdq, zdr, zds, zdt, zdu, zdv, zdw, zdx, zdy, zdz, zea, zeb, zec, zed, zee, zef, zeg, zeh, zei, zej, zek, zel, zem, zen, zeo, zep, zeq, zer, zes, zet, zeu, zev, zew, zex, zey, zez, zfa, zfb, zfc, zfd, zfe, zff, zfg, zfh, zfi, zfj, zfk, zfl, zfm, zfn, zfo, zfp, zfq, zfr, zfs, zft, zfu, zfv, zfw, zfx, zfy, zgc, Nat.reduceAdd]))
      refine ⟨w, rq N D, rq c W.sum, ⟨hw, Sm_rq (by lia) (by lia) hD0, Sm_rq (by lia) (by lia) (by lia)⟩, rfl, ?_⟩
      rw [rq_sub hD0 (by lia) hcD]
      ((try dsimp only [zaa, zab, zac, zad, zae, zaf, zag, zah, zai, zaj, zak, zal, zam, zan, zao, zap, zaq, zar, zas, zat, zau, zav, zaw, zax, zay, zaz, zba, zbb, zbc, zbd, zbe, zbf, zbg, zbh, zbi, zbj, zbk, zbl, zbm, zbn, zbo, zbp, zbq, zbr, zbs, zbt, zbu, zbv, zbw, zbx, zby, zbz, zca, zcb, zcc, zcd, zce, zcf, zcg, zch, zci, zcj, zck, zcl, zcm, zcn, zco, zcp, zcq, zcr, zcs, zct, zcu, zcv, zcw, zcx, zcy, zcz, zda, zdb, zdc, zdd, zde, zdf, zdg, zdh, zdi, zdj, zdk, zdl, zdm, zdn, zdo, zdp, zdq, zdr, zds, zdt, zdu, zdv, zdw, zdx, zdy, zdz, zea, zeb, zec, zed, zee, zef, zeg, zeh, zei, zej, zek, zel, zem, zen, zeo, zep, zeq, zer, zes, zet, zeu, zev, zew, zex, zey, zez, zfa, zfb, zfc, zfd, zfe, zff, zfg, zfh, zfi, zfj, zfk, zfl, zfm, zfn, zfo, zfp, zfq, zfr, zfs, zft, zfu, zfv, zfw, zfx, zfy, zgc, Nat.reduceAdd]); (try simp only [zgd, zge, zgf, zgg, true_and, and_true, zdr]); (try dsimp only [zaa, zab, zac, zad, zae, zaf, zag, zah, zai, zaj, zak, zal, zam, zan, zao, zap, zaq, zar, zas, zat, zau, zav, zaw, zax, zay, zaz, zba, zbb, zbc, zbd, zbe, zbf, zbg, zbh, zbi, zbj, zbk, zbl, zbm, zbn, zbo, zbp, zbq, zbr, zbs, zbt, zbu, zbv, zbw, zbx, zby, zbz, zca, zcb, zcc, zcd, zce, zcf, zcg, zch, zci, zcj, zck, zcl, zcm, zcn, zco, zcp, zcq, zcr, zcs, zct, zcu, zcv, zcw, zcx, zcy, zcz, zda, zdb, zdc, zdd, zde, zdf, zdg, zdh, zdi, zdj, zdk, zdl, zdm, zdn, zdo, zdp, zdq, zdr, zds, zdt, zdu, zdv, zdw, zdx, zdy, zdz, zea, zeb, zec, zed, zee, zef, zeg, zeh, zei, zej, zek, zel, zem, zen, zeo, zep, zeq, zer, zes, zet, zeu, zev, zew, zex, zey, zez, zfa, zfb, zfc, zfd, zfe, zff, zfg, zfh, zfi, zfj, zfk, zfl, zfm, zfn, zfo, zfp, zfq, zfr, zfs, zft, zfu, zfv, zfw, zfx, zfy, zgc, Nat.reduceAdd]))
      refine ⟨by lia, by rw [hsl]; lia, ?_⟩
      ((try dsimp only [zaa, zab, zac, zad, zae, zaf, zag, zah, zai, zaj, zak, zal, zam, zan, zao, zap, zaq, zar, zas, zat, zau, zav, zaw, zax, zay, zaz, zba, zbb, zbc, zbd, zbe, zbf, zbg, zbh, zbi, zbj, zbk, zbl, zbm, zbn, zbo, zbp, zbq, zbr, zbs, zbt, zbu, zbv, zbw, zbx, zby, zbz, zca, zcb, zcc, zcd, zce, zcf, zcg, zch, zci, zcj, zck, zcl, zcm, zcn, zco, zcp, zcq, zcr, zcs, zct, zcu, zcv, zcw, zcx, zcy, zcz, zda, zdb, zdc, zdd, zde, zdf, zdg, zdh, zdi, zdj, zdk, zdl, zdm, zdn, zdo, zdp, zdq, zdr, zds, zdt, zdu, zdv, zdw, zdx, zdy, zdz, zea, zeb, zec, zed, zee, zef, zeg, zeh, zei, zej, zek, zel, zem, zen, zeo, zep, zeq, zer, zes, zet, zeu, zev, zew, zex, zey, zez, zfa, zfb, zfc, zfd, zfe, zff, zfg, zfh, zfi, zfj, zfk, zfl, zfm, zfn, zfo, zfp, zfq, zfr, zfs, zft, zfu, zfv, zfw, zfx, zfy, zgc, Nat.reduceAdd]); (try simp only [zgd, zge, zgf, zgg, true_and, and_true, zdr]); (try dsimp only [zaa, zab, zac, zad, zae, zaf, zag, zah, zai, zaj, zak, zal, zam, zan, zao, zap, zaq, zar, zas, zat, zau, zav, zaw, zax, zay, zaz, zba, zbb, zbc, zbd, zbe, zbf, zbg, zbh, zbi, zbj, zbk, zbl, zbm, zbn, zbo, zbp, zbq, zbr, zbs, zbt, zbu, zbv, zbw, zbx, zby, zbz, zca, zcb, zcc, zcd, zce, zcf, zcg, zch, zci, zcj, zck, zcl, zcm, zcn, zco, zcp, zcq, zcr, zcs, zct, zcu, zcv, zcw, zcx, zcy, zcz, zda, zdb, zdc, zdd, zde, zdf, zdg, zdh, zdi, zdj, zdk, zdl, zdm, zdn, zdo, zdp, zdq, zdr, zds, zdt, zdu, zdv, zdw, zdx, zdy, zdz, zea, zeb, zec, zed, zee, zef, zeg, zeh, zei, zej, zek, zel, zem, zen, zeo, zep, zeq, zer, zes, zet, zeu, zev, zew, zex, zey, zez, zfa, zfb, zfc, zfd, zfe, zff, zfg, zfh, zfi, zfj, zfk, zfl, zfm, zfn, zfo, zfp, zfq, zfr, zfs, zft, zfu, zfv, zfw, zfx, zfy, zgc, Nat.reduceAdd]))
      refine ⟨w, rq (N * W.sum - c * D) (D * W.sum), rq u W.sum, ⟨hw, Sm_rq (by lia) (by lia) hDS0, Sm_rq (by lia) (by lia) (by lia), rq_ne0 (by lia) (by lia)⟩, rfl, ?_⟩
      rw [rq_quot hD0 (by lia) (by lia)]
      have hDu : D * u ≤ 2 ^ 16 * 4 ^ i * 4 := Nat.mul_le_mul hD (by lia)
      refine hK _ ⟨N * W.sum - c * D, D * u, _, _, _, Nat.mul_pos hD0 (by lia), by have : 4 ^ (i + 1) = 4 ^ i * 4 := Nat.pow_succ _ _; lia, ?_, ?_, rfl⟩
      · rw [Nat.sub_mul]
        have f1 : (c * h2 + u * b2) * D = c * D * h2 + b2 * (D * u) := by grind
        have f2 : N * (W.sum * h2) = N * W.sum * h2 := by grind
        lia
      · rw [Nat.sub_mul]
        have f1 : (c * h2 + u * b2 + u * l2) * D = c * D * h2 + (b2 + l2) * (D * u) := by grind
        have f2 : N * (W.sum * h2) = N * W.sum * h2 := by grind
        have f3 : c * D * h2 ≤ N * W.sum * h2 := Nat.mul_le_mul_right _ hcD
        lia
    · rintro σ' ⟨N, D, x15, x16, x17, hD0, hD, hN1, hN2, rfl⟩
      ((try dsimp only [zaa, zab, zac, zad, zae, zaf, zag, zah, zai, zaj, zak, zal, zam, zan, zao, zap, zaq, zar, zas, zat, zau, zav, zaw, zax, zay, zaz, zba, zbb, zbc, zbd, zbe, zbf, zbg, zbh, zbi, zbj, zbk, zbl, zbm, zbn, zbo, zbp, zbq, zbr, zbs, zbt, zbu, zbv, zbw, zbx, zby, zbz, zca, zcb, zcc, zcd, zce, zcf, zcg, zch, zci, zcj, zck, zcl, zcm, zcn, zco, zcp, zcq, zcr, zcs, zct, zcu, zcv, zcw, zcx, zcy, zcz, zda, zdb, zdc, zdd, zde, zdf, zdg, zdh, zdi, zdj, zdk, zdl, zdm, zdn, zdo, zdp, zdq, zdr, zds, zdt, zdu, zdv, zdw, zdx, zdy, zdz, zea, zeb, zec, zed, zee, zef, zeg, zeh, zei, zej, zek, zel, zem, zen, zeo, zep, zeq, zer, zes, zet, zeu, zev, zew, zex, zey, zez, zfa, zfb, zfc, zfd, zfe, zff, zfg, zfh, zfi, zfj, zfk, zfl, zfm, zfn, zfo, zfp, zfq, zfr, zfs, zft, zfu, zfv, zfw, zfx, zfy, zgc, Nat.reduceAdd]); (try simp only [zgd, zge, zgf, zgg, true_and, and_true]))
  · have hkk : (k : Int) - 1 = ((k - 1 : Nat) : Int) := by lia
    have hpk : 2 ^ (k - 1) ≤ 2 ^ 16 := Nat.pow_le_pow_right (by lia) (by lia)
    have hpk0 : 0 < 2 ^ (k - 1) := Nat.two_pow_pos _
    rw [hkk]
    have e1 : PV.tup [.bool false, .ints [1]] = sv w ((1 : Nat) : Int) := by rw [sv_nat, one_limb hw]
    rw [e1]
    refine ⟨w, 1, k - 1, ⟨hw, by lia, by lia⟩, rfl, ?_⟩
    rw [Nat.one_mul]
    refine ⟨w, ((1 : Nat) : Int), 2 ^ (k - 1), ⟨hw, by lia, by lia, hpk0⟩, rfl, ?_⟩
    refine ⟨w, rq l h, rq 1 (2 ^ (k - 1)), ⟨hw, Sm_rq (by lia) (by lia) hh0, Sm_rq (by lia) (by lia) hpk0⟩, rfl, ?_⟩
    dsimp only [zaa, zab, zac, zad, zae, zaf, zag, zah, zai, zaj, zak, zal, zam, zan, zao, zap, zaq, zar, zas, zat, zau, zav, zaw, zax, zay, zaz, zba, zbb, zbc, zbd, zbe, zbf, zbg, zbh, zbi, zbj, zbk, zbl, zbm, zbn, zbo, zbp, zbq, zbr, zbs, zbt, zbu, zbv, zbw, zbx, zby, zbz, zca, zcb, zcc, zcd, zce, zcf, zcg, zch, zci, zcj, zck, zcl, zcm, zcn, zco, zcp, zcq, zcr, zcs, zct, zcu, zcv, zcw, zcx, zcy, zcz, zda, zdb, zdc, zdd, zde, zdf, zdg, zdh, zdi, zdj, zdk, zdl, zdm, zdn, zdo, zdp, zdq, zdr, zds, zdt, zdu, zdv, zdw, zdx, zdy, zdz, zea, zeb, zec, zed, zee, zef, zeg, zeh, zei, zej, zek, zel, zem, zen, zeo, zep, zeq, zes, zet, zeu, zev, zew, zex, zey, zez, zfa, zfb, zfc, zfd, zfe, zff, zfg, zfh, zfi, zfj, zfk, zfl, zfm, zfn, zfo, zfp, zfq, zfr, zfs, zft, zfu, zfv, zfw, zfx, zfy, zgc, Nat.reduceAdd]
    simp only [zgd, sign_ge]
    refine ⟨fun hc => absurd hc ?_, fun _ => ?_⟩
    · rw [rq_le hpk0 hh0]
      have := hkl (by lia)
      lia
    exact htail _ ⟨_, rfl⟩

theorem law_w {prog : Program} {w : World} {h0 : Heap} {mg mb : Str → Option Value} {ads : Ads} (S : Stat h0 mg mb) (T : Tops h0 mg ads) {A : Around} {L a : Addr} {cd : Value} (O : (lawCx prog w h0 mg mb A L a cd).Ok 8)
    {φ : Fz} {V : Nat → Addr} {s : Shared} {script : List Int} (hst : St (lawCx prog w h0 mg mb A L a cd) φ) (R : RS (envOfC "law" (scopeOf (stAt 51)) L a cd) lawNs φ V (.val (.ints script) :: List.replicate 17 .un) s.heap) (E : Value → Shared → Prop) :
    wpAny (model prog w) (A.deeper (envOfC "law" (scopeOf (stAt 51)) L a cd)) (execs (bodyOf (stAt 51)) (envOfC "law" (scopeOf (stAt 51)) L a cd)) (After (lawCx prog w h0 mg mb A L a cd) φ V (.val (.ints script) :: List.replicate 17 .un) s (endT fun r => r = .bool true)) E s :=
  (lawWalk S T O).2 φ V _ s _ hst R (law_vc S T O script) E
end Mine

open PySem PySem.Calls PySem.W PyProof.Rows
set_option Elab.async false
set_option maxRecDepth 100000
set_option maxHeartbeats 4000000
namespace Mine
def recF (p : Program) : Stmt → Option DefRec := fun st => match st with
  | .FunctionDef name _ _ _ _ _ _ _ _ pos => (match p.theDef name with
    | some (a, b, sc) => (match a.defaults, kwLiteralsOf? a.kwonlyargs a.kw_defaults with
      | [], some [] => some ⟨name, a, b, sc, pos⟩
      | _, _ => none)
    | none => none)
  | _ => none
theorem isDef_name {x : Str} {st : Stmt} (h : isDef x st = true) : nameOf' st = x := by
  cases st <;> first | exact eq_of_beq h | cases h
variable {loose : List Str} {mean : ExcName → Option Value} {mg mb : Str → Option Value} {h : Heap}
theorem fn_of (T : Top vw loose mean mg mb h) (k j : Nat) (hj : vw.main.body[j]? = some (stAt k)) (hd : recF vw (stAt k) = some ⟨nameOf' (stAt k), paramsOf (stAt k), bodyOf (stAt k), scopeOf (stAt k), posOf' (stAt k)⟩) (x : Str) (hx : isDef x (stAt k) = true) : ∃ a, Fn h mg k x a := by
  obtain ⟨a, o, pm, cd, doc, h1, h2, h3, h4⟩ := T.fn _ (List.mem_filterMap.mpr ⟨_, List.mem_of_getElem? hj, hd⟩ : _ ∈ recsOf vw)
  have e := isDef_name hx
  subst e
  exact ⟨a, h1, o, pm, cd, doc, h2, h3, h4⟩
theorem no_def (k : Nat) {P : Str → Prop} (hk : ∀ x, isDef x (stAt k) = false) (x : Str) (hx : isDef x (stAt k) = true) : P x := by
  rw [hk x] at hx; cases hx
theorem below_0 {P : Nat → Prop} (k : Nat) (hk : Nat.blt k 0 = true) : P k := absurd (Nat.ble_eq.mp hk) (Nat.not_succ_le_zero k)
theorem below_s {P : Nat → Prop} {n : Nat} (h : ∀ k, Nat.blt k n = true → P k) (hn : P n) (k : Nat) (hk : Nat.blt k (n + 1) = true) : P k := by
  rcases Nat.lt_succ_iff_lt_or_eq.mp (Nat.ble_eq.mp hk : k < n + 1) with e | e
  · exact h k (Nat.ble_eq.mpr e)
  · rw [e]; exact hn
theorem tops_of (T : Top vw loose mean mg mb h) : ∃ ads, Tops h mg ads := by
  have key : ∀ k, Nat.blt k 51 = true → ∀ x, isDef x (stAt k) = true → ∃ a, Fn h mg k x a := below_s (below_s (below_s (below_s (below_s (below_s (below_s (below_s (below_s (below_s (below_s (below_s (below_s (below_s (below_s (below_s (below_s (below_s (below_s (below_s (below_s (below_s (below_s (below_s (below_s (below_s (below_s (below_s (below_s (below_s (below_s (below_s (below_s (below_s (below_s (below_s (below_s (below_s (below_s (below_s (below_s (below_s (below_s (below_s (below_s (below_s (below_s (below_s (below_s (below_s (below_s below_0 (no_def 0 fun _ => rfl)) (no_def 1 fun _ => rfl)) (no_def 2 fun _ => rfl)) (no_def 3 fun _ => rfl)) (fn_of T 4 3 rfl rfl)) (fn_of T 5 4 rfl rfl)) (fn_of T 6 5 rfl rfl)) (fn_of T 7 6 rfl rfl)) (fn_of T 8 7 rfl rfl)) (fn_of T 9 8 rfl rfl)) (fn_of T 10 9 rfl rfl)) (fn_of T 11 10 rfl rfl)) (fn_of T 12 11 rfl rfl)) (fn_of T 13 12 rfl rfl)) (no_def 14 fun _ => rfl)) (fn_of T 15 13 rfl rfl)) (fn_of T 16 14 rfl rfl)) (fn_of T 17 15 rfl rfl)) (fn_of T 18 16 rfl rfl)) (fn_of T 19 17 rfl rfl)) (fn_of T 20 18 rfl rfl)) (fn_of T 21 19 rfl rfl)) (fn_of T 22 20 rfl rfl)) (fn_of T 23 21 rfl rfl)) (no_def 24 fun _ => rfl)) (fn_of T 25 22 rfl rfl)) (fn_of T 26 23 rfl rfl)) (fn_of T 27 24 rfl rfl)) (fn_of T 28 25 rfl rfl)) (fn_of T 29 26 rfl rfl)) (fn_of T 30 27 rfl rfl)) (fn_of T 31 28 rfl rfl)) (fn_of T 32 29 rfl rfl)) (fn_of T 33 30 rfl rfl)) (fn_of T 34 31 rfl rfl)) (fn_of T 35 32 rfl rfl)) (no_def 36 fun _ => rfl)) (fn_of T 37 33 rfl rfl)) (fn_of T 38 34 rfl rfl)) (fn_of T 39 35 rfl rfl)) (fn_of T 40 36 rfl rfl)) (fn_of T 41 37 rfl rfl)) (fn_of T 42 38 rfl rfl)) (fn_of T 43 39 rfl rfl)) (no_def 44 fun _ => rfl)) (fn_of T 45 40 rfl rfl)) (fn_of T 46 41 rfl rfl)) (fn_of T 47 42 rfl rfl)) (fn_of T 48 43 rfl rfl)) (fn_of T 49 44 rfl rfl)) (fn_of T 50 45 rfl rfl)
  have key2 : ∀ k, ∃ a, ∀ x, Nat.blt k 51 = true → isDef x (stAt k) = true → Fn h mg k x a := fun k => by
    by_cases e : ∃ x, Nat.blt k 51 = true ∧ isDef x (stAt k) = true
    · obtain ⟨x, hk, hx⟩ := e
      obtain ⟨a, fa⟩ := key k hk x hx
      refine ⟨a, fun y _ hy => ?_⟩
      rw [(isDef_name hy).symm.trans (isDef_name hx)]; exact fa
    · exact ⟨0, fun x hk hx => absurd ⟨x, hk, hx⟩ e⟩
  obtain ⟨f, hf⟩ := Classical.skolem.mp key2
  exact ⟨f, fun k x => hf k x⟩
theorem free_of (T : Top vw loose mean mg mb h) (hl : loose = looseW vw []) (x : Str) (h1 : x ∉ startupNames) (h2 : x ∉ looseW vw []) (h3 : x ∉ (recsOf vw).map (·.name)) (h4 : x ∉ (litsOf vw).map (·.1)) (h5 : x ∉ (clssOf vw (looseW vw [])).map (·.name)) : mg x = none := by
  subst hl
  exact T.free x h1 h2 h3 h4 h5
theorem free_all (T : Top vw (looseW vw []) mean mg mb h) (l : List Str) (h1 : l.all fun x => !(startupNames.contains x || (looseW vw []).contains x || ((recsOf vw).map (·.name)).contains x || ((litsOf vw).map (·.1)).contains x || ((clssOf vw (looseW vw [])).map (·.name)).contains x)) : ∀ x ∈ l, mg x = none := by
  intro x hx
  have := List.all_eq_true.mp h1 x hx
  simp only [Bool.not_eq_true', Bool.or_eq_false_iff, List.contains_eq_mem, decide_eq_false_iff_not] at this
  exact free_of T rfl x this.1.1.1.1 this.1.1.1.2 this.1.1.2 this.1.2 this.2
theorem stat_of (T : Top vw (looseW vw []) mean mg mb h) : Stat h mg mb := by
  have F := free_all T ["len", "range", "enumerate", "min", "abs", "int", "sum"] (by decide +kernel)
  refine ⟨T.g, T.b, T.nolimit, ⟨F _ ?_, (T.builtins "len" (by decide)).trans (by decide)⟩, ⟨F _ ?_, (T.builtins "range" (by decide)).trans (by decide)⟩, ⟨F _ ?_, (T.builtins "enumerate" (by decide)).trans (by decide)⟩, ⟨F _ ?_, (T.builtins "min" (by decide)).trans (by decide)⟩, ⟨F _ ?_, (T.builtins "abs" (by decide)).trans (by decide)⟩, ⟨F _ ?_, (T.builtins "int" (by decide)).trans (by decide)⟩, ⟨F _ ?_, (T.builtins "sum" (by decide)).trans (by decide)⟩⟩ <;> simp only [List.mem_cons, true_or, or_true]
end Mine

open PySem PySem.Calls PySem.W PyProof.Rows
set_option Elab.async false
set_option maxRecDepth 100000
set_option maxHeartbeats 4000000
namespace Mine
theorem mem_of_lookup : ∀ (l : List (Str × Addr)) (x : Str) (c : Addr), l.lookup x = some c → (x, c) ∈ l
  | [], x, c, h => by cases h
  | (y, d) :: l, x, c, h => by
    rw [List.lookup_cons] at h
    cases e : x == y with
    | true =>
      rw [e] at h; cases h
      have : x = y := by simpa using e
      rw [this]; exact List.mem_cons_self
    | false => rw [e] at h; exact List.mem_cons_of_mem _ (mem_of_lookup l x c h)
theorem law_cells (L : Nat) (a : Addr) (cd : Value) : (envOfC "law" (scopeOf (stAt 51)) L a cd).cells = [(Str.ofString "here", (L + 1 + 1 + 1 + 1 : Nat)), (Str.ofString "weights", (L + 1 + 1 + 1 : Nat)), (Str.ofString "w", (L + 1 + 1 : Nat)), (Str.ofString "letter", (L + 1 : Nat))] := rfl
theorem law_rs {h0 h₁ : Heap} {L : Nat} {a : Addr} {cd : Value} {m : Str → Option Value} (hL : h0.get? L = none) (F : Fr h0 L h₁ m) {sv : Value} (hm : m "script" = some sv) {ns : List Int} (hr : Rep h0.get? (.ints ns) sv)
    {o1 o2 o3 o4 : Obj} {c1 c2 c3 c4 : Option Value} (N : News h0 L h₁ [(L + 1 + 1 + 1 + 1, o4), (L + 1 + 1 + 1, o3), (L + 1 + 1, o2), (L + 1, o1)]) (d4 : o4.data = .cell c4) (d3 : o3.data = .cell c3) (d2 : o2.data = .cell c2) (d1 : o1.data = .cell c1) :
    RS (envOfC "law" (scopeOf (stAt 51)) L a cd) lawNs h0.get? (fun _ => 0) (.val (.ints ns) :: List.replicate 17 .un) h₁ := by
  have un : ∀ i s, sg (Sl.val (.ints ns) :: List.replicate 17 Sl.un) i = s → s ≠ .un → i = 0 ∧ s = .val (.ints ns) := by
    intro i s h hne
    cases i with
    | zero => exact ⟨rfl, h.symm⟩
    | succ i => exact absurd (h.symm.trans (sg_rep 17 i)) hne
  refine ⟨F.keep, rfl, ⟨_, F.ns⟩, hL, fun x c hc => ?_, fun x y c hx hy => ?_, fun i x hx p hp => ?_, fun i x hx p hp => ?_, fun i j p q hi hj e => ?_⟩
  · have hmem := mem_of_lookup _ _ _ hc
    rw [law_cells] at hmem
    have key : ∀ (c' : Addr) (o : Obj) (v : Option Value), (c', o) ∈ [(L + 1 + 1 + 1 + 1, o4), (L + 1 + 1 + 1, o3), (L + 1 + 1, o2), (L + 1, o1)] → o.data = .cell v → h0.get? c' = none ∧ ∃ v, h₁.IsCell c' v := fun c' o v hm hd => ⟨N.fresh hm, v, o, N.get hm, hd⟩
    simp only [List.mem_cons, Prod.mk.injEq, List.not_mem_nil, or_false] at hmem
    rcases hmem with ⟨_, rfl⟩ | ⟨_, rfl⟩ | ⟨_, rfl⟩ | ⟨_, rfl⟩
    · exact key _ _ _ (by simp) d4
    · exact key _ _ _ (List.mem_cons_of_mem _ List.mem_cons_self) d3
    · exact key _ _ _ (List.mem_cons_of_mem _ (List.mem_cons_of_mem _ List.mem_cons_self)) d2
    · exact key _ _ _ (List.mem_cons_of_mem _ (List.mem_cons_of_mem _ (List.mem_cons_of_mem _ List.mem_cons_self))) d1
  · have h1 := mem_of_lookup _ _ _ hx
    have h2 := mem_of_lookup _ _ _ hy
    rw [law_cells] at h1 h2
    simp only [List.mem_cons, Prod.mk.injEq, List.not_mem_nil, or_false] at h1 h2
    have no : ∀ k l : Nat, (L + k : Nat) = L + l → k = l := fun k l h => by lia
    rcases h1 with ⟨rfl, e1⟩ | ⟨rfl, e1⟩ | ⟨rfl, e1⟩ | ⟨rfl, e1⟩ <;> rcases h2 with ⟨rfl, e2⟩ | ⟨rfl, e2⟩ | ⟨rfl, e2⟩ | ⟨rfl, e2⟩ <;> first
      | rfl
      | (have e3 := e1.symm.trans e2
         first
         | exact absurd (no 4 3 e3) (by decide)
         | exact absurd (no 4 2 e3) (by decide)
         | exact absurd (no 4 1 e3) (by decide)
         | exact absurd (no 3 4 e3) (by decide)
         | exact absurd (no 3 2 e3) (by decide)
         | exact absurd (no 3 1 e3) (by decide)
         | exact absurd (no 2 4 e3) (by decide)
         | exact absurd (no 2 3 e3) (by decide)
         | exact absurd (no 2 1 e3) (by decide)
         | exact absurd (no 1 4 e3) (by decide)
         | exact absurd (no 1 3 e3) (by decide)
         | exact absurd (no 1 2 e3) (by decide))
  · obtain ⟨rfl, e⟩ := un i _ hp (by intro e; cases e)
    cases e
    have : x = "script" := by
      have h : some ("script" : Str) = some x := hx
      cases h; rfl
    subst this
    exact ⟨sv, ⟨m, F.ns, hm⟩, hr⟩
  · obtain ⟨_, e⟩ := un i _ hp (by intro e; cases e)
    cases e
  · obtain ⟨_, e'⟩ := un i _ hi (by intro e; cases e)
    cases e'

theorem law_ok {prog : Program} {w : World} {h0 : Heap} {mg mb : Str → Option Value} (S : Stat h0 mg mb) {A : Around} (r : Room 9 A) {L : Nat} {a : Addr} {cd : Value} : (lawCx prog w h0 mg mb A L a cd).Ok 8 where
  room := ⟨r.1, by have := r.2.1; show A.depth + 1 + 8 < _; lia, by have := r.2.2; show A.units + 3 + 8 * 8 + 8 < _; lia⟩
  kind := rfl
  glob := rfl
  built := rfl
  hg := S.hg
  hb := S.hb
  nolimit := S.nolimit
  locals := fun i x hx => by
    have hi : i < 18 := by
      have := (List.getElem?_eq_some_iff.mp hx).1
      exact this
    have key : ∀ (y : Str), lawNs[i]? = some y → ((envOfC "law" (scopeOf (stAt 51)) L a cd).cells.lookup y = none ∧ (envOfC "law" (scopeOf (stAt 51)) L a cd).kindOf y = some .local) ∨ ∃ c, (envOfC "law" (scopeOf (stAt 51)) L a cd).cells.lookup y = some c ∧ (envOfC "law" (scopeOf (stAt 51)) L a cd).kindOf y = some .cell := by
      intro y hy
      match i, hi, hy with
      | 0, _, hy => cases hy; exact .inl ⟨rfl, rfl⟩
      | 1, _, hy => cases hy; exact .inr ⟨_, rfl, rfl⟩
      | 2, _, hy => cases hy; exact .inr ⟨_, rfl, rfl⟩
      | 3, _, hy => cases hy; exact .inr ⟨_, rfl, rfl⟩
      | 4, _, hy => cases hy; exact .inl ⟨rfl, rfl⟩
      | 5, _, hy => cases hy; exact .inl ⟨rfl, rfl⟩
      | 6, _, hy => cases hy; exact .inl ⟨rfl, rfl⟩
      | 7, _, hy => cases hy; exact .inl ⟨rfl, rfl⟩
      | 8, _, hy => cases hy; exact .inl ⟨rfl, rfl⟩
      | 9, _, hy => cases hy; exact .inl ⟨rfl, rfl⟩
      | 10, _, hy => cases hy; exact .inl ⟨rfl, rfl⟩
      | 11, _, hy => cases hy; exact .inl ⟨rfl, rfl⟩
      | 12, _, hy => cases hy; exact .inl ⟨rfl, rfl⟩
      | 13, _, hy => cases hy; exact .inl ⟨rfl, rfl⟩
      | 14, _, hy => cases hy; exact .inr ⟨_, rfl, rfl⟩
      | 15, _, hy => cases hy; exact .inl ⟨rfl, rfl⟩
      | 16, _, hy => cases hy; exact .inl ⟨rfl, rfl⟩
      | 17, _, hy => cases hy; exact .inl ⟨rfl, rfl⟩
    rcases key x hx with h | ⟨c, h1, h2⟩
    · exact .inl h
    · exact .inr ⟨c, h1, .inl h2⟩
  inj := nodup_at (l := lawNs) (by decide)

theorem law_top {prog : Program} {w : World} {h0 : Heap} {mg mb : Str → Option Value} {ads : Ads} (S : Stat h0 mg mb) (T : Tops h0 mg ads) {A : Around} (r : Room 9 A) {L : Nat} {a : Addr} {cd : Value} {s : Shared} {m : Str → Option Value} (hL : h0.get? L = none) (F : Fr h0 L s.heap m) {sv : Value} (hm : m "script" = some sv)
    {ns : List Int} (hr : Rep h0.get? (.ints ns) sv) {o1 o2 o3 o4 : Obj} {c1 c2 c3 c4 : Option Value} (N : News h0 L s.heap [(L + 1 + 1 + 1 + 1, o4), (L + 1 + 1 + 1, o3), (L + 1 + 1, o2), (L + 1, o1)]) (d4 : o4.data = .cell c4) (d3 : o3.data = .cell c3) (d2 : o2.data = .cell c2) (d1 : o1.data = .cell c1)
    {Q : Flow → Shared → Prop} {E : Value → Shared → Prop} (hQ : ∀ s', (∃ h t, s' = { s with heap := h, toks := t }) → (∀ b o, h0.get? b = some o → s'.heap.get? b = some o) → (∃ m, s'.heap.Ns L m) → Q (.ret (.bool true)) s') :
    wpAny (model prog w) (A.deeper (envOfC "law" (scopeOf (stAt 51)) L a cd)) (execs (bodyOf (stAt 51)) (envOfC "law" (scopeOf (stAt 51)) L a cd)) Q E s := by
  refine wpAny_mono (law_w S T (law_ok S r) (φ := h0.get?) (fun b o e => e) (law_rs hL F hm hr N d4 d3 d2 d1) E) (fun f s' h => ?_) fun _ _ x => x
  obtain ⟨φ', V', σ', T', hf⟩ := h
  have fin : f = .ret (.bool true) := by
    cases f with
    | next => exact absurd hf (by intro h; cases h)
    | ret v =>
      obtain ⟨x, hx, hx'⟩ := hf
      have e : x = .bool true := hx'
      subst e
      rw [Rep] at hx
      rw [hx]
    | brk => exact hf.elim
    | cont => exact hf.elim
  subst fin
  exact hQ s' T'.grow.same (fun b o e => T'.rs.sub _ _ (T'.grow.sub _ _ e)) T'.rs.nsx
end Mine

open PySem PySem.Calls PySem.W PyProof.Rows
set_option Elab.async false
set_option maxRecDepth 100000
set_option maxHeartbeats 8000000
namespace Mine
theorem ints_of_well {P : Params} {h : Heap} : ∀ {vs : List Value} {ns : List Int}, WellAll P h vs (ofPys (ns.map .int)) → IntsAre vs ns
  | vs, [], w => by
    rw [List.map_nil, ofPys] at w
    cases w; exact .nil
  | vs, n :: ns, w => by
    rw [List.map_cons, ofPys, ofPy] at w
    cases w with
    | cons a b =>
      cases a
      exact .cons _ _ (ints_of_well b)
theorem rep_of_well {P : Params} {h : Heap} {v : Value} {ns : List Int} (w : Well P h v (ofPy (.list (ns.map .int)))) (hl : ¬ (63 : Int) < (ns.length : Int)) : Rep h.get? (.ints ns) v := by
  rw [ofPy] at w
  cases w with
  | list hg wa =>
    rw [Rep]
    exact ⟨_, _, _, rfl, hg, by simpa using ints_of_well wa, by lia⟩
theorem wk : PySem.Challenge.rw_xm0417_01.Holds := by
  refine holds_law said_ok fun _ => ?_
  refine holds_open (q := vw) (loose := []) (Xt := Xt0) (XP := XL vw []) (Yf := Hook.none.obs) (Ya := Hook.none.val) (YP := Hook.none.says) (N := 4360) left0 (Hook.of Hook.none) (Hook.keeps Hook.none) (fun s e => xl_of s (Bool.and_eq_true_iff.mp e).1) XL.keeps (by rfl) (by rfl) (by rfl) (fun s e => recFacts_of (Bool.and_eq_true_iff.mp e).2) (by rfl) (row_said said_ok) ok0 ⟨rfl, rfl, rfl, rfl, rfl, by decide +kernel⟩ ?hw ?hc
  case hw => w_witness2
  w_strict (
    intro w s₀ s₁ mg mb G Y fa o pm cd doc dV kV ho hd hcd hD hmg hg args vals as hpre hlay hrd hwl hlo
    refine Ground.open G ?_
    intro T B D TE TW
    (try (refine guard_noD D (by decide +kernel) ?_; clear D))
    have TA := at_of_top T
    clear hmg
    wrow_args hpre hlay hrd hwl hlo
    (first | refine callC_kw (enter_call ?_) | refine enter_call ?_ | refine callC_kw (enter_callW ?_) | refine enter_callW ?_)
    w_top on
    (try refine codeAny_mono ?_ (fun _ _ g => GoodW.toG g))
    w_call any ho hd hcd hD T F
    rename_i o4 o3 o2 o1 d4 d3 d2 d1 N0 X0
    have hr := rep_of_well ‹Well _ _ (Value.ref _) (ofPy (PyData.list (List.map PyData.int _)))› (by assumption)
    obtain ⟨ads, Ts⟩ := tops_of T
    refine law_top (stat_of T) Ts (A := callerA) ⟨rfl, by decide, by decide⟩ (size_none _) F rfl hr N0 d4 d3 d2 d1 ?_
    rintro s' ⟨h', t', rfl⟩ hkeep hns
    obtain ⟨m', hm'⟩ := hns
    exact goodW_bool (L := _) (m := m') ⟨hm', hkeep, Nat.le_refl _⟩ hg (fun _ => rfl) (by wrow_post))
end Mine


theorem PySem.Challenge.cw_xm0417_01_holds : PySem.Challenge.rw_xm0417_01.Holds := by
  exact Mine.wk
