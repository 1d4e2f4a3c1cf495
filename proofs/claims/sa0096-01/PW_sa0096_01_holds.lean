import PyProof.Rows.All
import Wide.All
import OpenK.AllK
import Wide.FinOn
import Lean
import PySem.Challenge.RW_sa0096_01
open PySem PySem.W PyProof.Rows PySem.Calls
set_option Elab.async false
set_option linter.unusedVariables false
namespace Mine
set_option maxRecDepth 100000 in
set_option maxHeartbeats 8000000 in
open_top hd for PySem.Challenge.rw_sa0096_01
set_option maxRecDepth 100000


/-! ## a heap's part -/
open Classical in
noncomputable def part (h : Heap) (S : Addr → Prop) : Heap :=
  { h with objs := h.objs.mapIdx fun i o => if S i then o else { o with data := .freed } }
theorem part_get {h : Heap} {S : Addr → Prop} {b : Addr} {o : Obj} : (part h S).get? b = some o ↔ S b ∧ h.get? b = some o := by
  rw [Heap.get?_some_iff, Heap.get?_some_iff]
  unfold part
  simp only [Array.getElem?_mapIdx]
  cases hx : h.objs[b]? with
  | none => simp
  | some x =>
    by_cases hS : S b
    · simp [hS]
    · simp [hS]
      intro e; subst e; rfl

/-- g' is g and things that were not yet in h -/
structure Grow (g h g' : Heap) : Prop where
  up : g.StaysIn g'
  new : ∀ b o, g'.get? b = some o → g.get? b = some o ∨ h.get? b = none

theorem stays_trans {a b c : Heap} (x : a.StaysIn b) (y : b.StaysIn c) : a.StaysIn c := fun p o e => y p o (x p o e)
theorem stays_refl (a : Heap) : a.StaysIn a := fun _ _ e => e
theorem none_of_stays {h h' : Heap} (k : h.StaysIn h') {b : Addr} (e : h'.get? b = none) : h.get? b = none := by
  cases q : h.get? b with
  | none => rfl
  | some o => rw [k _ _ q] at e; cases e
theorem Grow.refl (g h : Heap) : Grow g h g := ⟨stays_refl g, fun _ _ e => .inl e⟩
theorem Grow.trans {g h g₁ h₁ g₂ : Heap} (a : Grow g h g₁) (k : h.StaysIn h₁) (b : Grow g₁ h₁ g₂) : Grow g h g₂ :=
  ⟨stays_trans a.up b.up, fun x o e => (b.new x o e).elim (fun e' => a.new x o e') fun e' => .inr (none_of_stays k e')⟩
/-- what stood in h and not in g does not stand in g' -/
theorem Grow.off {g h g' : Heap} (a : Grow g h g') {b : Addr} {o : Obj} (e : h.get? b = some o) (n : g.get? b = none) : g'.get? b = none := by
  cases q : g'.get? b with
  | none => rfl
  | some o' => rcases a.new b o' q with e' | e'
               · rw [n] at e'; cases e'
               · rw [e] at e'; cases e'
/-- one more object -/
theorem grow_one {g h h' : Heap} {a : Addr} {o : Obj} (k : g.StaysIn h') (n : h.get? a = none) (e : h'.get? a = some o) :
    ∃ g', Grow g h g' ∧ g'.StaysIn h' ∧ g'.get? a = some o := by
  refine ⟨part h' fun b => (∃ o, g.get? b = some o) ∨ b = a, ⟨fun b o q => part_get.mpr ⟨.inl ⟨o, q⟩, k b o q⟩, fun b o q => ?_⟩, fun b o q => (part_get.mp q).2, part_get.mpr ⟨.inr rfl, e⟩⟩
  obtain ⟨h1, h2⟩ := part_get.mp q
  rcases h1 with ⟨o', h1⟩ | rfl
  · have := k b o' h1; rw [h2] at this; cases this; exact .inl h1
  · exact .inr n

theorem keeps_refl (s : Shared) : Keeps s s := ⟨s.heap, s.toks, rfl, fun _ _ e => e⟩
theorem keeps_trans {s s' s'' : Shared} (a : Keeps s s') (b : Keeps s' s'') : Keeps s s'' := by
  obtain ⟨h', tk, rfl, k⟩ := a
  obtain ⟨h'', tk', rfl, k'⟩ := b
  exact ⟨h'', tk', rfl, fun b o e => k' b o (k b o e)⟩
theorem keeps_stays {s s' : Shared} (a : Keeps s s') : s.heap.StaysIn s'.heap := by
  obtain ⟨h', tk, rfl, k⟩ := a; exact k
theorem keeps_of {s : Shared} {h' : Heap} {tk : Nat} (k : s.heap.StaysIn h') : Keeps s { s with heap := h', toks := tk } := ⟨h', tk, rfl, k⟩
theorem keeps_tok {s : Shared} {tk : Nat} : Keeps s { s with toks := tk } := ⟨s.heap, tk, rfl, fun _ _ e => e⟩

/-! ## facts -/
noncomputable def MonoV (P : Value → Heap → Prop) : Prop := ∀ v (h h' : Heap), h.StaysIn h' → P v h → P v h'
noncomputable def Mono2 (I : Heap → Heap → Prop) : Prop := ∀ h h' g g' : Heap, h.StaysIn h' → g.StaysIn g' → I h g → I h' g'

noncomputable def IntV (i : Int) : Value → Heap → Prop := fun v _ => ∃ t, v = .int i t
noncomputable def BoolV (b : Bool) : Value → Heap → Prop := fun v _ => v = .bool b
theorem IntV.mono {i : Int} : MonoV (IntV i) := fun _ _ _ _ x => x
theorem BoolV.mono {b : Bool} : MonoV (BoolV b) := fun _ _ _ _ x => x

theorem isTup_mono {h h' : Heap} {a : Addr} {its : Array Value} (k : h.StaysIn h') (x : IsTup h a its) : IsTup h' a its :=
  let ⟨o, ho, r⟩ := x; ⟨o, k a o ho, r⟩
theorem isList_mono {h h' : Heap} {a : Addr} {its : Array Value} (k : h.StaysIn h') (x : h.IsList a its) : h'.IsList a its :=
  let ⟨o, ho, r⟩ := x; ⟨o, k a o ho, r⟩
theorem ns_mono {h h' : Heap} {a : Addr} {m} (k : h.StaysIn h') (x : h.Ns a m) : h'.Ns a m := x.keeps k
theorem isCell_mono {h h' : Heap} {a : Addr} {v} (k : h.StaysIn h') (x : h.IsCell a v) : h'.IsCell a v := x.keeps k

/-- a rational with the bottom 1 -/
noncomputable def RatV (x : Int) : Value → Heap → Prop := fun v h => ∃ a t t', v = .ref a ∧ IsTup h a #[.int x t, .int 1 t']
theorem RatV.mono {x : Int} : MonoV (RatV x) := fun _ _ _ k ⟨a, t, t', e, h⟩ => ⟨a, t, t', e, isTup_mono k h⟩

/-- a list whose items stand, one by one, in R to xs -/
noncomputable def LstV {α : Type} (R : α → Value → Heap → Prop) (xs : List α) : Value → Heap → Prop :=
  fun v h => ∃ a its, v = .ref a ∧ h.IsList a its ∧ its.size = xs.length ∧ ∀ (i : Nat) (x : α), xs[i]? = some x → ∃ u, its[i]? = some u ∧ R x u h
theorem LstV.mono {α : Type} {R : α → Value → Heap → Prop} (m : ∀ x, MonoV (R x)) (xs : List α) : MonoV (LstV R xs) :=
  fun _ _ _ k ⟨a, its, e, hl, hs, hi⟩ => ⟨a, its, e, isList_mono k hl, hs, fun i x hx => let ⟨u, hu, r⟩ := hi i x hx; ⟨u, hu, m x _ _ _ k r⟩⟩

noncomputable abbrev RatRow (xs : List Int) := LstV RatV xs
noncomputable abbrev RatMat (M : List (List Int)) := LstV RatRow M
noncomputable abbrev IntRow (xs : List Int) := LstV IntV xs
noncomputable abbrev IntMat (M : List (List Int)) := LstV IntRow M
theorem RatRow.mono {xs} : MonoV (RatRow xs) := LstV.mono (fun _ => RatV.mono) xs
theorem RatMat.mono {xs} : MonoV (RatMat xs) := LstV.mono (fun _ => RatRow.mono) xs
theorem IntRow.mono {xs} : MonoV (IntRow xs) := LstV.mono (fun _ => IntV.mono) xs
theorem IntMat.mono {xs} : MonoV (IntMat xs) := LstV.mono (fun _ => IntRow.mono) xs

/-! ## the text's own objects -/
noncomputable def Bs (w : World) (h : Heap) : Prop := ∃ p loose mean mg mb, (hd.heap_39 w.params).In h ∧ Top p loose mean mg mb h
theorem Bs.mono {w : World} {h h' : Heap} (k : h.StaysIn h') : Bs w h → Bs w h' := fun ⟨p, loose, mean, mg, mb, X, T⟩ => ⟨p, loose, mean, mg, mb, X.keeps k, T.keeps k⟩

/-- room for frames and for C's stack -/
structure Room (A : Around) (n : Nat) : Prop where
  hh : A.handled = none
  dp : A.depth + n < recursionLimit
  un : A.units + 4 * n + 200 < cLine
theorem Room.deeper {A : Around} {n : Nat} (r : Room A (n + 1)) (env : Env) : Room (A.deeper env) n :=
  ⟨r.hh, by have := r.dp; show A.depth + 1 + n < _; omega, by have := r.un; show A.units + 3 + 4 * n + 200 < _; omega⟩
theorem Room.in1 {A : Around} {n : Nat} (r : Room A (n + 1)) : Room A.in1 n :=
  ⟨r.hh, by have := r.dp; show A.depth + n < _; omega, by have := r.un; show A.units + 1 + 4 * n + 200 < _; omega⟩
theorem Room.less {A : Around} {n m : Nat} (r : Room A n) (h : m ≤ n) : Room A m :=
  ⟨r.hh, by have := r.dp; omega, by have := r.un; omega⟩

/-! ## the judgement -/
noncomputable def Post (g : Heap) (s : Shared) (P : Value → Heap → Prop) (v : Value) (s' : Shared) : Prop :=
  ∃ g', P v g' ∧ Grow g s.heap g' ∧ g'.StaysIn s'.heap ∧ Keeps s s'
noncomputable def Ev (M : Model) (A : Around) (env : Env) (e : Expr) (I : Heap → Heap → Prop) (P : Value → Heap → Prop) : Prop :=
  ∀ (E : Value → Shared → Prop) (s : Shared) (g : Heap), I s.heap g → g.StaysIn s.heap → wpAny M A (eval e env) (Post g s P) E s
noncomputable def Cv (M : Model) (A : Around) (f : Value) (vs : List Value) (I : Heap → Prop) (P : Value → Heap → Prop) : Prop :=
  ∀ (E : Value → Shared → Prop) (s : Shared) (g : Heap), I g → g.StaysIn s.heap → wpAny M A (call f vs) (Post g s P) E s

theorem Post.same {g : Heap} {s s' : Shared} {P : Value → Heap → Prop} {v : Value} (hp : P v g) (k : g.StaysIn s.heap) (K : Keeps s s') : Post g s P v s' :=
  ⟨g, hp, .refl _ _, stays_trans k (keeps_stays K), K⟩
theorem Post.after {g g₁ : Heap} {s s₁ s₂ : Shared} {P : Value → Heap → Prop} {v : Value} (a : Grow g s.heap g₁) (k : Keeps s s₁) (p : Post g₁ s₁ P v s₂) : Post g s P v s₂ :=
  let ⟨g₂, hp, gr, st, K⟩ := p
  ⟨g₂, hp, a.trans (keeps_stays k) gr, st, keeps_trans k K⟩
theorem Post.conseq {g : Heap} {s s' : Shared} {P P' : Value → Heap → Prop} {v : Value} (p : Post g s P v s') (h : ∀ v g, P v g → P' v g) : Post g s P' v s' :=
  let ⟨g₂, hp, r⟩ := p; ⟨g₂, h _ _ hp, r⟩

section
variable {M : Model} {A : Around} {env : Env} {I : Heap → Heap → Prop} {P : Value → Heap → Prop}

theorem Ev.conseq {e : Expr} {P' : Value → Heap → Prop} (x : Ev M A env e I P) (h : ∀ v g, P v g → P' v g) : Ev M A env e I P' :=
  fun E s g i k => wpAny_mono (x E s g i k) (fun v s' q => q.conseq h) fun _ _ q => q
theorem Ev.pre {e : Expr} {J : Heap → Heap → Prop} (x : Ev M A env e I P) (h : ∀ a b, J a b → I a b) : Ev M A env e J P :=
  fun E s g i => x E s g (h _ _ i)

/-- what a name gives -/
inductive Sees (env : Env) (x : Str) (v : Value) (h : Heap) : Prop where
  | loc (m : Str → Option Value) (k : env.kindOf x = some .local) (n : h.Ns env.locals m) (e : m x = some v)
  | cell (c : Addr) (k : env.kindOf x = some .cell) (l : env.cells.lookup x = some c) (n : h.IsCell c (some v))
  | free (c : Addr) (k : env.kindOf x = some .free) (l : env.cells.lookup x = some c) (n : h.IsCell c (some v)) (d : (x == ("__classdict__" : Str)) = false)
  | glob (m : Str → Option Value) (k : env.kindOf x = some .globalImplicit) (n : h.Ns env.globals m) (e : m x = some v)
  | built (m b : Str → Option Value) (k : env.kindOf x = some .globalImplicit) (n : h.Ns env.globals m) (e : m x = none) (nb : h.Ns env.builtins b) (eb : b x = some v)
theorem Sees.mono {x : Str} {v : Value} {h h' : Heap} (k : h.StaysIn h') (S : Sees env x v h) : Sees env x v h' := by
  cases S with
  | loc m kk n e => exact .loc m kk (ns_mono k n) e
  | cell c kk l n => exact .cell c kk l (isCell_mono k n)
  | free c kk l n d => exact .free c kk l (isCell_mono k n) d
  | glob m kk n e => exact .glob m kk (ns_mono k n) e
  | built m b kk n e nb eb => exact .built m b kk (ns_mono k n) e (ns_mono k nb) eb

theorem sees_eval {x : Str} {pos : Pos} {v : Value} {Q : Value → Shared → Prop} {E : Value → Shared → Prop} {s : Shared} (S : Sees env x v s.heap) (hk : env.scope.kind = .function) (hd : (x == ("__debug__" : Str)) = false) (h : Q v s) :
    wpAny M A (eval (.Name x pos) env) Q E s := by
  cases S with
  | loc m k n e => exact wpAny_Name (wpAny_loadName_local hk k n e h) hd
  | cell c k l n => exact wpAny_Name (wpAny_loadName_cell hk k l n h) hd
  | free c k l n d => exact wpAny_Name (wpAny_loadName_free hk k l n h d) hd
  | glob m k n e => exact Name_function_global hk k (loadGlobal_global n e h) hd
  | built m b k n e nb eb => exact Name_function_global hk k (loadGlobal_builtin n e nb eb h) hd

theorem ev_name {x : Str} {pos : Pos} (v : Value) (S : ∀ h g, I h g → g.StaysIn h → Sees env x v h) (hP : ∀ h g, I h g → P v g) (hk : env.scope.kind = .function := by rfl) (hd : (x == ("__debug__" : Str)) = false := by decide) :
    Ev M A env (.Name x pos) I P :=
  fun _ s g i k => sees_eval (S _ _ i k) hk hd (.same (hP _ _ i) k (keeps_refl s))

theorem ev_int {i : Int} {kd : Nat} {pos : Pos} : Ev M A env (.Constant (.int i) kd pos) I (IntV i) :=
  fun _ _ _ _ k => wpAny_Constant_int (.same ⟨_, rfl⟩ k keeps_tok)

/-- one after the other -/
theorem Ev.then {e : Expr} {P : Value → Heap → Prop} (hI : Mono2 I) (x : Ev M A env e I P) {E : Value → Shared → Prop} {s : Shared} {g : Heap} {Q : Value → Shared → Prop} (i : I s.heap g) (k : g.StaysIn s.heap)
    (h : ∀ v s₁ g₁, P v g₁ → I s₁.heap g₁ → g₁.StaysIn s₁.heap → Grow g s.heap g₁ → Keeps s s₁ → Q v s₁) : wpAny M A (eval e env) Q E s :=
  wpAny_mono (x E s g i k) (fun v s₁ q => let ⟨g₁, hp, gr, st, K⟩ := q; h v s₁ g₁ hp (hI _ _ _ _ (keeps_stays K) gr.up i) st gr K) fun _ _ q => q
end

section
variable {prog : Program} {w : World} {A : Around} {env : Env} {I : Heap → Heap → Prop} {P : Value → Heap → Prop}
theorem ev_bin {l r : Expr} {op : Operator} {pos : Pos} {a b c : Int} (hI : Mono2 I)
    (hop : ∀ (E : Value → Shared → Prop) (Q : Value → Shared → Prop) (s : Shared) (t u : Tok), (∀ k tk, Q (.int c k) { s with toks := tk }) → wpAny (model prog w) A (binaryOp op (.int a t) (.int b u)) Q E s)
    (hl : Ev (model prog w) A env l I (IntV a)) (hr : Ev (model prog w) A env r I (IntV b)) : Ev (model prog w) A env (.BinOp l op r pos) I (IntV c) := by
  intro E s g i k
  refine wpAny_BinOp (hl.then hI i k fun v s₁ g₁ hp i₁ k₁ gr₁ K₁ => ?_)
  obtain ⟨t, rfl⟩ := hp
  refine hr.then hI i₁ k₁ fun v s₂ g₂ hp i₂ k₂ gr₂ K₂ => ?_
  obtain ⟨u, rfl⟩ := hp
  exact hop _ _ _ _ _ fun k' tk => ⟨g₂, ⟨_, rfl⟩, gr₁.trans (keeps_stays K₁) gr₂, k₂, keeps_trans K₁ (keeps_trans K₂ keeps_tok)⟩
theorem ev_add {l r : Expr} {pos : Pos} {a b : Int} (hI : Mono2 I) (hl : Ev (model prog w) A env l I (IntV a)) (hr : Ev (model prog w) A env r I (IntV b)) : Ev (model prog w) A env (.BinOp l .Add r pos) I (IntV (a + b)) :=
  ev_bin hI (fun _ _ _ _ _ h => add_int (h _ _)) hl hr
theorem ev_sub {l r : Expr} {pos : Pos} {a b : Int} (hI : Mono2 I) (hl : Ev (model prog w) A env l I (IntV a)) (hr : Ev (model prog w) A env r I (IntV b)) : Ev (model prog w) A env (.BinOp l .Sub r pos) I (IntV (a - b)) :=
  ev_bin hI (fun _ _ _ _ _ h => sub_int (h _ _)) hl hr
theorem ev_mul {l r : Expr} {pos : Pos} {a b : Int} (hI : Mono2 I) (hm : IntMulOk a b) (hl : Ev (model prog w) A env l I (IntV a)) (hr : Ev (model prog w) A env r I (IntV b)) : Ev (model prog w) A env (.BinOp l .Mult r pos) I (IntV (a * b)) :=
  ev_bin hI (fun _ _ _ _ _ h => mul_int (h _ _) hm) hl hr
theorem ev_mod {l r : Expr} {pos : Pos} {a b : Int} (hI : Mono2 I) (hb : b ≠ 0) (hl : Ev (model prog w) A env l I (IntV a)) (hr : Ev (model prog w) A env r I (IntV b)) : Ev (model prog w) A env (.BinOp l .Mod r pos) I (IntV (a.fmod b)) :=
  ev_bin hI (fun _ _ _ _ _ h => mod_int' hb (h _ _)) hl hr

theorem ev_subscript {α : Type} {R : α → Value → Heap → Prop} (mR : ∀ x, MonoV (R x)) {value slice : Expr} {pos : Pos} {xs : List α} {k : Int} {x : α} (hI : Mono2 I)
    (h0 : 0 ≤ k) (hk : k < 2 ^ 63) (hx : xs[k.toNat]? = some x)
    (hs : ∀ o i, subscripted slice false (.ref o) (.int k i) = operate [.ref o, .int k i] (getItem (.ref o) (.int k i)))
    (hv : Ev (model prog w) A env value I (LstV R xs)) (hi : Ev (model prog w) A env slice I (IntV k)) : Ev (model prog w) A env (.Subscript value slice pos) I (R x) := by
  intro E s g i kk
  refine Subscript_ (hv.then hI i kk fun v s₁ g₁ L i₁ k₁ gr₁ K₁ => ?_)
  refine hi.then hI i₁ k₁ fun u s₂ g₂ hp i₂ k₂ gr₂ K₂ => ?_
  obtain ⟨t, rfl⟩ := hp
  obtain ⟨a, its, rfl, hl, hsz, hit⟩ := LstV.mono mR xs _ _ _ gr₂.up L
  obtain ⟨y, hy, r⟩ := hit _ _ hx
  have hl' := isList_mono k₂ hl
  exact tail_any hl'.typeIs slot_list_getitem.lookup (wpAny_getItem_list hl' h0 hk hy ⟨g₂, r, gr₁.trans (keeps_stays K₁) gr₂, k₂, keeps_trans K₁ K₂⟩) (hs _ _)

/-- an item of a pair -/
theorem ev_item2 {value : Expr} {pos pos' : Pos} {kd : Nat} {j : Nat} {P : Value → Heap → Prop} (hj : j = 0 ∨ j = 1)
    (hv : Ev (model prog w) A env value I (fun v h => ∃ (a : Addr) (x y u : Value), v = .ref a ∧ IsTup h a #[x, y] ∧ [x, y][j]? = some u ∧ P u h)) :
    Ev (model prog w) A env (.Subscript value (.Constant (.int (j : Int)) kd pos') pos) I P := by
  intro E s g i kk
  refine Subscript_ (wpAny_mono (hv E s g i kk) (fun v s₁ q => ?_) fun _ _ q => q)
  obtain ⟨g₁, ⟨a, x, y, u, rfl, hT, hu, hp⟩, gr₁, k₁, K₁⟩ := q
  refine wpAny_Constant_int ?_
  have hT' := isTup_mono k₁ hT
  rcases hj with rfl | rfl
  · exact item_tupleT (l := [x, y]) (j := 0) hT' (by decide) (by decide) rfl hu ⟨g₁, hp, gr₁, k₁, keeps_trans K₁ keeps_tok⟩ (by with_unfolding_all rfl)
  · exact item_tupleT (l := [x, y]) (j := 1) hT' (by decide) (by decide) rfl hu ⟨g₁, hp, gr₁, k₁, keeps_trans K₁ keeps_tok⟩ (by with_unfolding_all rfl)
theorem ev_rat0 {value : Expr} {pos pos' : Pos} {kd : Nat} {x : Int} (hv : Ev (model prog w) A env value I (RatV x)) :
    Ev (model prog w) A env (.Subscript value (.Constant (.int 0) kd pos') pos) I (IntV x) :=
  ev_item2 (j := 0) (.inl rfl) (hv.conseq fun _ _ ⟨a, t, t', e, hT⟩ => ⟨a, _, _, _, e, hT, rfl, _, rfl⟩)
theorem ev_rat1 {value : Expr} {pos pos' : Pos} {kd : Nat} {x : Int} (hv : Ev (model prog w) A env value I (RatV x)) :
    Ev (model prog w) A env (.Subscript value (.Constant (.int 1) kd pos') pos) I (IntV 1) :=
  ev_item2 (j := 1) (.inr rfl) (hv.conseq fun _ _ ⟨a, t, t', e, hT⟩ => ⟨a, _, _, _, e, hT, rfl, _, rfl⟩)

/-! arguments -/
noncomputable def AllV : List (Value → Heap → Prop) → List Value → Heap → Prop
  | [], [], _ => True
  | P :: Ps, v :: vs, h => P v h ∧ AllV Ps vs h
  | _, _, _ => False
theorem allV1 {P : Value → Heap → Prop} {vs : List Value} {g : Heap} (h : AllV [P] vs g) : ∃ u, vs = [u] ∧ P u g := by
  cases vs with
  | nil => exact h.elim
  | cons u r =>
    cases r with
    | nil => exact ⟨u, rfl, h.1⟩
    | cons _ _ => exact h.2.elim
theorem allVc {P : Value → Heap → Prop} {Ps : List (Value → Heap → Prop)} {vs : List Value} {g : Heap} (h : AllV (P :: Ps) vs g) : ∃ u r, vs = u :: r ∧ P u g ∧ AllV Ps r g := by
  cases vs with
  | nil => exact h.elim
  | cons u r => exact ⟨u, r, rfl, h.1, h.2⟩
theorem allV0 {vs : List Value} {g : Heap} (h : AllV [] vs g) : vs = [] := by
  cases vs with
  | nil => rfl
  | cons _ _ => exact h.elim
theorem allV2 {P Q : Value → Heap → Prop} {vs : List Value} {g : Heap} (h : AllV [P, Q] vs g) : ∃ u v, vs = [u, v] ∧ P u g ∧ Q v g := by
  obtain ⟨u, r, rfl, a, b⟩ := allVc h
  obtain ⟨v, rfl, c⟩ := allV1 b
  exact ⟨u, v, rfl, a, c⟩
theorem allV3 {P Q R : Value → Heap → Prop} {vs : List Value} {g : Heap} (h : AllV [P, Q, R] vs g) : ∃ u v w, vs = [u, v, w] ∧ P u g ∧ Q v g ∧ R w g := by
  obtain ⟨u, r, rfl, a, b⟩ := allVc h
  obtain ⟨v, w, rfl, c, d⟩ := allV2 b
  exact ⟨u, v, w, rfl, a, c, d⟩
noncomputable def Evs (M : Model) (A : Around) (env : Env) (es : List Expr) (I : Heap → Heap → Prop) (Ps : List (Value → Heap → Prop)) : Prop :=
  ∀ (pos : Pos) (E : Value → Shared → Prop) (s : Shared) (g : Heap), I s.heap g → g.StaysIn s.heap →
    wpAny M A (spliced (backTo pos (starEach es env))) (fun vs s' => ∃ g', AllV Ps vs g' ∧ Grow g s.heap g' ∧ g'.StaysIn s'.heap ∧ Keeps s s') E s
theorem evs_nil : Evs (model prog w) A env [] I [] := fun _ E s g i k => Calls.spliced_nil ⟨g, trivial, .refl _ _, k, keeps_refl s⟩
theorem evs_cons {e : Expr} {rest : List Expr} {P : Value → Heap → Prop} {Ps : List (Value → Heap → Prop)} (hI : Mono2 I) (mP : MonoV P)
    (h₁ : Ev (model prog w) A env e I P) (h₂ : Evs (model prog w) A env rest I Ps)
    (he : starEach (e :: rest) env = (false, eval e env) :: starEach rest env := by rfl) : Evs (model prog w) A env (e :: rest) I (P :: Ps) := by
  intro pos E s g i k
  rw [he]
  refine Calls.spliced_cons (h₁.then hI i k fun v s₁ g₁ hp i₁ k₁ gr₁ K₁ => ?_)
  refine wpAny_mono (h₂ pos E s₁ g₁ i₁ k₁) (fun vs s₂ q₂ => ?_) fun _ _ q => q
  obtain ⟨g₂, hvs, gr₂, k₂, K₂⟩ := q₂
  exact ⟨g₂, ⟨mP _ _ _ gr₂.up hp, hvs⟩, gr₁.trans (keeps_stays K₁) gr₂, k₂, keeps_trans K₁ K₂⟩

theorem call_eval {fe : Str} {fp pos : Pos} {e : Expr} {rest : List Expr} {Q : Value → Shared → Prop} {E : Value → Shared → Prop} {s : Shared}
    (h : wpAny (model prog w) A (eval (.Name fe fp) env) (fun f s₁ => wpAny (model prog w) A (callWith pos f [] (backTo pos (starEach (e :: rest) env)) []) Q E s₁) E s) :
    wpAny (model prog w) A (eval (.Call (.Name fe fp) (e :: rest) [] pos) env) Q E s := wpAny_Call_Name_kw h

/-- a call of a def of the text -/
theorem ev_call {fe : Str} {fp pos : Pos} {e : Expr} {rest : List Expr} {fa : Addr} {Ps : List (Value → Heap → Prop)} {P : Value → Heap → Prop} (hI : Mono2 I)
    (hB : ∀ h g, I h g → Bs w g) (hkeep : keepIn (hd.heap_39 w.params) (.ref fa) = true) (S : ∀ h g, I h g → g.StaysIn h → Sees env fe (.ref fa) h) (hk : env.scope.kind = .function) (hd : (fe == ("__debug__" : Str)) = false)
    (ha : Evs (model prog w) A env (e :: rest) I Ps)
    (hc : ∀ (vs : List Value), Cv (model prog w) A (.ref fa) vs (fun g => Bs w g ∧ AllV Ps vs g) P)
    (he : starEach (e :: rest) env = (false, eval e env) :: starEach rest env := by rfl) (hplain : (backTo pos (starEach rest env)).any (·.1) = false := by rfl) :
    Ev (model prog w) A env (.Call (.Name fe fp) (e :: rest) [] pos) I P := by
  intro E s g i k
  refine call_eval (sees_eval (S _ _ i k) hk hd ?_)
  have B := hB _ _ i
  obtain ⟨p, loose, mean, mg, mb, X, T⟩ := id B
  refine callWith_K (X.keeps k) hkeep (wpAny_mono (ha pos E s g i k) (fun vs s₁ q => ?_) fun _ _ q => q) he hplain
  obtain ⟨g₁, hvs, gr₁, k₁, K₁⟩ := q
  refine ⟨(X.keeps k).keeps (keeps_stays K₁), ?_⟩
  exact wpAny_mono (hc vs E s₁ g₁ ⟨B.mono gr₁.up, hvs⟩ k₁) (fun v s₂ q₂ => q₂.after gr₁ K₁) fun _ _ q => q

theorem ev_callB {fe : Str} {fp pos : Pos} {e : Expr} {rest : List Expr} {id : String} {Ps : List (Value → Heap → Prop)} {P : Value → Heap → Prop} (hI : Mono2 I)
    (S : ∀ h g, I h g → g.StaysIn h → Sees env fe (.builtin id) h) (hk : env.scope.kind = .function) (hd : (fe == ("__debug__" : Str)) = false)
    (ha : Evs (model prog w) A env (e :: rest) I Ps)
    (hc : ∀ (vs : List Value), Cv (model prog w) A (.builtin id) vs (AllV Ps vs) P)
    (he : starEach (e :: rest) env = (false, eval e env) :: starEach rest env := by rfl) (hplain : (backTo pos (starEach rest env)).any (·.1) = false := by rfl) :
    Ev (model prog w) A env (.Call (.Name fe fp) (e :: rest) [] pos) I P := by
  intro E s g i k
  refine call_eval (sees_eval (S _ _ i k) hk hd ?_)
  have ha' := ha pos E s g i k
  rw [he] at ha' ⊢
  refine Calls.callWith_builtin (by show (false || (backTo pos (starEach rest env)).any (·.1)) = false; rw [hplain]; rfl) (Calls.evalArgs_plain (wpAny_mono ha' (fun vs s₁ q => ?_) fun _ _ q => q))
  obtain ⟨g₁, hvs, gr₁, k₁, K₁⟩ := q
  exact wpAny_mono (hc vs E s₁ g₁ hvs k₁) (fun v s₂ q₂ => q₂.after gr₁ K₁) fun _ _ q => q

theorem ev_callT {fe : Str} {fp pos : Pos} {e : Expr} {rest : List Expr} {T : String} {Ps : List (Value → Heap → Prop)} {P : Value → Heap → Prop} (hI : Mono2 I)
    (S : ∀ h g, I h g → g.StaysIn h → Sees env fe (.type T) h) (hk : env.scope.kind = .function) (hd : (fe == ("__debug__" : Str)) = false)
    (ha : Evs (model prog w) A env (e :: rest) I Ps)
    (hc : ∀ (vs : List Value), Cv (model prog w) A (.type T) vs (AllV Ps vs) P)
    (he : starEach (e :: rest) env = (false, eval e env) :: starEach rest env := by rfl) (hplain : (backTo pos (starEach rest env)).any (·.1) = false := by rfl) :
    Ev (model prog w) A env (.Call (.Name fe fp) (e :: rest) [] pos) I P := by
  intro E s g i k
  refine call_eval (sees_eval (S _ _ i k) hk hd ?_)
  refine PyProof.Rows.callWith_type1 (wpAny_mono (ha pos E s g i k) (fun vs s₁ q => ?_) fun _ _ q => q) he hplain
  obtain ⟨g₁, hvs, gr₁, k₁, K₁⟩ := q
  exact wpAny_mono (hc vs E s₁ g₁ hvs k₁) (fun v s₂ q₂ => q₂.after gr₁ K₁) fun _ _ q => q

theorem get_push_new {h : Heap} {o : Obj} (hf : o.isFreed = false) : (h.push o).get? h.objs.size = some o := Heap.get?_push_size h hf
theorem stays_push {h : Heap} {o : Obj} : h.StaysIn (h.push o) := fun _ _ e => Heap.get?_push_of_some _ e
theorem get_size (h : Heap) : h.get? h.objs.size = none := by
  cases e : h.get? h.objs.size with
  | none => rfl
  | some o => exact absurd (Heap.lt_size e) (Nat.lt_irrefl _)

/-- a tuple made -/
theorem ev_tuple {es : List Expr} {kd : Nat} {pos : Pos} {Ps : List (Value → Heap → Prop)} {P : Value → Heap → Prop}
    (ha : Evs (model prog w) A env es I Ps) (mPs : ∀ vs (g g' : Heap), g.StaysIn g' → AllV Ps vs g → AllV Ps vs g')
    (h : ∀ vs a (g : Heap), AllV Ps vs g → IsTup g a vs.toArray → P (.ref a) g) (hl : ∀ vs g, AllV Ps vs g → vs.length ≤ sizeLine) :
    Ev (model prog w) A env (.Tuple es kd pos) I P := by
  intro E s g i k
  refine Tuple_ (wpAny_mono (ha pos E s g i k) (fun vs s₁ q => ?_) fun _ _ q => q)
  obtain ⟨g₁, hvs, gr₁, k₁, K₁⟩ := q
  refine wpAny_newObj_type ?_ (by show vs.toArray.size ≤ sizeLine; rw [List.size_toArray]; exact hl _ _ hvs)
  obtain ⟨g₂, gr₂, k₂, e₂⟩ := grow_one (g := g₁) (h := s₁.heap) (h' := s₁.heap.push { cls := .type "tuple", data := .seq vs.toArray }) (stays_trans k₁ stays_push) (get_size _) (get_push_new rfl)
  exact ⟨g₂, h _ _ _ (mPs _ _ _ gr₂.up hvs) ⟨_, e₂, rfl, _, rfl⟩, gr₁.trans (keeps_stays K₁) gr₂, k₂, keeps_trans K₁ (keeps_of stays_push)⟩

theorem ev_pair {e₁ e₂ : Expr} {kd : Nat} {pos : Pos} {P₁ P₂ P : Value → Heap → Prop} (hI : Mono2 I) (m₁ : MonoV P₁) (m₂ : MonoV P₂)
    (h₁ : Ev (model prog w) A env e₁ I P₁) (h₂ : Ev (model prog w) A env e₂ I P₂)
    (h : ∀ u v a (g : Heap), P₁ u g → P₂ v g → IsTup g a #[u, v] → P (.ref a) g)
    (he₁ : starEach [e₁, e₂] env = (false, eval e₁ env) :: starEach [e₂] env := by rfl) (he₂ : starEach [e₂] env = (false, eval e₂ env) :: starEach [] env := by rfl) :
    Ev (model prog w) A env (.Tuple [e₁, e₂] kd pos) I P := by
  refine ev_tuple (Ps := [P₁, P₂]) (evs_cons hI m₁ h₁ (evs_cons hI m₂ h₂ evs_nil he₂) he₁) ?_ ?_ ?_
  · intro vs g g' k q
    obtain ⟨u, v, rfl, a, b⟩ := allV2 q
    exact ⟨m₁ _ _ _ k a, m₂ _ _ _ k b, trivial⟩
  · intro vs a g q hT
    obtain ⟨u, v, rfl, x, y⟩ := allV2 q
    exact h u v a g x y hT
  · intro vs g q
    obtain ⟨u, v, rfl, x, y⟩ := allV2 q
    exact (by decide : (2:Nat) ≤ 2 ^ 24)
theorem ev_ratpair {e₁ e₂ : Expr} {kd : Nat} {pos : Pos} {x : Int} (hI : Mono2 I)
    (h₁ : Ev (model prog w) A env e₁ I (IntV x)) (h₂ : Ev (model prog w) A env e₂ I (IntV 1))
    (he₁ : starEach [e₁, e₂] env = (false, eval e₁ env) :: starEach [e₂] env := by rfl) (he₂ : starEach [e₂] env = (false, eval e₂ env) :: starEach [] env := by rfl) :
    Ev (model prog w) A env (.Tuple [e₁, e₂] kd pos) I (RatV x) :=
  ev_pair hI IntV.mono IntV.mono h₁ h₂ (fun _ _ a g ⟨t, e⟩ ⟨t', e'⟩ hT => ⟨a, t, t', rfl, by rw [← e, ← e']; exact hT⟩) he₁ he₂
end


/-! ## a frame's own names -/
noncomputable def upd (val : Str → Option Value) (x : Str) (v : Value) : Str → Option Value := fun y => if y = x then some v else val y
noncomputable def ownA (env : Env) (oc : List (Str × Addr)) : List Addr := env.locals :: oc.map (·.2)

structure Lc (env : Env) (oc : List (Str × Addr)) (val : Str → Option Value) (h : Heap) : Prop where
  ns : ∃ m, h.Ns env.locals m ∧ ∀ n, env.kindOf n = some .local → m n = val n
  cell : ∀ n c, oc.lookup n = some c → ∃ v, h.IsCell c v ∧ (env.kindOf n = some .cell → v = val n)
structure Apart (env : Env) (oc : List (Str × Addr)) : Prop where
  apart : oc.Pairwise fun x y => x.2 ≠ y.2
  away : ∀ n c, (n, c) ∈ oc → c ≠ env.locals
noncomputable def Own (env : Env) (oc : List (Str × Addr)) (x : Str) : Prop := env.kindOf x = some .local ∨ (env.kindOf x = some .cell ∧ ∃ c, oc.lookup x = some c ∧ env.cells.lookup x = some c)

theorem Lc.mono {env : Env} {oc} {val} {h h' : Heap} (k : h.StaysIn h') (x : Lc env oc val h) : Lc env oc val h' :=
  ⟨let ⟨m, a, b⟩ := x.ns; ⟨m, ns_mono k a, b⟩, fun n c e => let ⟨v, a, b⟩ := x.cell n c e; ⟨v, isCell_mono k a, b⟩⟩
theorem Lc.ext {env : Env} {oc} {val} {h h' : Heap} (k : ∀ b o, b ∈ ownA env oc → h.get? b = some o → h'.get? b = some o) (x : Lc env oc val h) : Lc env oc val h' := by
  refine ⟨?_, fun n c e => ?_⟩
  · obtain ⟨m, ⟨o, es, ep, ho, r⟩, b⟩ := x.ns
    exact ⟨m, ⟨o, es, ep, k _ _ (.head _) ho, r⟩, b⟩
  · obtain ⟨v, ⟨o, ho, r⟩, b⟩ := x.cell n c e
    exact ⟨v, ⟨o, k _ _ (.tail _ (List.mem_map.mpr ⟨(n, c), mem_of_lookup e, rfl⟩)) ho, r⟩, b⟩
theorem Lc.sees {env : Env} {oc} {val} {h : Heap} {x : Str} {v : Value} (l : Lc env oc val h) (o : Own env oc x) (e : val x = some v) : Sees env x v h := by
  rcases o with k | ⟨k, c, hc, hc'⟩
  · obtain ⟨m, a, b⟩ := l.ns
    exact .loc m k a ((b x k).trans e)
  · obtain ⟨u, a, b⟩ := l.cell x c hc
    have := b k
    subst this
    rw [e] at a
    exact .cell c k hc' a

section
variable {M : Model} {A : Around} {env : Env} {oc : List (Str × Addr)} {val : Str → Option Value} {E : Value → Shared → Prop} {s : Shared}
theorem store_own {x : Str} {v : Value} {Q : Unit → Shared → Prop} (hk : env.scope.kind = .function) (ap : Apart env oc) (l : Lc env oc val s.heap) (o : Own env oc x)
    (h : ∀ h' tk, Lc env oc (upd val x v) h' → (∀ b o, b ∉ ownA env oc → s.heap.get? b = some o → h'.get? b = some o) → (∀ b, b ∈ ownA env oc → (s.heap.get? b).isSome → (h'.get? b).isSome) → Q () { s with heap := h', toks := tk }) : wpAny M A (storeName env x v) Q E s := by
  rcases o with k | ⟨k, c, hc, hc'⟩
  · obtain ⟨m, a, b⟩ := l.ns
    refine wpAny_storeName_local k a (fun h' hn hs => h h' _ ⟨⟨_, hn, fun n kn => ?_⟩, fun n c e => ?_⟩ (fun b o nb e => hs.extBut b o (fun q => nb (q ▸ .head _)) e) (fun b' hb' hs' => ?_)) (by rw [hk]; rfl)
    · unfold upd; split
      · rfl
      · exact b n kn
    · obtain ⟨u, y, z⟩ := l.cell n c e
      refine ⟨u, y.sameBut hs (ap.away n c (mem_of_lookup e)), fun kn => ?_⟩
      have hne : n ≠ x := fun q => by rw [q, k] at kn; cases kn
      unfold upd; rw [if_neg hne]; exact z kn
    · by_cases q : b' = env.locals
      · obtain ⟨o, _, _, ho, _⟩ := hn; rw [q, ho]; rfl
      · rw [hs.2 b' q]; exact hs'
  · obtain ⟨u, y, z⟩ := l.cell x c hc
    have hcL := ap.away x c (mem_of_lookup hc)
    refine wpAny_storeName_cell hk k hc' y fun h' hv hs => h h' _ ⟨?_, fun n c' e => ?_⟩ (fun b o nb e => hs.extBut b o (fun q => nb (q ▸ .tail _ (List.mem_map.mpr ⟨(x, c), mem_of_lookup hc, rfl⟩))) e) (fun b' hb' hs' => ?_)
    · obtain ⟨m, a, b⟩ := l.ns
      refine ⟨m, a.sameBut hs (Ne.symm hcL), fun n kn => ?_⟩
      have hne : n ≠ x := fun q => by rw [q, k] at kn; cases kn
      unfold upd; rw [if_neg hne]; exact b n kn
    · by_cases q : n = x
      · subst q
        rw [hc] at e; cases e
        exact ⟨_, hv, fun _ => by unfold upd; rw [if_pos rfl]⟩
      · obtain ⟨u', y', z'⟩ := l.cell n c' e
        refine ⟨u', y'.sameBut hs (fun r => q (name_of_addr ap.apart (mem_of_lookup e) (r ▸ mem_of_lookup hc))), fun kn => ?_⟩
        unfold upd; rw [if_neg q]; exact z' kn
    · by_cases q : b' = c
      · obtain ⟨o, ho, _⟩ := hv; rw [q, ho]; rfl
      · rw [hs.2 b' q]; exact hs'

noncomputable def StoreAll (M : Model) (A : Around) (env : Env) (E : Value → Shared → Prop) (Q : Unit → Shared → Prop) : List (Str × Value) → Shared → Prop
  | [], s => Q () s
  | (x, v) :: r, s => wpAny M A (storeName env x v) (fun _ s' => StoreAll M A env E Q r s') E s
noncomputable def updAll (val : Str → Option Value) : List (Str × Value) → Str → Option Value
  | [] => val
  | (x, v) :: r => updAll (upd val x v) r
theorem storeAll_own (hk : env.scope.kind = .function) (ap : Apart env oc) {Q : Unit → Shared → Prop} : ∀ (bs : List (Str × Value)) (val : Str → Option Value) (s : Shared), Lc env oc val s.heap → (∀ x ∈ bs, Own env oc x.1) →
    (∀ h' tk, Lc env oc (updAll val bs) h' → (∀ b o, b ∉ ownA env oc → s.heap.get? b = some o → h'.get? b = some o) → (∀ b, b ∈ ownA env oc → (s.heap.get? b).isSome → (h'.get? b).isSome) → Q () { s with heap := h', toks := tk }) → StoreAll M A env E Q bs s
  | [], val, s, l, _, h => h s.heap s.toks l (fun _ _ _ e => e) fun _ _ e => e
  | (x, v) :: r, val, s, l, o, h => by
    refine store_own hk ap l (o _ (.head _)) fun h' tk l' k' m' => ?_
    exact storeAll_own hk ap r _ _ l' (fun y hy => o y (.tail _ hy)) fun h'' tk' l'' k'' m'' => h h'' tk' l'' (fun b o nb e => k'' b o nb (k' b o nb e)) fun b hb e => m'' b hb (m' b hb e)
end

/-! ## things that are gone through -/
/-- n turns; what a turn binds -/
structure Turns (prog : Program) (w : World) (A : Around) (target : Expr) (env : Env) (it : Value) (own : List Addr) (n : Nat) (Pn : Nat → List (Str × Value) → Heap → Prop) (St : Nat → Heap → Heap → Prop) : Prop where
  frame : ∀ i h h' g g', St i h g → (∀ b o, b ∈ own → h.get? b = some o → h'.get? b = some o) → g.StaysIn g' → g'.StaysIn h' → St i h' g'
  turn : ∀ i (s : Shared) (g : Heap) (Q : Unit → Shared → Prop) (E : Value → Shared → Prop), i < n → St i s.heap g → g.StaysIn s.heap → (∀ b ∈ own, g.get? b = none) →
    (∀ bs h' g' tk, Pn i bs g' → St (i + 1) h' g' → Grow g s.heap g' → g'.StaysIn h' → (∀ b o, b ∉ own → s.heap.get? b = some o → h'.get? b = some o) → (∀ b, b ∈ own → (h'.get? b).isSome) → StoreAll (model prog w) A env E Q bs { s with heap := h', toks := tk }) →
    wpAny (model prog w) A (pyNext it) (fun r s₁ => match r with
      | none => False
      | some v => wpAny (model prog w) A (letOwnedTupleGo target it v) (fun _ s₁' => wpAny (model prog w) A (assign target env v) Q E s₁') E s₁) E s
  done : ∀ (s : Shared) (g : Heap) (Q : Option Value → Shared → Prop) (E : Value → Shared → Prop), St n s.heap g → g.StaysIn s.heap → (∀ b ∈ own, g.get? b = none) →
    (∀ h' tk, g.StaysIn h' → (∀ b o, b ∉ own → s.heap.get? b = some o → h'.get? b = some o) → Q none { s with heap := h', toks := tk }) → wpAny (model prog w) A (pyNext it) Q E s
  self : ∀ i (s : Shared) (g : Heap) (Q : Value → Shared → Prop) (E : Value → Shared → Prop), St i s.heap g → Q it s → wpAny (model prog w) A (pyIter it) Q E s

section
variable {prog : Program} {w : World} {A : Around} {env : Env}
/-- from the library's walks: one name -/
theorem Turns.of_walks {x : Str} {pos : Pos} {I : Addr} {fp : List Addr} {n : Nat} {P : Nat → Value → Prop} {St₀ : Nat → Heap → Prop} {R : Heap → Prop} {Pn : Nat → Value → Heap → Prop}
    (W : Walks prog w A I fp [I] n P St₀) (mR : ∀ g g' : Heap, g.StaysIn g' → R g → R g') (hs : ∀ i h, St₀ i h → (h.get? I).isSome)
    (hf : ∀ i h h' g, St₀ i h → R g → g.StaysIn h' → (∀ o, h.get? I = some o → h'.get? I = some o) → St₀ i h') (hP : ∀ i v g, R g → P i v → Pn i v g) (ht : ∀ v, letOwnedTupleGo (.Name x pos) (.ref I) v = pure () := by intro _; rfl) :
    Turns prog w A (.Name x pos) env (.ref I) [I] n (fun i bs g => ∃ v, bs = [(x, v)] ∧ Pn i v g) (fun i h g => St₀ i h ∧ R g) where
  frame := fun i h h' g g' st k kg kh => ⟨hf i h h' g' st.1 (mR _ _ kg st.2) kh fun o e => k I o (.head _) e, mR _ _ kg st.2⟩
  turn := fun i s g Q E hi st k off hQ => by
    refine W.item i s _ E hi st.1 fun v h' tk hp st' kk => ?_
    have kg : g.StaysIn h' := fun b o e => kk b o (fun q => by rw [List.mem_singleton.mp q, off I (.head _)] at e; cases e) (k b o e)
    show wpAny _ _ (letOwnedTupleGo (.Name x pos) (.ref I) v) _ _ _
    rw [ht v]
    refine wpAny_pure (wpAny_assign_Name ?_)
    refine hQ [(x, v)] h' g tk ⟨v, rfl, hP i v g st.2 hp⟩ ⟨st', st.2⟩ (.refl _ _) kg kk fun b hb => ?_
    rw [List.mem_singleton.mp hb]; exact hs _ _ st'
  done := fun s g Q E st k off hQ => W.done s Q E st.1 fun h' tk kk => hQ h' tk (fun b o e => kk b o (fun q => by rw [List.mem_singleton.mp q, off I (.head _)] at e; cases e) (k b o e)) kk
  self := fun i s g Q E st hQ => W.self i s Q E st.1 hQ

theorem turns_list {x : Str} {pos : Pos} (hh : A.handled = none) {I ax : Addr} (hne : ax ≠ I) (its : Array Value) :
    Turns prog w A (.Name x pos) env (.ref I) [I] its.size (fun i bs g => ∃ v, bs = [(x, v)] ∧ its[i]? = some v) (fun i h g => (h.IsListIter I ax i ∧ h.IsList ax its) ∧ g.IsList ax its) :=
  Turns.of_walks (R := fun g => g.IsList ax its) (Pn := fun i v _ => its[i]? = some v) (Walks.list hh I ax hne its) (fun _ _ k h => isList_mono k h) (fun i h st => by obtain ⟨o, e, _⟩ := st.1; rw [e]; rfl)
    (fun i h h' g st R kg k => ⟨by obtain ⟨o, e, r⟩ := st.1; exact ⟨o, k o e, r⟩, isList_mono kg R⟩) fun _ _ _ _ h => h

theorem turns_range {x : Str} {pos : Pos} (hh : A.handled = none) {I : Addr} (a : Int) (n : Nat) :
    Turns prog w A (.Name x pos) env (.ref I) [I] n (fun i bs g => ∃ v, bs = [(x, v)] ∧ ∃ t, v = .int (a + (i : Int)) t) (fun i h g => IsRangeIter h I (a + (i : Nat) * 1) ((n : Int) - (i : Nat)) 1 ∧ True) :=
  Turns.of_walks (R := fun _ => True) (Pn := fun i v _ => ∃ t, v = .int (a + (i : Int)) t) (Walks.range hh I a 1 n) (fun _ _ _ _ => trivial) (fun i h st => by
      have st' : h.get? I = some _ := st
      rw [st']; rfl)
    (fun i h h' g st R kg k => k _ st) fun _ _ _ _ ⟨t, e⟩ => ⟨t, by rw [e, Int.mul_one]⟩
end


/-! ## enumerate of a list, two names -/
section
variable {prog : Program} {w : World} {A : Around} {env : Env}
theorem turns_enum {xi xv : Str} {pi pv pt : Pos} {kd : Nat} (hh : A.handled = none) {e it l : Addr} (hei : e ≠ it) (hle : l ≠ e) (hli : l ≠ it) (its : Array Value) :
    Turns prog w A (.Tuple [.Name xi pi, .Name xv pv] kd pt) env (.ref e) [e, it] its.size (fun i bs g => ∃ t v, bs = [(xi, .int (i : Int) t), (xv, v)] ∧ its[i]? = some v)
      (fun i h g => ((∃ old, IsEnum h e it i old) ∧ h.IsListIter it l i ∧ h.IsList l its) ∧ g.IsList l its) := by
  have W := WalksT.enumerate (prog := prog) (w := w) hh e it l hei hle hli its
  refine ⟨?_, ?_, ?_, ?_⟩
  · intro i h h' g g' st k kg kh
    obtain ⟨⟨⟨old, he⟩, ⟨o, ho, r⟩, hl⟩, hg⟩ := st
    exact ⟨⟨⟨old, k e _ (.head _) he⟩, ⟨o, k it o (.tail _ (.head _)) ho, r⟩, isList_mono kh (isList_mono kg hg)⟩, isList_mono kg hg⟩
  · intro i s g Q E hi st k off hQ
    refine W.item i s _ E hi st.1 fun T vals h' tk hp hT hv hm kk => ?_
    obtain ⟨t, x, hx, rfl⟩ := hp
    have ap := W.apart i T h' hm
    refine W.go [.Name xi pi, .Name xv pv] kd pt i T { s with heap := h', toks := tk } _ E hm fun h₂ st₂ kk₂ => ?_
    have hv₂ : IsTup h₂ T #[.int i t, x] := by
      obtain ⟨o, ho, r⟩ := hv
      exact ⟨o, kk₂ T o ap ho, r⟩
    refine assign_Tuple_tuple hh hv₂ rfl rfl fun h₃ he₃ => ?_
    have k3 : ∀ b o, h₂.get? b = some o → h₃.get? b = some o := fun b o e => he₃ b o (Nat.ne_of_lt (Heap.lt_size e)) e
    have kall : ∀ b o, b ∉ [e, it] → s.heap.get? b = some o → h₃.get? b = some o := fun b o nb e => k3 b o (kk₂ b o nb (kk b o nb e))
    have kg : g.StaysIn h₃ := fun b o e => kall b o (fun hb => by rw [off b hb] at e; cases e) (k b o e)
    have st₃ : ((∃ old, IsEnum h₃ e it ((i + 1 : Nat) : Int) old) ∧ h₃.IsListIter it l (i + 1) ∧ h₃.IsList l its) ∧ g.IsList l its := by
      obtain ⟨⟨old, he⟩, ⟨o, ho, r⟩, hl⟩ := st₂
      exact ⟨⟨⟨old, k3 _ _ he⟩, ⟨o, k3 _ _ ho, r⟩, isList_mono k3 hl⟩, st.2⟩
    have z := hQ [(xi, .int (i : Int) t), (xv, x)] h₃ g tk ⟨t, x, rfl, hx⟩ st₃ (.refl _ _) kg kall (fun b hb => by
      obtain ⟨⟨⟨old, he⟩, ⟨o, ho, _⟩, _⟩, _⟩ := st₃
      rcases List.mem_cons.mp hb with rfl | hb
      · have he' : h₃.get? b = some _ := he
        rw [he']; rfl
      · rw [List.mem_singleton.mp hb, ho]; rfl)
    refine assignInOrder_cons (wpAny_assign_Name (wpAny_mono z (fun _ s₁ z₁ => ?_) fun _ _ e => e))
    exact assignInOrder_cons (wpAny_assign_Name (wpAny_mono z₁ (fun _ s₂ z₂ => assignInOrder_nil z₂) fun _ _ e => e))
  · intro s g Q E st k off hQ
    refine W.done s Q E st.1 fun h' tk kk => hQ h' tk (fun b o e => kk b o (fun hb => by rw [off b hb] at e; cases e) (k b o e)) kk
  · intro i s g Q E st hQ
    exact W.self i s Q E st.1 hQ
end

/-! ## sources -/
noncomputable def Source (prog : Program) (w : World) (A : Around) (env : Env) (iter target : Expr) (I : Heap → Heap → Prop) (n : Nat) (Pn : Nat → List (Str × Value) → Heap → Prop) : Prop :=
  ∀ (E : Value → Shared → Prop) (s : Shared) (g : Heap) (Q : Value → Shared → Prop), I s.heap g → g.StaysIn s.heap →
    (∀ it own h' g' tk St, (∀ cenv, Turns prog w A target cenv it own n Pn St) → St 0 h' g' → Grow g s.heap g' → g'.StaysIn h' → s.heap.StaysIn h' →
      (∀ b ∈ own, g'.get? b = none ∧ s.heap.get? b = none ∧ (h'.get? b).isSome) → Q it { s with heap := h', toks := tk }) →
    wpAny (model prog w) A (eval iter env) (fun xv s₁ => wpAny (model prog w) A (pyIter xv) Q E s₁) E s

noncomputable def RangeV (a b : Int) : Value → Heap → Prop := fun v h => ∃ r t u x, v = .ref r ∧ IsRange h r a b 1 t u x

section
variable {prog : Program} {w : World} {A : Around} {env : Env} {I : Heap → Heap → Prop}
theorem source_list {α : Type} {R : α → Value → Heap → Prop} (mR : ∀ x, MonoV (R x)) {iter : Expr} {x : Str} {px : Pos} {xs : List α} (hh : A.handled = none) (hI : Mono2 I) (hi : Ev (model prog w) A env iter I (LstV R xs)) :
    Source prog w A env iter (.Name x px) I xs.length (fun i bs g => ∃ v y, bs = [(x, v)] ∧ xs[i]? = some y ∧ R y v g) := by
  intro E s g Q i k hQ
  refine hi.then hI i k fun v s₁ g₁ L i₁ k₁ gr₁ K₁ => ?_
  obtain ⟨ax, its, rfl, hl, hsz, hit⟩ := L
  have hl₁ := isList_mono k₁ hl
  refine wpAny_pyIter_list hl₁ ?_
  obtain ⟨h', tk, rfl, kk⟩ := K₁
  have hne : ax ≠ h'.objs.size := by obtain ⟨o, ho, _⟩ := hl₁; exact Nat.ne_of_lt (Heap.lt_size ho)
  have fr : h'.get? h'.objs.size = none := get_size h'
  refine hQ (.ref h'.objs.size) [h'.objs.size] _ g₁ tk (fun i h g => ((h.IsListIter h'.objs.size ax i ∧ h.IsList ax its) ∧ g.IsList ax its) ∧ ∀ (j : Nat) y, xs[j]? = some y → ∃ u, its[j]? = some u ∧ R y u g) ?_ ?_ gr₁ (stays_trans k₁ stays_push) (stays_trans kk stays_push) ?_
  · intro cenv
    have T := turns_list (prog := prog) (w := w) (env := cenv) (x := x) (pos := px) hh hne its
    rw [hsz] at T
    refine ⟨fun i h h₂ g g' st k kg kh => ⟨T.frame i h h₂ g g' st.1 k kg kh, fun j y hy => let ⟨u, hu, r⟩ := st.2 j y hy; ⟨u, hu, mR y _ _ _ kg r⟩⟩, fun i s g Q E hi st k off hQ => ?_, fun s g Q E st k off hQ => T.done s g Q E st.1 k off hQ, fun i s g Q E st hQ => T.self i s g Q E st.1 hQ⟩
    refine T.turn i s g Q E hi st.1 k off fun bs h₂ g₂ tk₂ hp st₂ gr k₂ kk₂ ho => ?_
    obtain ⟨v, rfl, hv⟩ := hp
    obtain ⟨y, hy⟩ : ∃ y, xs[i]? = some y := ⟨xs[i], by simp [hi]⟩
    obtain ⟨u, hu, r⟩ := st.2 i y hy
    rw [hv] at hu; cases hu
    exact hQ _ h₂ g₂ tk₂ ⟨v, y, rfl, hy, mR y _ _ _ gr.up r⟩ ⟨st₂, fun j z hz => let ⟨u, hu, r⟩ := st.2 j z hz; ⟨u, hu, mR z _ _ _ gr.up r⟩⟩ gr k₂ kk₂ ho
  · exact ⟨⟨⟨⟨_, get_push_new rfl, rfl, rfl⟩, isList_mono stays_push hl₁⟩, hl⟩, hit⟩
  · intro b hb
    rw [List.mem_singleton.mp hb]
    exact ⟨none_of_stays k₁ fr, none_of_stays kk fr, by rw [get_push_new rfl]; rfl⟩

theorem source_range {iter : Expr} {x : Str} {px : Pos} {a b : Int} {n : Nat} (hh : A.handled = none) (hI : Mono2 I) (ha : -(2 ^ 62) ≤ a) (ha' : a < 2 ^ 62) (hb : -(2 ^ 62) ≤ b) (hb' : b < 2 ^ 62) (hn : (n : Int) = if a < b then b - a else 0)
    (hi : Ev (model prog w) A env iter I (RangeV a b)) :
    Source prog w A env iter (.Name x px) I n (fun i bs g => ∃ t, i < n ∧ bs = [(x, .int (a + (i : Int)) t)]) := by
  intro E s g Q i k hQ
  refine hi.then hI i k fun v s₁ g₁ L i₁ k₁ gr₁ K₁ => ?_
  obtain ⟨r, t, u, y, rfl, hr⟩ := L
  refine wpAny_pyIter_range (k₁ _ _ hr) (small_one ha ha' hb hb') ?_
  rw [rangeSize_one, ← hn]
  obtain ⟨h', tk, rfl, kk⟩ := K₁
  have fr : h'.get? h'.objs.size = none := get_size h'
  refine hQ (.ref h'.objs.size) [h'.objs.size] _ g₁ tk (fun i h g => IsRangeIter h h'.objs.size (a + (i : Nat) * 1) ((n : Int) - (i : Nat)) 1 ∧ True) ?_ ?_ gr₁ (stays_trans k₁ stays_push) (stays_trans kk stays_push) ?_
  · intro cenv
    have T := turns_range (prog := prog) (w := w) (env := cenv) (x := x) (pos := px) (I := h'.objs.size) hh a n
    refine ⟨T.frame, fun i s g Q E hi st k off hQ => ?_, T.done, T.self⟩
    refine T.turn i s g Q E hi st k off fun bs h₂ g₂ tk₂ hp st₂ gr k₂ kk₂ ho => ?_
    obtain ⟨v, rfl, t, rfl⟩ := hp
    exact hQ _ h₂ g₂ tk₂ ⟨t, hi, rfl⟩ st₂ gr k₂ kk₂ ho
  · refine ⟨?_, trivial⟩
    show IsRangeIter _ _ _ _ _
    simpa using get_push_new rfl
  · intro b hb
    rw [List.mem_singleton.mp hb]
    exact ⟨none_of_stays k₁ fr, none_of_stays kk fr, by rw [get_push_new rfl]; rfl⟩

theorem source_enum {α : Type} {R : α → Value → Heap → Prop} (mR : ∀ x, MonoV (R x)) {e : Expr} {fp pos : Pos} {xi xv : Str} {pi pv pt : Pos} {kd : Nat} {xs : List α} (hh : A.handled = none) (hI : Mono2 I) (hi : Ev (model prog w) A env e I (LstV R xs))
    (S : ∀ h g, I h g → g.StaysIn h → Sees env (Str.ofString "enumerate") (.type "enumerate") h) (hk : env.scope.kind = .function)
    (he : starEach [e] env = (false, eval e env) :: starEach [] env := by rfl) :
    Source prog w A env (.Call (.Name (Str.ofString "enumerate") fp) [e] [] pos) (.Tuple [.Name xi pi, .Name xv pv] kd pt) I xs.length (fun i bs g => ∃ t v y, bs = [(xi, .int (i : Int) t), (xv, v)] ∧ xs[i]? = some y ∧ R y v g) := by
  intro E s g Q i k hQ
  refine call_eval (sees_eval (S _ _ i k) hk (by decide) ?_)
  refine PyProof.Rows.callWith_type1 ?_ he rfl
  rw [he]
  refine Calls.spliced_cons (hi.then hI i k fun v s₁ g₁ L i₁ k₁ gr₁ K₁ => Calls.spliced_nil ?_)
  obtain ⟨ax, its, rfl, hl, hsz, hit⟩ := L
  have hl₁ := isList_mono k₁ hl
  refine call_enumerate_list hl₁ fun h₂ hen hli hz kk₂ => ?_
  obtain ⟨h', tk, rfl, kk⟩ := K₁
  refine wpAny_pyIter_enum hen ?_
  have hlt : ax < h'.objs.size := by obtain ⟨o, ho, _⟩ := hl₁; exact Heap.lt_size ho
  have fr0 : h'.get? h'.objs.size = none := get_size h'
  have fr1 : h'.get? (h'.objs.size + 1) = none := by
    cases e : h'.get? (h'.objs.size + 1) with
    | none => rfl
    | some o => exact absurd (Heap.lt_size e) (Nat.not_lt.mpr (Nat.le_succ _))
  refine hQ (.ref (h'.objs.size + 1)) [h'.objs.size + 1, h'.objs.size] h₂ g₁ tk (fun i h g => (((∃ old, IsEnum h (h'.objs.size + 1) h'.objs.size i old) ∧ h.IsListIter h'.objs.size ax i ∧ h.IsList ax its) ∧ g.IsList ax its) ∧ ∀ (j : Nat) y, xs[j]? = some y → ∃ u, its[j]? = some u ∧ R y u g) ?_ ?_ gr₁ (stays_trans k₁ kk₂) (stays_trans kk kk₂) ?_
  · intro cenv
    have T := turns_enum (prog := prog) (w := w) (env := cenv) (xi := xi) (xv := xv) (pi := pi) (pv := pv) (pt := pt) (kd := kd) hh (e := h'.objs.size + 1) (it := h'.objs.size) (l := ax) (Nat.ne_of_gt (Nat.lt_succ_self _)) (Nat.ne_of_lt (Nat.lt_succ_of_lt hlt)) (Nat.ne_of_lt hlt) its
    rw [hsz] at T
    refine ⟨fun i h h₂ g g' st k kg kh => ⟨T.frame i h h₂ g g' st.1 k kg kh, fun j y hy => let ⟨u, hu, r⟩ := st.2 j y hy; ⟨u, hu, mR y _ _ _ kg r⟩⟩, fun i s g Q E hi st k off hQ => ?_, fun s g Q E st k off hQ => T.done s g Q E st.1 k off hQ, fun i s g Q E st hQ => T.self i s g Q E st.1 hQ⟩
    refine T.turn i s g Q E hi st.1 k off fun bs h₃ g₂ tk₂ hp st₂ gr k₂ kk₂ ho => ?_
    obtain ⟨t, v, rfl, hv⟩ := hp
    obtain ⟨y, hy⟩ : ∃ y, xs[i]? = some y := ⟨xs[i], by simp [hi]⟩
    obtain ⟨u, hu, r⟩ := st.2 i y hy
    rw [hv] at hu; cases hu
    exact hQ _ h₃ g₂ tk₂ ⟨t, v, y, rfl, hy, mR y _ _ _ gr.up r⟩ ⟨st₂, fun j z hz => let ⟨u, hu, r⟩ := st.2 j z hz; ⟨u, hu, mR z _ _ _ gr.up r⟩⟩ gr k₂ kk₂ ho
  · exact ⟨⟨⟨⟨_, hen⟩, hli, isList_mono kk₂ hl₁⟩, hl⟩, hit⟩
  · intro b hb
    rcases List.mem_cons.mp hb with rfl | hb
    · refine ⟨none_of_stays k₁ fr1, none_of_stays kk fr1, ?_⟩
      have hen' : h₂.get? (h'.objs.size + 1) = some _ := hen
      rw [hen']; rfl
    · rw [List.mem_singleton.mp hb]
      refine ⟨none_of_stays k₁ fr0, none_of_stays kk fr0, ?_⟩
      obtain ⟨o, ho, _⟩ := hli
      rw [ho]; rfl
end


/-! ## what stands goes on standing -/
noncomputable def Dom (h h' : Heap) : Prop := ∀ b, (h.get? b).isSome → (h'.get? b).isSome
theorem Dom.refl (h : Heap) : Dom h h := fun _ e => e
theorem Dom.trans {a b c : Heap} (x : Dom a b) (y : Dom b c) : Dom a c := fun p e => y p (x p e)
theorem Dom.stays {h h' : Heap} (k : h.StaysIn h') : Dom h h' := fun b e => by
  obtain ⟨o, ho⟩ := Option.isSome_iff_exists.mp e
  rw [k b o ho]; rfl
theorem Dom.but {h h' : Heap} {S : List Addr} (k : ∀ b o, b ∉ S → h.get? b = some o → h'.get? b = some o) (m : ∀ b ∈ S, (h.get? b).isSome → (h'.get? b).isSome) : Dom h h' := fun b e => by
  by_cases hb : b ∈ S
  · exact m b hb e
  · obtain ⟨o, ho⟩ := Option.isSome_iff_exists.mp e
    rw [k b o hb ho]; rfl
theorem Dom.none {h h' : Heap} (d : Dom h h') {b : Addr} (e : h'.get? b = none) : h.get? b = none := by
  cases q : h.get? b with
  | none => rfl
  | some o => have := d b (by rw [q]; rfl); rw [e] at this; cases this
theorem Grow.trans' {g h g₁ h₁ g₂ : Heap} (a : Grow g h g₁) (k : Dom h h₁) (b : Grow g₁ h₁ g₂) : Grow g h g₂ :=
  ⟨stays_trans a.up b.up, fun x o e => (b.new x o e).elim (fun e' => a.new x o e') fun e' => .inr (k.none e')⟩

/-! ## comprehensions -/
noncomputable def ccEnv (scope : Scope) (cl : List (Str × Addr)) (C : Addr) (env : Env) : Env :=
  { scope := relabel scope env, locals := C, globals := env.globals, cells := cellsFrom (C + 1) scope.names cl, qual := env.qual, func := none, code := env.code, frame := env.frame, builtins := env.builtins }
noncomputable def ccOwn (scope : Scope) (C : Addr) : List (Str × Addr) := cellsFrom (C + 1) scope.names []

theorem cellsFrom_app : ∀ (names : List (Str × NameKind)) (n : Nat) (acc acc' : List (Str × Addr)), cellsFrom n names (acc ++ acc') = cellsFrom n names acc ++ acc'
  | [], _, _, _ => rfl
  | (name, kind) :: r, n, acc, acc' => by
    unfold cellsFrom
    split
    · exact cellsFrom_app r (n + 1) ((name, n) :: acc) acc'
    · exact cellsFrom_app r n acc acc'

section
variable {M : Model} {A : Around} {E : Value → Shared → Prop} {s : Shared} {env : Env}
theorem newCompEnv {scope : Scope} {cl : List (Str × Addr)} {Q : Env → Shared → Prop}
    (h : Q { scope, locals := s.heap.objs.size, globals := env.globals, cells := cellsFrom (s.heap.objs.size + 1) scope.names cl, qual := env.qual, func := none, code := env.code, frame := env.frame, builtins := env.builtins }
      { s with heap := pushCells (s.heap.push { cls := .type "dict", data := .dict #[] }) scope.names }) :
    wpAny M A (newFunctionEnv scope env.globals cl [] env.qual none .none (some env)) Q E s := by
  simp only [newFunctionEnv, Option.isSome_some, if_true]
  refine wpAny_bind (wpAny_alloc ?_)
  refine wpAny_bind (wpAny_layCells _ (fun name kind cells => by cases hkc : kind == NameKind.cell <;> simp [hkc]) _ _ _ _ ?_)
  rw [show ({ s with heap := s.heap.push { cls := .type "dict", data := .dict #[] } } : Shared).heap.objs.size = s.heap.objs.size + 1 from Heap.size_push ..]
  refine wpAny_bind ?_
  rw [List.forIn_nil]
  exact wpAny_pure (wpAny_pure h)

/-- what stands behind the comprehension's frame being made -/
theorem comp_frame {scope : Scope} {cl : List (Str × Addr)} (H : Heap) :
    let h' := pushCells (H.push { cls := .type "dict", data := .dict #[] }) scope.names
    Lc (ccEnv scope cl H.objs.size env) (ccOwn scope H.objs.size) (fun _ => none) h' ∧ Apart (ccEnv scope cl H.objs.size env) (ccOwn scope H.objs.size) ∧ H.StaysIn h' ∧
      (∀ b ∈ ownA (ccEnv scope cl H.objs.size env) (ccOwn scope H.objs.size), H.objs.size ≤ b ∧ (h'.get? b).isSome) := by
  intro h'
  have ok := cellsFrom_ok scope.names (H.push { cls := .type "dict", data := .dict #[] }) (H.objs.size + 1) [] ⟨fun _ _ hm => (nomatch hm), List.Pairwise.nil⟩ (by rw [Heap.size_push]; exact Nat.le_refl _)
  rw [Heap.size_push] at ok
  have hns : h'.Ns H.objs.size (fun _ => none) := (Heap.Ns.new H (.type "dict")).keeps (pushCells_keeps _ _)
  refine ⟨⟨⟨_, hns, fun _ _ => rfl⟩, fun n c hc => ⟨none, (ok.empty n c (mem_of_lookup hc)).1, fun _ => rfl⟩⟩, ⟨ok.apart, fun n c hm => Nat.ne_of_gt (ok.empty n c hm).2⟩, fun b o e => pushCells_keeps _ _ b o (Heap.get?_push_of_some _ e), fun b hb => ?_⟩
  rcases List.mem_cons.mp hb with rfl | hb
  · obtain ⟨o, _, _, ho, _⟩ := hns
    exact ⟨Nat.le_refl _, by show (h'.get? H.objs.size).isSome; rw [ho]; rfl⟩
  · obtain ⟨⟨n, c⟩, hm, rfl⟩ := List.mem_map.mp hb
    have z := ok.empty n c hm
    obtain ⟨o, ho, _⟩ := z.1
    exact ⟨Nat.le_of_succ_le z.2, by show (h'.get? c).isSome; rw [ho]; rfl⟩
end

noncomputable def CompV (n : Nat) (R : Nat → Value → Heap → Prop) : Value → Heap → Prop :=
  fun v h => ∃ a its, v = .ref a ∧ h.IsList a its ∧ its.size = n ∧ ∀ (j : Nat) u, its[j]? = some u → R j u h



/-! ## statements -/
/-- a frame that stands: its names, and the part g that no store of its own reaches -/
structure Fm (env : Env) (val : Str → Option Value) (g : Heap) (s : Shared) : Prop where
  lc : Lc env env.cells val s.heap
  st : g.StaysIn s.heap
  off : ∀ b ∈ ownA env env.cells, g.get? b = none ∧ (s.heap.get? b).isSome
/-- from s and g on -/
structure Step (env : Env) (s : Shared) (g g' : Heap) (s' : Shared) : Prop where
  gr : Grow g s.heap g'
  st : g'.StaysIn s'.heap
  same : ∃ h tk, s' = { s with heap := h, toks := tk }
  kb : ∀ b o, b ∉ ownA env env.cells → s.heap.get? b = some o → s'.heap.get? b = some o
  dm : Dom s.heap s'.heap
theorem Step.refl {env : Env} {s : Shared} {g : Heap} (k : g.StaysIn s.heap) : Step env s g g s := ⟨.refl _ _, k, ⟨s.heap, s.toks, rfl⟩, fun _ _ _ e => e, Dom.refl _⟩
theorem Step.trans {env : Env} {s s₁ s₂ : Shared} {g g₁ g₂ : Heap} (a : Step env s g g₁ s₁) (b : Step env s₁ g₁ g₂ s₂) : Step env s g g₂ s₂ :=
  ⟨a.gr.trans' a.dm b.gr, b.st, by
    obtain ⟨h, tk, rfl⟩ := a.same
    obtain ⟨h', tk', rfl⟩ := b.same
    exact ⟨h', tk', rfl⟩, fun x o n e => b.kb x o n (a.kb x o n e), a.dm.trans b.dm⟩
theorem Step.of_post {env : Env} {s s' : Shared} {g g' : Heap} (gr : Grow g s.heap g') (k : g'.StaysIn s'.heap) (K : Keeps s s') : Step env s g g' s' :=
  ⟨gr, k, by obtain ⟨h, tk, rfl, _⟩ := K; exact ⟨h, tk, rfl⟩, fun b o _ e => keeps_stays K b o e, Dom.stays (keeps_stays K)⟩

noncomputable def Cx (env : Env) (val : Str → Option Value) (g : Heap) : Heap → Heap → Prop := fun h g' => Lc env env.cells val h ∧ g.StaysIn g'
theorem Cx.mono {env : Env} {val} {g : Heap} : Mono2 (Cx env val g) := fun h h' g g' k kg x => ⟨x.1.mono k, stays_trans x.2 kg⟩

noncomputable def FlowQ (env : Env) (s : Shared) (g : Heap) (Qn : (Str → Option Value) → Heap → Prop) (Qr : Value → Heap → Prop) : Flow → Shared → Prop
  | .next, s' => ∃ val' g', Fm env val' g' s' ∧ Step env s g g' s' ∧ Qn val' g'
  | .ret v, s' => ∃ g', Step env s g g' s' ∧ Qr v g'
  | _, _ => False

noncomputable def Sx (M : Model) (A : Around) (env : Env) (st : Stmt) (val : Str → Option Value) (g : Heap) (Qn : (Str → Option Value) → Heap → Prop) (Qr : Value → Heap → Prop) : Prop :=
  ∀ (E : Value → Shared → Prop) (s : Shared), Fm env val g s → wpAny M A (exec st env) (FlowQ env s g Qn Qr) E s
noncomputable def Bx (M : Model) (A : Around) (env : Env) (b : List Stmt) (val : Str → Option Value) (g : Heap) (Qn : (Str → Option Value) → Heap → Prop) (Qr : Value → Heap → Prop) : Prop :=
  ∀ (E : Value → Shared → Prop) (s : Shared), Fm env val g s → wpAny M A (execs b env) (FlowQ env s g Qn Qr) E s

section
variable {M : Model} {A : Around} {env : Env} {val : Str → Option Value} {g : Heap} {Qn Qm : (Str → Option Value) → Heap → Prop} {Qr : Value → Heap → Prop}
theorem FlowQ.mono {s : Shared} {Qn' : (Str → Option Value) → Heap → Prop} {Qr' : Value → Heap → Prop} {f : Flow} {s' : Shared} (x : FlowQ env s g Qn Qr f s') (hn : ∀ v g', Qn v g' → Qn' v g') (hr : ∀ v g', Qr v g' → Qr' v g') : FlowQ env s g Qn' Qr' f s' := by
  cases f with
  | next => obtain ⟨a, b, c, d, e⟩ := x; exact ⟨a, b, c, d, hn _ _ e⟩
  | ret v => obtain ⟨a, b, c⟩ := x; exact ⟨a, b, hr _ _ c⟩
  | brk => exact x
  | cont => exact x
theorem FlowQ.after {s s₁ : Shared} {g₁ : Heap} {f : Flow} {s' : Shared} (a : Step env s g g₁ s₁) (x : FlowQ env s₁ g₁ Qn Qr f s') : FlowQ env s g Qn Qr f s' := by
  cases f with
  | next => obtain ⟨p, q, c, d, e⟩ := x; exact ⟨p, q, c, a.trans d, e⟩
  | ret v => obtain ⟨p, b, c⟩ := x; exact ⟨p, a.trans b, c⟩
  | brk => exact x
  | cont => exact x
theorem Bx.mono {b : List Stmt} {Qn' : (Str → Option Value) → Heap → Prop} {Qr' : Value → Heap → Prop} (x : Bx M A env b val g Qn Qr) (hn : ∀ v g', Qn v g' → Qn' v g') (hr : ∀ v g', Qr v g' → Qr' v g') : Bx M A env b val g Qn' Qr' :=
  fun E s F => wpAny_mono (x E s F) (fun f s' q => q.mono hn hr) fun _ _ e => e
theorem bx_nil (h : Qn val g) : Bx M A env [] val g Qn Qr := fun E s F => wpAny_execs_nil ⟨val, g, F, .refl F.st, h⟩
theorem bx_cons {st : Stmt} {rest : List Stmt} (h₁ : Sx M A env st val g Qm Qr) (h₂ : ∀ val' g', g.StaysIn g' → Qm val' g' → Bx M A env rest val' g' Qn Qr) : Bx M A env (st :: rest) val g Qn Qr := by
  intro E s F
  refine wpAny_execs_cons (wpAny_mono (h₁ E s F) (fun f s₁ q => ?_) fun _ _ e => e)
  cases f with
  | next =>
    obtain ⟨val', g', F', S, q⟩ := q
    exact wpAny_mono (h₂ val' g' S.gr.up q E s₁ F') (fun f s' x => x.after S) fun _ _ e => e
  | ret v => exact q
  | brk => exact q.elim
  | cont => exact q.elim

theorem Ev.run {e : Expr} {P : Value → Heap → Prop} (x : Ev M A env e (Cx env val g) P) {E : Value → Shared → Prop} {s : Shared} {Q : Value → Shared → Prop} (F : Fm env val g s)
    (h : ∀ v g' s', P v g' → Fm env val g' s' → Step env s g g' s' → Q v s') : wpAny M A (eval e env) Q E s :=
  wpAny_mono (x E s g ⟨F.lc, stays_refl _⟩ F.st) (fun v s' q => by
    obtain ⟨g', hp, gr, k, K⟩ := q
    refine h v g' s' hp ⟨F.lc.mono (keeps_stays K), k, fun b hb => ?_⟩ (.of_post gr k K)
    obtain ⟨o, ho⟩ := Option.isSome_iff_exists.mp (F.off b hb).2
    exact ⟨gr.off ho (F.off b hb).1, by rw [keeps_stays K b o ho]; rfl⟩) fun _ _ q => q

theorem sx_assign {x : Str} {p pos : Pos} {e : Expr} {P : Value → Heap → Prop} (hk : env.scope.kind = .function) (ap : Apart env env.cells) (o : Own env env.cells x)
    (he : Ev M A env e (Cx env val g) P) (hsw : swapsWith e (some (Expr.Name x p)) pos.line env = pure false) : Sx M A env (.Assign [.Name x p] e pos) val g (fun val' g' => ∃ v, val' = upd val x v ∧ P v g') Qr := by
  intro E s F
  refine wpAny_Assign_Name (he.run F fun v g₁ s₁ hp F₁ S₁ => ?_) hsw
  refine store_own hk ap F₁.lc o fun h' tk lc' kk mm => ?_
  have kg : g₁.StaysIn h' := fun b o e => kk b o (fun hb => by rw [(F₁.off b hb).1] at e; cases e) (F₁.st b o e)
  refine ⟨_, g₁, ⟨lc', kg, fun b hb => ⟨(F₁.off b hb).1, mm b hb (F₁.off b hb).2⟩⟩, S₁.trans ⟨.refl _ _, kg, ⟨h', tk, rfl⟩, kk, .but kk mm⟩, v, rfl, hp⟩

theorem sx_return {e : Expr} {pos : Pos} {P : Value → Heap → Prop} (he : Ev M A env e (Cx env val g) P) : Sx M A env (.Return (some e) pos) val g Qn P := by
  intro E s F
  exact wpAny_Return_some (he.run F fun v g₁ s₁ hp F₁ S₁ => ⟨g₁, S₁, hp⟩)

noncomputable def NoneV : Value → Heap → Prop := fun v _ => v = .none
theorem sx_expr {e : Expr} {pos : Pos} (he : Ev M A env e (Cx env val g) NoneV) (hi : interactive env = false) (hsw : swapsWith e none pos.line env = pure false) : Sx M A env (.Expr e pos) val g (fun val' _ => val' = val) Qr := by
  intro E s F
  refine wpAny_Expr (he.run F fun v g₁ s₁ hp F₁ S₁ => ?_) hi hsw
  cases hp
  exact ⟨val, g₁, F₁, S₁, rfl⟩

/-! tests -/
noncomputable def Tv (M : Model) (A : Around) (env : Env) (e : Expr) (I : Heap → Heap → Prop) (b : Bool) : Prop :=
  ∀ (E : Value → Shared → Prop) (s : Shared) (g : Heap), I s.heap g → g.StaysIn s.heap → wpAny M A (PySem.isTrue e env (eval e env)) (fun b' s' => b' = b ∧ ∃ g', Grow g s.heap g' ∧ g'.StaysIn s'.heap ∧ Keeps s s') E s
theorem Tv.run {e : Expr} {b : Bool} (x : Tv M A env e (Cx env val g) b) {E : Value → Shared → Prop} {s : Shared} {Q : Bool → Shared → Prop} (F : Fm env val g s)
    (h : ∀ g' s', Fm env val g' s' → Step env s g g' s' → Q b s') : wpAny M A (PySem.isTrue e env (eval e env)) Q E s :=
  wpAny_mono (x E s g ⟨F.lc, stays_refl _⟩ F.st) (fun v s' q => by
    obtain ⟨rfl, g', gr, k, K⟩ := q
    refine h g' s' ⟨F.lc.mono (keeps_stays K), k, fun b hb => ?_⟩ (.of_post gr k K)
    obtain ⟨o, ho⟩ := Option.isSome_iff_exists.mp (F.off b hb).2
    exact ⟨gr.off ho (F.off b hb).1, by rw [keeps_stays K b o ho]; rfl⟩) fun _ _ q => q
theorem sx_if {test : Expr} {body orelse : List Stmt} {pos : Pos} {b : Bool} (ht : Tv M A env test (Cx env val g) b) (h : ∀ g', g.StaysIn g' → Bx M A env (if b then body else orelse) val g' Qn Qr) : Sx M A env (.If test body orelse pos) val g Qn Qr := by
  intro E s F
  refine wpAny_If (ht.run F fun g₁ s₁ F₁ S₁ => ?_)
  have z := h g₁ S₁.gr.up E s₁ F₁
  cases b
  · simp only [Bool.false_eq_true, if_false] at z ⊢
    exact wpAny_mono z (fun f s' x => x.after S₁) fun _ _ e => e
  · simp only [if_true] at z ⊢
    exact wpAny_mono z (fun f s' x => x.after S₁) fun _ _ e => e
theorem ev_ifexp {test body orelse : Expr} {pos : Pos} {I : Heap → Heap → Prop} {P : Value → Heap → Prop} {b : Bool} (hI : Mono2 I) (ht : Tv M A env test I b) (h₁ : b = true → Ev M A env body I P) (h₂ : b = false → Ev M A env orelse I P) : Ev M A env (.IfExp test body orelse pos) I P := by
  intro E s g i k
  refine wpAny_IfExp (wpAny_mono (ht E s g i k) (fun b' s₁ q => ?_) fun _ _ e => e)
  obtain ⟨rfl, g₁, gr, k₁, K⟩ := q
  have i₁ := hI _ _ _ _ (keeps_stays K) gr.up i
  cases b' with
  | true => exact wpAny_mono (h₁ rfl E s₁ g₁ i₁ k₁) (fun v s₂ q => q.after gr K) fun _ _ e => e
  | false => exact wpAny_mono (h₂ rfl E s₁ g₁ i₁ k₁) (fun v s₂ q => q.after gr K) fun _ _ e => e
end

section
variable {prog : Program} {w : World} {A : Around} {env : Env} {val : Str → Option Value} {g : Heap} {Qn Qm : (Str → Option Value) → Heap → Prop} {Qr : Value → Heap → Prop} {I : Heap → Heap → Prop}
theorem tv_cmp {l r : Expr} {op : CmpOp} {pos : Pos} {a b : Int} {c : Bool} (hI : Mono2 I) (hop : ∀ (E : Value → Shared → Prop) (Q : Value → Shared → Prop) (s : Shared) (t u : Tok), Q (.bool c) s → wpAny (model prog w) A (compareOp op (.int a t) (.int b u)) Q E s)
    (hl : Ev (model prog w) A env l I (IntV a)) (hr : Ev (model prog w) A env r I (IntV b)) (hm : behindInMarks op r = false := by with_unfolding_all rfl) : Tv (model prog w) A env (.Compare l [op] [r] pos) I c := by
  intro E s g i k
  refine wpAny_isTrue_Compare1 (hl.then hI i k fun v s₁ g₁ hp i₁ k₁ gr₁ K₁ => ?_) hm
  obtain ⟨t, rfl⟩ := hp
  refine hr.then hI i₁ k₁ fun v s₂ g₂ hp i₂ k₂ gr₂ K₂ => ?_
  obtain ⟨u, rfl⟩ := hp
  exact hop _ _ _ _ _ (wpAny_truthy_bool ⟨rfl, g₂, gr₁.trans (keeps_stays K₁) gr₂, k₂, keeps_trans K₁ K₂⟩)
theorem ev_cmp {l r : Expr} {op : CmpOp} {pos : Pos} {a b : Int} {c : Bool} (hI : Mono2 I) (hop : ∀ (E : Value → Shared → Prop) (Q : Value → Shared → Prop) (s : Shared) (t u : Tok), Q (.bool c) s → wpAny (model prog w) A (compareOp op (.int a t) (.int b u)) Q E s)
    (hl : Ev (model prog w) A env l I (IntV a)) (hr : Ev (model prog w) A env r I (IntV b)) (hm : behindInMarks op r = false := by with_unfolding_all rfl) : Ev (model prog w) A env (.Compare l [op] [r] pos) I (BoolV c) := by
  intro E s g i k
  refine wpAny_Compare1 (hl.then hI i k fun v s₁ g₁ hp i₁ k₁ gr₁ K₁ => ?_) hm
  obtain ⟨t, rfl⟩ := hp
  refine hr.then hI i₁ k₁ fun v s₂ g₂ hp i₂ k₂ gr₂ K₂ => ?_
  obtain ⟨u, rfl⟩ := hp
  exact hop _ _ _ _ _ ⟨g₂, rfl, gr₁.trans (keeps_stays K₁) gr₂, k₂, keeps_trans K₁ K₂⟩

/-- a for: J holds between the turns; a turn may leave -/
theorem sx_for {target iter : Expr} {body : List Stmt} {pos : Pos} {n : Nat} {Pn : Nat → List (Str × Value) → Heap → Prop} (J : Nat → (Str → Option Value) → Heap → Prop)
    (hk : env.scope.kind = .function) (ap : Apart env env.cells) (hs : ∀ x, foldedSetIterable iter env x = pure x)
    (hsrc : Source prog w A env iter target (Cx env val g) n Pn) (mJ : ∀ i v (g g' : Heap), g.StaysIn g' → J i v g → J i v g')
    (hown : ∀ i bs g, Pn i bs g → ∀ x ∈ bs, Own env env.cells x.1)
    (h0 : ∀ g', g.StaysIn g' → J 0 val g')
    (turn : ∀ i val' g' bs, i < n → g.StaysIn g' → J i val' g' → Pn i bs g' → Bx (model prog w) A env body (updAll val' bs) g' (J (i + 1)) Qr)
    (hend : ∀ val' g', g.StaysIn g' → J n val' g' → Qn val' g') :
    Sx (model prog w) A env (.For target iter body [] pos) val g Qn Qr := by
  intro E s F
  refine wpAny_For (hsrc E s g _ ⟨F.lc, stays_refl _⟩ F.st ?_) hs
  intro it own h₁ g₁ tk₁ St hT st₁ gr₁ k₁ kk₁ hown₁
  have T := hT env
  have hoo : ∀ b ∈ ownA env env.cells, b ∉ own := fun b hb hb' => by
    have := (F.off b hb).2; rw [(hown₁ b hb').2.1] at this; cases this
  have F₁ : Fm env val g₁ { s with heap := h₁, toks := tk₁ } := ⟨F.lc.mono kk₁, k₁, fun b hb => by
    obtain ⟨o, ho⟩ := Option.isSome_iff_exists.mp (F.off b hb).2
    exact ⟨gr₁.off ho (F.off b hb).1, by show (h₁.get? b).isSome; rw [kk₁ b o ho]; rfl⟩⟩
  -- what holds between the turns
  refine codeAny_forLoop_any (fun m s' => ∃ i val' g', i ≤ n ∧ m = n + 1 - i ∧ St i s'.heap g' ∧ Fm env val' g' s' ∧ J i val' g' ∧ Grow g₁ h₁ g' ∧ (∃ h tk, s' = { s with heap := h, toks := tk }) ∧
      (∀ b o, b ∉ own → b ∉ ownA env env.cells → h₁.get? b = some o → s'.heap.get? b = some o) ∧ Dom h₁ s'.heap) ?_ (n + 1)
    ⟨0, val, g₁, Nat.zero_le _, rfl, st₁, F₁, h0 g₁ gr₁.up, .refl _ _, ⟨h₁, tk₁, rfl⟩, fun _ _ _ _ e => e, Dom.refl _⟩
  rintro m s' ⟨i, val', g', hi, rfl, st, F', hJ, gr, ⟨h', tk, rfl⟩, kb, dm⟩
  have off : ∀ b ∈ own, g'.get? b = none := fun b hb => by
    obtain ⟨o, ho⟩ := Option.isSome_iff_exists.mp (hown₁ b hb).2.2
    exact gr.off ho (hown₁ b hb).1
  have finish : ∀ {g₂ : Heap} {s₂ : Shared}, Grow g₁ h₁ g₂ → g₂.StaysIn s₂.heap → (∃ h tk, s₂ = { s with heap := h, toks := tk }) → (∀ b o, b ∉ own → b ∉ ownA env env.cells → h₁.get? b = some o → s₂.heap.get? b = some o) → Dom h₁ s₂.heap → Step env s g g₂ s₂ :=
    fun gr₂ k₂ sm kb₂ dm₂ => ⟨gr₁.trans kk₁ gr₂, k₂, sm, fun b o nb e => kb₂ b o (fun hb => by rw [(hown₁ b hb).2.1] at e; cases e) nb (kk₁ b o e), (Dom.stays kk₁).trans dm₂⟩
  by_cases hlt : i < n
  · refine wpAny_mono (T.turn i { s with heap := h', toks := tk } g' (fun _ s₂ => wpAny (model prog w) A (execs body env) (fun f s₃ => match f with
            | .next | .cont => ∃ m, m < n + 1 - i ∧ ∃ i val' g', i ≤ n ∧ m = n + 1 - i ∧ St i s₃.heap g' ∧ Fm env val' g' s₃ ∧ J i val' g' ∧ Grow g₁ h₁ g' ∧ (∃ h tk, s₃ = { s with heap := h, toks := tk }) ∧
      (∀ b o, b ∉ own → b ∉ ownA env env.cells → h₁.get? b = some o → s₃.heap.get? b = some o) ∧ Dom h₁ s₃.heap
            | .brk => FlowQ env s g Qn Qr .next s₃
            | .ret v => FlowQ env s g Qn Qr (.ret v) s₃) (notedBy (model prog w) A env fun e s' => cameBackBy (model prog w) A env E e s') s₂) (notedBy (model prog w) A env fun e s' => cameBackBy (model prog w) A env E e s') hlt st F'.st off ?_) (fun r s₁ q => ?_) fun _ _ e => e
    rotate_left
    · match r, q with
      | some v, q => exact q
    intro bs h₄ g₄ tk₄ hp st₄ gr₄ kg₄ kk₄ ho₄
    have dm₄ : Dom h' h₄ := .but kk₄ fun b hb _ => ho₄ b hb
    have lc₄ : Lc env env.cells val' h₄ := F'.lc.ext fun b o hb e => kk₄ b o (hoo b hb) e
    have offC₄ : ∀ b ∈ ownA env env.cells, g₄.get? b = none ∧ (h₄.get? b).isSome := fun b hb => by
      obtain ⟨o, ho⟩ := Option.isSome_iff_exists.mp (F'.off b hb).2
      exact ⟨gr₄.off ho (F'.off b hb).1, by rw [kk₄ b o (hoo b hb) ho]; rfl⟩
    refine storeAll_own hk ap bs val' _ lc₄ (hown i bs g₄ hp) fun h₅ tk₅ lc₅ kk₅ ho₅ => ?_
    have kg₅ : g₄.StaysIn h₅ := fun b o e => kk₅ b o (fun hb => by rw [(offC₄ b hb).1] at e; cases e) (kg₄ b o e)
    have dm₅ : Dom h₄ h₅ := .but kk₅ ho₅
    have st₅ : St (i + 1) h₅ g₄ := T.frame _ _ _ _ _ st₄ (fun b o hb e => kk₅ b o (fun hb' => hoo b hb' hb) e) (stays_refl _) kg₅
    have F₅ : Fm env (updAll val' bs) g₄ { s with heap := h₅, toks := tk₅ } := ⟨lc₅, kg₅, fun b hb => ⟨(offC₄ b hb).1, ho₅ b hb (offC₄ b hb).2⟩⟩
    refine wpAny_mono (turn i val' g₄ bs hlt (stays_trans gr₁.up (stays_trans gr.up gr₄.up)) (mJ _ _ _ _ gr₄.up hJ) hp _ _ F₅) (fun f s₆ q => ?_) fun _ _ e => e
    have grA : Grow g₁ h₁ g₄ := gr.trans' dm gr₄
    have dmA : Dom h₁ h₅ := dm.trans (dm₄.trans dm₅)
    have kbA : ∀ b o, b ∉ own → b ∉ ownA env env.cells → h₁.get? b = some o → h₅.get? b = some o := fun b o n1 n2 e => kk₅ b o n2 (kk₄ b o n1 (kb b o n1 n2 e))
    cases f with
    | next =>
      obtain ⟨val₆, g₆, F₆, S₆, hJ₆⟩ := q
      refine ⟨n + 1 - (i + 1), by omega, i + 1, val₆, g₆, hlt, rfl, ?_, F₆, hJ₆, grA.trans' dmA S₆.gr, ?_, fun b o n1 n2 e => S₆.kb b o n2 (kbA b o n1 n2 e), dmA.trans S₆.dm⟩
      · exact T.frame _ _ _ _ _ st₅ (fun b o hb e => S₆.kb b o (fun hb' => hoo b hb' hb) e) S₆.gr.up F₆.st
      · obtain ⟨h₆, tk₆, rfl⟩ := S₆.same; exact ⟨h₆, tk₆, rfl⟩
    | ret v =>
      obtain ⟨g₆, S₆, hr⟩ := q
      refine ⟨g₆, finish (grA.trans' dmA S₆.gr) S₆.st ?_ (fun b o n1 n2 e => S₆.kb b o n2 (kbA b o n1 n2 e)) (dmA.trans S₆.dm), hr⟩
      obtain ⟨h₆, tk₆, rfl⟩ := S₆.same; exact ⟨h₆, tk₆, rfl⟩
    | brk => exact q.elim
    | cont => exact q.elim
  · have hin : i = n := by omega
    subst hin
    refine T.done { s with heap := h', toks := tk } g' _ _ st F'.st off fun h₄ tk₄ kg₄ kk₄ => ?_
    have F₄ : Fm env val' g' { s with heap := h₄, toks := tk₄ } := ⟨F'.lc.ext fun b o hb e => kk₄ b o (hoo b hb) e, kg₄, fun b hb => by
      obtain ⟨o, ho⟩ := Option.isSome_iff_exists.mp (F'.off b hb).2
      exact ⟨(F'.off b hb).1, by show (h₄.get? b).isSome; rw [kk₄ b o (hoo b hb) ho]; rfl⟩⟩
    refine wpAny_execs_nil ⟨val', g', F₄, ⟨gr₁.trans kk₁ gr, kg₄, ⟨h₄, tk₄, rfl⟩, fun b o nb e => kk₄ b o (fun hb => by rw [(hown₁ b hb).2.1] at e; cases e) (kb b o (fun hb => by rw [(hown₁ b hb).2.1] at e; cases e) nb (kk₁ b o e)), ?_⟩, hend _ _ (stays_trans gr₁.up gr.up) hJ⟩
    intro b e
    obtain ⟨o, ho⟩ := Option.isSome_iff_exists.mp e
    obtain ⟨o', ho'⟩ := Option.isSome_iff_exists.mp (dm b (by rw [kk₁ b o ho]; rfl))
    show (h₄.get? b).isSome
    rw [kk₄ b o' (fun hb => by rw [(hown₁ b hb).2.1] at ho; cases ho) ho']; rfl
end


/-! ## places that an expression may change -/
structure XZ where
  X : List Addr
  Z : Heap → Prop
  loc : ∀ h h' : Heap, (∀ b ∈ X, ∀ o, h.get? b = some o → h'.get? b = some o) → Z h → Z h'
  dom : ∀ h, Z h → ∀ b ∈ X, (h.get? b).isSome
noncomputable def KeepsX (z : XZ) (s s' : Shared) : Prop := ∃ h tk, s' = { s with heap := h, toks := tk } ∧ ∀ b o, b ∉ z.X → s.heap.get? b = some o → h.get? b = some o
noncomputable def PostX (z : XZ) (g : Heap) (s : Shared) (P : Value → Heap → Prop) (v : Value) (s' : Shared) : Prop :=
  ∃ g', P v g' ∧ Grow g s.heap g' ∧ g'.StaysIn s'.heap ∧ z.Z s'.heap ∧ KeepsX z s s'
noncomputable def EvX (M : Model) (A : Around) (z : XZ) (env : Env) (e : Expr) (I : Heap → Heap → Prop) (P : Value → Heap → Prop) : Prop :=
  ∀ (E : Value → Shared → Prop) (s : Shared) (g : Heap), I s.heap g → g.StaysIn s.heap → z.Z s.heap → (∀ b ∈ z.X, g.get? b = none) → wpAny M A (eval e env) (PostX z g s P) E s
noncomputable def MonoX (z : XZ) (I : Heap → Heap → Prop) : Prop := ∀ h h' g g' : Heap, (∀ b o, b ∉ z.X → h.get? b = some o → h'.get? b = some o) → g.StaysIn g' → I h g → I h' g'
theorem MonoX.mono2 {z : XZ} {I : Heap → Heap → Prop} (m : MonoX z I) : Mono2 I := fun h h' g g' k kg i => m h h' g g' (fun b o _ e => k b o e) kg i
theorem keepsX_of {z : XZ} {s s' : Shared} (k : Keeps s s') : KeepsX z s s' := let ⟨h, tk, e, q⟩ := k; ⟨h, tk, e, fun b o _ x => q b o x⟩
theorem KeepsX.dom {z : XZ} {s s' : Shared} (k : KeepsX z s s') (hz : z.Z s'.heap) : Dom s.heap s'.heap := by
  obtain ⟨h, tk, rfl, q⟩ := k
  exact .but q fun b hb _ => z.dom _ hz b hb
theorem keepsX_trans {z : XZ} {s s' s'' : Shared} (a : KeepsX z s s') (b : KeepsX z s' s'') : KeepsX z s s'' := by
  obtain ⟨h', tk, rfl, k⟩ := a
  obtain ⟨h'', tk', rfl, k'⟩ := b
  exact ⟨h'', tk', rfl, fun b o n e => k' b o n (k b o n e)⟩
theorem PostX.of {z : XZ} {g : Heap} {s s' : Shared} {P : Value → Heap → Prop} {v : Value} (hz : z.Z s.heap) (p : Post g s P v s') : PostX z g s P v s' := by
  obtain ⟨g', hp, gr, st, K⟩ := p
  exact ⟨g', hp, gr, st, z.loc _ _ (fun b _ o e => keeps_stays K b o e) hz, keepsX_of K⟩
theorem Ev.toX {M : Model} {A : Around} {z : XZ} {env : Env} {e : Expr} {I : Heap → Heap → Prop} {P : Value → Heap → Prop} (h : Ev M A env e I P) : EvX M A z env e I P :=
  fun E s g i k hz _ => wpAny_mono (h E s g i k) (fun v s' q => .of hz q) fun _ _ e => e
theorem xoff {z : XZ} {g g' h : Heap} (gr : Grow g h g') (hz : z.Z h) (x : ∀ b ∈ z.X, g.get? b = none) : ∀ b ∈ z.X, g'.get? b = none := fun b hb => by
  obtain ⟨o, ho⟩ := Option.isSome_iff_exists.mp (z.dom _ hz b hb)
  exact gr.off ho (x b hb)
theorem EvX.then {M : Model} {A : Around} {z : XZ} {env : Env} {e : Expr} {I : Heap → Heap → Prop} {P : Value → Heap → Prop} (hI : MonoX z I) (x : EvX M A z env e I P) {E : Value → Shared → Prop} {s : Shared} {g : Heap} {Q : Value → Shared → Prop}
    (i : I s.heap g) (k : g.StaysIn s.heap) (hz : z.Z s.heap) (hx : ∀ b ∈ z.X, g.get? b = none)
    (h : ∀ v s₁ g₁, P v g₁ → I s₁.heap g₁ → g₁.StaysIn s₁.heap → z.Z s₁.heap → (∀ b ∈ z.X, g₁.get? b = none) → Grow g s.heap g₁ → Dom s.heap s₁.heap → KeepsX z s s₁ → Q v s₁) : wpAny M A (eval e env) Q E s :=
  wpAny_mono (x E s g i k hz hx) (fun v s₁ q => by
    obtain ⟨g₁, hp, gr, st, hz₁, K⟩ := q
    have dm := K.dom hz₁
    refine h v s₁ g₁ hp (hI _ _ _ _ ?_ gr.up i) st hz₁ (xoff gr hz hx) gr dm K
    obtain ⟨h, tk, rfl, q⟩ := K; exact q) fun _ _ q => q

/-! ## the loop of a comprehension -/
structure FmC (z : XZ) (env : Env) (oc : List (Str × Addr)) (D : Addr) (val : Str → Option Value) (g : Heap) (ys : Array Value) (s : Shared) : Prop where
  lc : Lc env oc val s.heap
  st : g.StaysIn s.heap
  off : ∀ b ∈ ownA env oc, g.get? b = none ∧ (s.heap.get? b).isSome
  li : s.heap.PlainList D ys
  offD : g.get? D = none
  zz : z.Z s.heap
  xo : ∀ b ∈ z.X, g.get? b = none
structure StepC (Y : List Addr) (s : Shared) (g g' : Heap) (s' : Shared) : Prop where
  gr : Grow g s.heap g'
  same : ∃ h tk, s' = { s with heap := h, toks := tk }
  kb : ∀ b o, b ∉ Y → s.heap.get? b = some o → s'.heap.get? b = some o
  dm : Dom s.heap s'.heap
theorem StepC.refl {Y : List Addr} {s : Shared} {g : Heap} : StepC Y s g g s := ⟨.refl _ _, ⟨s.heap, s.toks, rfl⟩, fun _ _ _ e => e, Dom.refl _⟩
theorem StepC.trans {Y : List Addr} {s s₁ s₂ : Shared} {g g₁ g₂ : Heap} (a : StepC Y s g g₁ s₁) (b : StepC Y s₁ g₁ g₂ s₂) : StepC Y s g g₂ s₂ :=
  ⟨a.gr.trans' a.dm b.gr, by
    obtain ⟨h, tk, rfl⟩ := a.same
    obtain ⟨h', tk', rfl⟩ := b.same
    exact ⟨h', tk', rfl⟩, fun x o n e => b.kb x o n (a.kb x o n e), a.dm.trans b.dm⟩
theorem StepC.wide {Y Y' : List Addr} {s s' : Shared} {g g' : Heap} (a : StepC Y s g g' s') (h : ∀ b ∈ Y, b ∈ Y') : StepC Y' s g g' s' := ⟨a.gr, a.same, fun b o n e => a.kb b o (fun q => n (h b q)) e, a.dm⟩

section
variable {prog : Program} {w : World} {A : Around}
theorem loopX {elt : Expr} {gens : List Comprehension} {scope : Scope} {pos : Pos} {d : Nat} {target : Expr} {it : Value} {D : Addr} {own : List Addr} {n : Nat} {Pn : Nat → List (Str × Value) → Heap → Prop} {St : Nat → Heap → Heap → Prop} {env : Env} {oc : List (Str × Addr)} {z : XZ}
    (TL : (Value → Shared → Prop) → (Shared → Prop) → Shared → Prop)
    (hcode : ∀ (s : Shared) (E : Value → Shared → Prop) (Rr : Fin → Shared → Prop), wpAny (model prog w) A (pyNext it) (fun r s₁ => match r with
      | none => Rr (.done .next) s₁
      | some v => wpAny (model prog w) A (letOwnedTupleGo target it v) (fun _ s₁' => wpAny (model prog w) A (assign target env v) (fun _ s₂ => TL E (fun s' => Rr (.again (.compLoop (.ListComp elt gens scope pos) d it (.ref D) env)) s') s₂) E s₁') E s₁) E s →
      wpAny (model prog w) A (compTurn (.ListComp elt gens scope pos) d it (.ref D) env) Rr E s)
    (hk : env.scope.kind = .function) (ap : Apart env oc) (nD : D ∉ ownA env oc) (xn : ∀ b ∈ z.X, b ≠ D ∧ b ∉ ownA env oc)
    (hT : Turns prog w A target env it own n Pn St)
    (IB : Heap → Heap → Prop) (hIB : ∀ h h' g g', (∀ b o, b ≠ D → b ∉ own → b ∉ ownA env oc → b ∉ z.X → h.get? b = some o → h'.get? b = some o) → g.StaysIn g' → g'.StaysIn h' → IB h g → IB h' g')
    (J : Nat → (Str → Option Value) → Array Value → Heap → Prop) (mJ : ∀ i v ys g g', g.StaysIn g' → J i v ys g → J i v ys g')
    (hown : ∀ i bs g, Pn i bs g → ∀ x ∈ bs, Own env oc x.1)
    (turn : ∀ i val g ys bs s, i < n → J i val ys g → Pn i bs g → IB s.heap g → FmC z env oc D (updAll val bs) g ys s →
      ∀ (E : Value → Shared → Prop) (Q : Shared → Prop), (∀ val' g' ys' s', FmC z env oc D val' g' ys' s' → StepC (D :: (ownA env oc ++ z.X)) s g g' s' → J (i + 1) val' ys' g' → Q s') → TL E Q s)
    {s₀ : Shared} {g₀ : Heap} {val₀ : Str → Option Value} {ys₀ : Array Value} (F₀ : FmC z env oc D val₀ g₀ ys₀ s₀) (st₀ : St 0 s₀.heap g₀) (hI₀ : IB s₀.heap g₀) (hJ₀ : J 0 val₀ ys₀ g₀)
    (hoff : ∀ b ∈ own, g₀.get? b = none ∧ b ≠ D ∧ b ∉ ownA env oc ∧ b ∉ z.X ∧ (s₀.heap.get? b).isSome)
    {R : Result → Shared → Prop} (hend : ∀ val g ys s', FmC z env oc D val g ys s' → Grow g₀ s₀.heap g → (∃ h tk, s' = { s₀ with heap := h, toks := tk }) → (∀ b o, b ∉ D :: (own ++ ownA env oc ++ z.X) → s₀.heap.get? b = some o → s'.heap.get? b = some o) →
      (∀ b, b ∉ own → (s₀.heap.get? b).isSome → (s'.heap.get? b).isSome) → J n val ys g → R (.ok .next) s') :
    codeAny (model prog w) A (.compLoop (.ListComp elt gens scope pos) d it (.ref D) env) R s₀ := by
  refine codeAny_loop rfl (fun m s' => ∃ i val g ys, i ≤ n ∧ m = n + 1 - i ∧ St i s'.heap g ∧ FmC z env oc D val g ys s' ∧ IB s'.heap g ∧ J i val ys g ∧ StepC (D :: (own ++ ownA env oc ++ z.X)) s₀ g₀ g s') ?_ (n + 1)
    ⟨0, val₀, g₀, ys₀, Nat.zero_le _, rfl, st₀, F₀, hI₀, hJ₀, .refl⟩
  rintro m s' ⟨i, val, g, ys, hi, rfl, st, F, hI, hJ, S⟩
  show wpAny _ A ((compTurn (.ListComp elt gens scope pos) d it (.ref D) env).onRaise (fun x => do noteFrame x env; theTreesLotGoes x)) _ _ s'
  refine wpAny_noted (hcode _ _ _ ?_)
  have off : ∀ b ∈ own, g.get? b = none := fun b hb => by
    obtain ⟨o, ho⟩ := Option.isSome_iff_exists.mp (hoff b hb).2.2.2.2
    exact S.gr.off ho (hoff b hb).1
  have hoo : ∀ b ∈ ownA env oc, b ∉ own := fun b hb hb' => (hoff b hb').2.2.1 hb
  have hDo : D ∉ own := fun hb => (hoff D hb).2.1 rfl
  have hXo : ∀ b ∈ z.X, b ∉ own := fun b hb hb' => (hoff b hb').2.2.2.1 hb
  by_cases hlt : i < n
  · refine wpAny_mono (hT.turn i s' g (fun _ s₂ => TL (notedBy (model prog w) A env fun e s' => R (Except.error e) s') (fun s₃ => (Code.compLoop (.ListComp elt gens scope pos) d it (.ref D) env) = .compLoop (.ListComp elt gens scope pos) d it (.ref D) env ∧ ∃ m, m < n + 1 - i ∧
        ∃ i val g ys, i ≤ n ∧ m = n + 1 - i ∧ St i s₃.heap g ∧ FmC z env oc D val g ys s₃ ∧ IB s₃.heap g ∧ J i val ys g ∧ StepC (D :: (own ++ ownA env oc ++ z.X)) s₀ g₀ g s₃) s₂) _ hlt st F.st off ?_) (fun r s₁ q => ?_) fun _ _ e => e
    rotate_left
    · match r, q with
      | some v, q => exact q
    intro bs h₄ g₄ tk₄ hp st₄ gr₄ kg₄ kk₄ ho₄
    have dm₄ : Dom s'.heap h₄ := .but kk₄ fun b hb _ => ho₄ b hb
    have lc₄ : Lc env oc val h₄ := F.lc.ext fun b o hb e => kk₄ b o (hoo b hb) e
    have offC₄ : ∀ b ∈ ownA env oc, g₄.get? b = none ∧ (h₄.get? b).isSome := fun b hb => by
      obtain ⟨o, ho⟩ := Option.isSome_iff_exists.mp (F.off b hb).2
      exact ⟨gr₄.off ho (F.off b hb).1, by rw [kk₄ b o (hoo b hb) ho]; rfl⟩
    refine storeAll_own hk ap bs val _ lc₄ (hown i bs g₄ hp) fun h₅ tk₅ lc₅ kk₅ ho₅ => ?_
    have kg₅ : g₄.StaysIn h₅ := fun b o e => kk₅ b o (fun hb => by rw [(offC₄ b hb).1] at e; cases e) (kg₄ b o e)
    have dm₅ : Dom h₄ h₅ := .but kk₅ ho₅
    have st₅ : St (i + 1) h₅ g₄ := hT.frame _ _ _ _ _ st₄ (fun b o hb e => kk₅ b o (fun hb' => hoo b hb' hb) e) (stays_refl _) kg₅
    have kb₅ : ∀ b o, b ∉ own → b ∉ ownA env oc → s'.heap.get? b = some o → h₅.get? b = some o := fun b o n1 n2 e => kk₅ b o n2 (kk₄ b o n1 e)
    have li₅ : h₅.PlainList D ys := F.li.at fun o e => kb₅ D o hDo nD e
    have F₅ : FmC z env oc D (updAll val bs) g₄ ys { s' with heap := h₅, toks := tk₅ } :=
      ⟨lc₅, kg₅, fun b hb => ⟨(offC₄ b hb).1, ho₅ b hb (offC₄ b hb).2⟩, li₅, by obtain ⟨_, ho⟩ := F.li; exact gr₄.off ho F.offD,
        z.loc _ _ (fun b hb o e => kb₅ b o (hXo b hb) (xn b hb).2 e) F.zz, xoff gr₄ F.zz F.xo⟩
    have S₅ : StepC (D :: (own ++ ownA env oc ++ z.X)) s₀ g₀ g₄ { s' with heap := h₅, toks := tk₅ } :=
      S.trans ⟨gr₄, ⟨_, _, rfl⟩, fun b o nb e => kb₅ b o (fun q => nb (.tail _ (List.mem_append_left _ (List.mem_append_left _ q)))) (fun q => nb (.tail _ (List.mem_append_left _ (List.mem_append_right _ q)))) e, dm₄.trans dm₅⟩
    have hI₅ : IB h₅ g₄ := hIB _ _ _ _ (fun b o _ n1 n2 _ e => kb₅ b o n1 n2 e) gr₄.up kg₅ hI
    refine turn i val g₄ ys bs _ hlt (mJ _ _ _ _ _ gr₄.up hJ) hp hI₅ F₅ _ _ fun val₆ g₆ ys₆ s₆ F₆ S₆ hJ₆ => ⟨rfl, n + 1 - (i + 1), by omega, i + 1, val₆, g₆, ys₆, hlt, rfl, ?_, F₆, ?_, hJ₆, ?_⟩
    · exact hT.frame _ _ _ _ _ st₅ (fun b o hb e => S₆.kb b o (fun q => by
        rcases List.mem_cons.mp q with rfl | q
        · exact hDo hb
        · rcases List.mem_append.mp q with q | q
          · exact hoo b q hb
          · exact hXo b q hb) e) S₆.gr.up F₆.st
    · exact hIB _ _ _ _ (fun b o n0 n1 n2 n3 e => S₆.kb b o (fun q => by
        rcases List.mem_cons.mp q with rfl | q
        · exact n0 rfl
        · rcases List.mem_append.mp q with q | q
          · exact n2 q
          · exact n3 q) e) S₆.gr.up F₆.st hI₅
    · exact S₅.trans (S₆.wide fun b hb => by
        rcases List.mem_cons.mp hb with rfl | hb
        · exact .head _
        · rcases List.mem_append.mp hb with hb | hb
          · exact .tail _ (List.mem_append_left _ (List.mem_append_right _ hb))
          · exact .tail _ (List.mem_append_right _ hb))
  · have hin : i = n := by omega
    subst hin
    refine hT.done s' g _ _ st F.st off fun h₄ tk₄ kg₄ kk₄ => ?_
    have F₄ : FmC z env oc D val g ys { s' with heap := h₄, toks := tk₄ } :=
      ⟨F.lc.ext fun b o hb e => kk₄ b o (hoo b hb) e, kg₄, fun b hb => ⟨(F.off b hb).1, by
        obtain ⟨o, ho⟩ := Option.isSome_iff_exists.mp (F.off b hb).2
        show (h₄.get? b).isSome; rw [kk₄ b o (hoo b hb) ho]; rfl⟩, F.li.at fun o e => kk₄ D o hDo e, F.offD, z.loc _ _ (fun b hb o e => kk₄ b o (hXo b hb) e) F.zz, F.xo⟩
    refine hend val g ys _ F₄ S.gr ?_ (fun b o nb e => kk₄ b o (fun q => nb (.tail _ (List.mem_append_left _ (List.mem_append_left _ q)))) (S.kb b o nb e)) (fun b hb e => ?_) hJ
    · obtain ⟨h', tk', e⟩ := S.same
      subst e; exact ⟨h₄, tk₄, rfl⟩
    · obtain ⟨o, ho⟩ := Option.isSome_iff_exists.mp (S.dm b e)
      show (h₄.get? b).isSome
      rw [kk₄ b o hb ho]; rfl
end

/-- what stands behind the loop of a comprehension, before its frame goes -/
structure CompEnd (z : XZ) (s : Shared) (g : Heap) (PJ : Array Value → Heap → Prop) (D C : Addr) (s' : Shared) (g' : Heap) (ys : Array Value) : Prop where
  ns : ∃ m, s'.heap.Ns C m
  ne : D ≠ C
  c0 : s.heap.get? C = none
  c1 : g'.get? C = none
  d0 : s.heap.get? D = none
  d1 : g'.get? D = none
  li : s'.heap.PlainList D ys
  pj : PJ ys g'
  st : g'.StaysIn s'.heap
  gr : Grow g s.heap g'
  same : ∃ h tk, s' = { s with heap := h, toks := tk }
  kb : ∀ b o, b ∉ z.X → s.heap.get? b = some o → s'.heap.get? b = some o
  zz : z.Z s'.heap
  xn : ∀ b ∈ z.X, b ≠ D ∧ b ≠ C
noncomputable def GenComp (M : Model) (A : Around) (z : XZ) (env : Env) (elt : Expr) (gens : List Comprehension) (scope : Scope) (pos : Pos) (I : Heap → Heap → Prop) (PJ : Array Value → Heap → Prop) : Prop :=
  ∀ (use : Option (Value → Sem Unit)) (E : Value → Shared → Prop) (s : Shared) (g : Heap) (Qp : Value → Shared → Prop), I s.heap g → g.StaysIn s.heap → z.Z s.heap → (∀ b ∈ z.X, g.get? b = none) →
    (∀ D C s' g' ys, CompEnd z s g PJ D C s' g' ys → compPost M A E use Qp (.ref D) C (.ok .next) s') →
    wpAny M A (comprehension (.ListComp elt gens scope pos) scope env (firstIterPos gens pos) (newList []) (firstAsync gens) (firstIter gens env) use) Qp E s
section
variable {prog : Program} {w : World} {A : Around} {env : Env} {I : Heap → Heap → Prop} {z : XZ}
theorem gen_compG {elt iter target : Expr} {ifs : List Expr} {rest : List Comprehension} {scope : Scope} {pos : Pos} {cl : List (Str × Addr)} {n : Nat} {Pn : Nat → List (Str × Value) → Heap → Prop}
    (TL : Addr → Env → (Value → Shared → Prop) → (Shared → Prop) → Shared → Prop)
    (hcode : ∀ (D : Addr) (it : Value) (env : Env) (s : Shared) (E : Value → Shared → Prop) (Rr : Fin → Shared → Prop), wpAny (model prog w) A (pyNext it) (fun r s₁ => match r with
      | none => Rr (.done .next) s₁
      | some v => wpAny (model prog w) A (letOwnedTupleGo target it v) (fun _ s₁' => wpAny (model prog w) A (assign target env v) (fun _ s₂ => TL D env E (fun s' => Rr (.again (.compLoop (.ListComp elt (⟨target, iter, ifs, 0⟩ :: rest) scope pos) 0 it (.ref D) env)) s') s₂) E s₁') E s₁) E s →
      wpAny (model prog w) A (compTurn (.ListComp elt (⟨target, iter, ifs, 0⟩ :: rest) scope pos) 0 it (.ref D) env) Rr E s)
    (hI : MonoX z I) (hclos : closureFor scope env = pure cl) (hkind : scope.kind = .function)
    (hnames : ∀ y ∈ scope.names, y.2 = .local → scope.names.lookup y.1 = some .local) (hs : ∀ x, foldedSetIterable iter env x = pure x)
    (hsrc : Source prog w A env iter target I n Pn)
    (hown : ∀ C i bs g, Pn i bs g → ∀ x ∈ bs, Own (ccEnv scope cl C env) (ccOwn scope C) x.1)
    (J : Nat → (Str → Option Value) → Array Value → Heap → Prop) (mJ : ∀ i v ys g g', g.StaysIn g' → J i v ys g → J i v ys g') (hJ0 : ∀ g, J 0 (fun _ => none) #[] g)
    (htail : ∀ C D i val g ys bs s, Apart (ccEnv scope cl C env) (ccOwn scope C) → D ∉ ownA (ccEnv scope cl C env) (ccOwn scope C) → (∀ b ∈ z.X, b ≠ D ∧ b ∉ ownA (ccEnv scope cl C env) (ccOwn scope C)) → i < n → J i val ys g → Pn i bs g → (∀ h' g', (∀ b o, b ∉ D :: (ownA (ccEnv scope cl C env) (ccOwn scope C) ++ z.X) → s.heap.get? b = some o → h'.get? b = some o) → g.StaysIn g' → I h' g') → FmC z (ccEnv scope cl C env) (ccOwn scope C) D (updAll val bs) g ys s →
      ∀ (E : Value → Shared → Prop) (Q : Shared → Prop), (∀ val' g' ys' s', FmC z (ccEnv scope cl C env) (ccOwn scope C) D val' g' ys' s' → StepC (D :: (ownA (ccEnv scope cl C env) (ccOwn scope C) ++ z.X)) s g g' s' → J (i + 1) val' ys' g' → Q s') → TL D (ccEnv scope cl C env) E Q s) :
    GenComp (model prog w) A z env elt (⟨target, iter, ifs, 0⟩ :: rest) scope pos I (fun its h => ∃ val, J n val its h) := by
  intro use E s g Qp i k hz hx hfin
  refine wpAny_comprehension_free (use := use) rfl hs hclos hkind hnames (hsrc E s g _ i k ?_)
  intro it own h₁ g₁ tk₁ St hT st₁ gr₁ k₁ kk₁ hown₁
  refine wpAny_newObj_type (newCompEnv ?_)
  -- the heap behind the making
  generalize hH : h₁.push { cls := .type "list", data := .seq ([] : List Value).toArray } = H
  have hD : H.get? h₁.objs.size = some { cls := .type "list", data := .seq #[] } := by rw [← hH]; exact get_push_new rfl
  have k₂ : h₁.StaysIn H := by rw [← hH]; exact stays_push
  have hHs : H.objs.size = h₁.objs.size + 1 := by rw [← hH]; exact Heap.size_push ..
  obtain ⟨lc, ap, k₃, hC⟩ := comp_frame (env := env) (scope := scope) (cl := cl) H
  dsimp only
  generalize hh₃ : pushCells (H.push { cls := .type "dict", data := .dict #[] }) scope.names = h₃ at lc k₃ hC
  generalize hCe : H.objs.size = C at lc ap hC
  have hgt : ∀ b, h₁.objs.size ≤ b → h₁.get? b = none := fun b hb => by
    cases e : h₁.get? b with
    | none => rfl
    | some o => exact absurd (Heap.lt_size e) (Nat.not_lt.mpr hb)
  have hCn : ∀ b ∈ ownA (ccEnv scope cl C env) (ccOwn scope C), h₁.get? b = none ∧ b ≠ h₁.objs.size := fun b hb => by
    have h1 : h₁.objs.size + 1 ≤ b := by rw [← hHs, hCe]; exact (hC b hb).1
    exact ⟨hgt b (Nat.le_of_succ_le h1), Nat.ne_of_gt h1⟩
  have hDn := hgt h₁.objs.size (Nat.le_refl _)
  generalize hDe : h₁.objs.size = D at hCn hDn hD
  have hDo : D ∉ own := fun hb => by have := (hown₁ _ hb).2.2; rw [hDn] at this; cases this
  have hCo : ∀ b ∈ ownA (ccEnv scope cl C env) (ccOwn scope C), b ∉ own := fun b hb hb' => by have := (hown₁ _ hb').2.2; rw [(hCn b hb).1] at this; cases this
  have hkf : (ccEnv scope cl C env).scope.kind = .function := hkind
  have k₁₃ : h₁.StaysIn h₃ := stays_trans k₂ k₃
  have hX : ∀ b ∈ z.X, ∃ o, s.heap.get? b = some o := fun b hb => Option.isSome_iff_exists.mp (z.dom _ hz b hb)
  have hXD : ∀ b ∈ z.X, b ≠ D ∧ b ∉ ownA (ccEnv scope cl C env) (ccOwn scope C) := fun b hb => by
    obtain ⟨o, ho⟩ := hX b hb
    have h2 := kk₁ b o ho
    refine ⟨fun q => ?_, fun q => ?_⟩
    · rw [q, hDn] at h2; cases h2
    · rw [(hCn b q).1] at h2; cases h2
  have nD : D ∉ ownA (ccEnv scope cl C env) (ccOwn scope C) := fun q => (hCn D q).2 rfl
  have kk₃ : s.heap.StaysIn h₃ := stays_trans kk₁ k₁₃
  have hz₃ : z.Z h₃ := z.loc _ _ (fun b _ o e => kk₃ b o e) hz
  have hx₁ : ∀ b ∈ z.X, g₁.get? b = none := xoff gr₁ hz hx
  have F₀ : FmC z (ccEnv scope cl C env) (ccOwn scope C) D (fun _ => none) g₁ #[] { s with heap := h₃, toks := tk₁ } :=
    ⟨lc, stays_trans k₁ k₁₃, fun b hb => ⟨none_of_stays k₁ (hCn b hb).1, (hC b hb).2⟩, ⟨_, k₃ _ _ hD⟩, none_of_stays k₁ hDn, hz₃, hx₁⟩
  have st₃ : St 0 h₃ g₁ := (hT (ccEnv scope cl C env)).frame _ _ _ _ _ st₁ (fun b o _ e => k₁₃ b o e) (stays_refl _) (stays_trans k₁ k₁₃)
  have loop : codeAny (model prog w) A (.compLoop (.ListComp elt (⟨target, iter, ifs, 0⟩ :: rest) scope pos) 0 it (.ref D) (ccEnv scope cl C env))
      (compPost (model prog w) A E use Qp (.ref D) C) { s with heap := h₃, toks := tk₁ } := by
    refine loopX (TL D (ccEnv scope cl C env)) (hcode D it _) hkf ap nD hXD (hT _) (fun h g' => (∀ b o, b ∉ z.X → s.heap.get? b = some o → h.get? b = some o) ∧ g₁.StaysIn g') ?_ J mJ (hown C) ?_ F₀ st₃ ⟨fun b o _ e => kk₃ b o e, stays_refl _⟩ (hJ0 _) ?_ ?_
    · rintro h h' g' g'' kb kg kh ⟨a, b⟩
      refine ⟨fun c o n e => kb c o (fun q => ?_) (fun q => ?_) (fun q => ?_) n (a c o n e), stays_trans b kg⟩
      · rw [q, none_of_stays kk₁ hDn] at e; cases e
      · rw [(hown₁ c q).2.1] at e; cases e
      · rw [none_of_stays kk₁ (hCn c q).1] at e; cases e
    · intro j val g' ys bs s' hj hJ hp hIB F' E' Q hQ
      refine htail C D j val g' ys bs s' ap nD hXD hj hJ hp (fun h'' g'' kb kg => hI _ _ _ _ (fun b o nb e => kb b o (fun q => ?_) (hIB.1 b o nb e)) (stays_trans gr₁.up (stays_trans hIB.2 kg)) i) F' E' Q hQ
      rcases List.mem_cons.mp q with rfl | q
      · rw [none_of_stays kk₁ hDn] at e; cases e
      · rcases List.mem_append.mp q with q | q
        · rw [none_of_stays kk₁ (hCn b q).1] at e; cases e
        · exact nb q
    · intro b hb
      refine ⟨(hown₁ b hb).1, fun q => hDo (q ▸ hb), fun q => hCo b q hb, fun q => ?_, ?_⟩
      · obtain ⟨o, ho⟩ := hX b q
        rw [(hown₁ b hb).2.1] at ho; cases ho
      · obtain ⟨o, ho⟩ := Option.isSome_iff_exists.mp (hown₁ b hb).2.2
        show (h₃.get? b).isSome
        rw [k₁₃ b o ho]; rfl
    · intro val g' ys s' F' gr sm kb dm hJ
      obtain ⟨mm, hns, _⟩ := F'.lc.ns
      obtain ⟨h', tk', rfl⟩ := sm
      refine hfin D C _ g' ys ⟨⟨mm, hns⟩, fun q => (hCn C (.head _)).2 q.symm, none_of_stays kk₁ (hCn C (.head _)).1, (F'.off C (.head _)).1, none_of_stays kk₁ hDn, F'.offD, F'.li, ⟨val, hJ⟩, F'.st, gr₁.trans kk₃ gr, ⟨h', tk', rfl⟩, fun b o nb e => kb b o (fun hb => ?_) (kk₃ b o e), F'.zz, fun b hb => ⟨(hXD b hb).1, fun q => (hXD b hb).2 (q ▸ .head _)⟩⟩
      rcases List.mem_cons.mp hb with rfl | hb
      · rw [none_of_stays kk₁ hDn] at e; cases e
      · rcases List.mem_append.mp hb with hb | hb
        · rcases List.mem_append.mp hb with hb | hb
          · rw [(hown₁ b hb).2.1] at e; cases e
          · rw [none_of_stays kk₁ (hCn b hb).1] at e; cases e
        · exact nb hb
  exact codeAny_compStart_list loop ((hT (ccEnv scope cl C env)).self 0 _ g₁ _ _ st₃ loop)

theorem GenComp.imp {elt : Expr} {gens : List Comprehension} {scope : Scope} {pos : Pos} {PJ PJ' : Array Value → Heap → Prop} (h : GenComp (model prog w) A z env elt gens scope pos I PJ) (f : ∀ ys g, PJ ys g → PJ' ys g) : GenComp (model prog w) A z env elt gens scope pos I PJ' :=
  fun use E s g Qp i k hz hx hfin => h use E s g Qp i k hz hx fun D C s' g' ys c => hfin D C s' g' ys ⟨c.ns, c.ne, c.c0, c.c1, c.d0, c.d1, c.li, f _ _ c.pj, c.st, c.gr, c.same, c.kb, c.zz, c.xn⟩
/-- as an expression -/
theorem GenComp.evx {elt : Expr} {gens : List Comprehension} {scope : Scope} {pos : Pos} {PJ : Array Value → Heap → Prop} (mP : ∀ ys g g', g.StaysIn g' → PJ ys g → PJ ys g') (h : GenComp (model prog w) A z env elt gens scope pos I PJ) :
    EvX (model prog w) A z env (.ListComp elt gens scope pos) I (fun v h => ∃ a its, v = .ref a ∧ h.IsList a its ∧ PJ its h) := by
  intro E s g i k hz hx
  rw [eval_ListComp]
  refine h none E s g _ i k hz hx fun D C s' g' ys c => ?_
  obtain ⟨mm, hns⟩ := c.ns
  refine ⟨mm, hns, fun h₅ hs₅ => ?_⟩
  obtain ⟨o5, hl₅⟩ := c.li.at fun o e => hs₅.extBut _ o c.ne e
  have kg₅ : g'.StaysIn h₅ := fun b o e => hs₅.extBut b o (fun q => by rw [q, c.c1] at e; cases e) (c.st b o e)
  obtain ⟨g₆, gr₆, k₆, e₆⟩ := grow_one (h := s.heap) kg₅ c.d0 hl₅
  obtain ⟨h', tk', rfl⟩ := c.same
  refine ⟨g₆, ⟨_, ys, rfl, ⟨_, e₆, rfl, _, rfl⟩, mP _ _ _ gr₆.up c.pj⟩, ⟨stays_trans c.gr.up gr₆.up, fun b o e => ?_⟩, k₆, z.loc _ _ (fun b hb o e => hs₅.extBut b o (c.xn b hb).2 e) c.zz, h₅, tk', rfl, fun b o nb e => ?_⟩
  · rcases gr₆.new b o e with e' | e'
    · exact c.gr.new b o e'
    · exact .inr e'
  · exact hs₅.extBut b o (fun q => by rw [q, c.c0] at e; cases e) (c.kb b o nb e)

noncomputable def z0 : XZ := ⟨[], fun _ => True, fun _ _ _ _ => trivial, fun _ _ _ h => nomatch h⟩
theorem EvX.plain {e : Expr} {P : Value → Heap → Prop} (h : EvX (model prog w) A z0 env e I P) : Ev (model prog w) A env e I P := fun E s g i k =>
  wpAny_mono (h E s g i k trivial (fun _ h => nomatch h)) (fun v s' q => by obtain ⟨g', hp, gr, st, _, h', tk, e, kk⟩ := q; exact ⟨g', hp, gr, st, h', tk, e, fun b o x => kk b o (fun h => nomatch h) x⟩) fun _ _ e => e
theorem mono0 (hI : Mono2 I) : MonoX z0 I := fun h h' g g' k kg i => hI _ _ _ _ (fun b o e => k b o (fun h => nomatch h) e) kg i

/-- as the value of a local name -/
theorem GenComp.stored {elt : Expr} {gens : List Comprehension} {scope : Scope} {pos py spos : Pos} {y : Str} {PJ : Array Value → Heap → Prop} {val : Str → Option Value} {g : Heap} {Qr : Value → Heap → Prop} (mP : ∀ ys g g', g.StaysIn g' → PJ ys g → PJ ys g')
    (hk : env.scope.kind = .function) (ap : Apart env env.cells) (oy : Own env env.cells y) (h : GenComp (model prog w) A z0 env elt gens scope pos (Cx env val g) PJ)
    (hsw : swapsWith (.ListComp elt gens scope pos) (some (.Name y py)) spos.line env = pure true) :
    Sx (model prog w) A env (.Assign [.Name y py] (.ListComp elt gens scope pos) spos) val g (fun val' g' => ∃ a its, val' = upd val y (.ref a) ∧ g'.IsList a its ∧ PJ its g') Qr := by
  intro E s F
  rw [exec_Assign_Name_used _ _ _ _ hsw]
  refine wpAny_bind (wpAny_standAt (wpAny_bind ?_))
  show wpAny _ A (do let _ ← comprehension (.ListComp elt gens scope pos) scope env (firstIterPos gens pos) (newList []) (firstAsync gens) (firstIter gens env) (some (assign (.Name y py) env))) _ _ s
  refine wpAny_bind (wpAny_mono (h (some (assign (.Name y py) env)) E s g (fun _ s' => FlowQ env s g (fun val' g' => ∃ a its, val' = upd val y (.ref a) ∧ g'.IsList a its ∧ PJ its g') Qr .next s') ⟨F.lc, stays_refl _⟩ F.st trivial (fun _ h => nomatch h) fun D C s' g' ys c => ?_) (fun _ s' hq => wpAny_pure (wpAny_pure hq)) fun _ _ e => e)
  show wpAny _ A (assign (.Name y py) env (.ref D)) _ _ _
  have own : ∀ b ∈ ownA env env.cells, ∃ o, s.heap.get? b = some o := fun b hb => Option.isSome_iff_exists.mp (F.off b hb).2
  have nC : C ∉ ownA env env.cells := fun hb => by obtain ⟨o, ho⟩ := own C hb; rw [c.c0] at ho; cases ho
  have nD : D ∉ ownA env env.cells := fun hb => by obtain ⟨o, ho⟩ := own D hb; rw [c.d0] at ho; cases ho
  have kb : s.heap.StaysIn s'.heap := fun b o e => c.kb b o (fun h => nomatch h) e
  refine wpAny_assign_Name (store_own hk ap (F.lc.mono kb) oy fun h₂ tk₂ lc₂ kk₂ mm₂ => ?_)
  obtain ⟨mm, ons, es, ep, hns, r⟩ := c.ns
  refine ⟨mm, ⟨ons, es, ep, kk₂ C _ nC hns, r⟩, fun h₅ hs₅ => ?_⟩
  have kk₅ : ∀ b o, b ∉ ownA env env.cells → b ≠ C → s'.heap.get? b = some o → h₅.get? b = some o := fun b o n1 n2 e => hs₅.extBut b o n2 (kk₂ b o n1 e)
  obtain ⟨o5, hl₅⟩ := c.li.at fun o e => kk₅ D o nD c.ne e
  have off : ∀ b ∈ ownA env env.cells, g'.get? b = none := fun b hb => by
    obtain ⟨o, ho⟩ := own b hb
    exact c.gr.off ho (F.off b hb).1
  have kg₅ : g'.StaysIn h₅ := fun b o e => kk₅ b o (fun hb => by rw [off b hb] at e; cases e) (fun q => by rw [q, c.c1] at e; cases e) (c.st b o e)
  obtain ⟨g₆, gr₆, k₆, e₆⟩ := grow_one (h := s.heap) kg₅ c.d0 hl₅
  obtain ⟨h', tk', rfl⟩ := c.same
  have neC : ∀ b ∈ ownA env env.cells, b ≠ C := fun b hb q => nC (q ▸ hb)
  have gr₇ : Grow g s.heap g₆ := ⟨stays_trans c.gr.up gr₆.up, fun b o e => (gr₆.new b o e).elim (fun e' => c.gr.new b o e') .inr⟩
  have al : ∀ b ∈ ownA env env.cells, (h₅.get? b).isSome := fun b hb => by
    obtain ⟨o, ho⟩ := own b hb
    obtain ⟨o', ho'⟩ := Option.isSome_iff_exists.mp (mm₂ b hb (by rw [kb b o ho]; rfl))
    rw [hs₅.extBut b o' (neC b hb) ho']; rfl
  refine ⟨_, g₆, ⟨lc₂.ext fun b o hb e => hs₅.extBut b o (neC b hb) e, k₆, fun b hb => ⟨?_, al b hb⟩⟩, ⟨gr₇, k₆, ⟨h₅, tk₂, rfl⟩, fun b o nb e => kk₅ b o nb (fun q => by rw [q, c.c0] at e; cases e) (kb b o e), .but (S := ownA env env.cells) (fun b o nb e => kk₅ b o nb (fun q => by rw [q, c.c0] at e; cases e) (kb b o e)) fun b hb _ => al b hb⟩, D, ys, rfl, ⟨_, e₆, rfl, _, rfl⟩, mP _ _ _ gr₆.up c.pj⟩
  obtain ⟨o, ho⟩ := own b hb
  exact gr₇.off ho (F.off b hb).1
end

/-- the facts within a comprehension's turn -/
noncomputable def Ct (scope : Scope) (cl : List (Str × Addr)) (C : Addr) (env : Env) (I : Heap → Heap → Prop) (F : Heap → Prop) (val : Str → Option Value) : Heap → Heap → Prop :=
  fun h g => I h g ∧ (∃ g₀ : Heap, g₀.StaysIn g ∧ F g₀) ∧ Lc (ccEnv scope cl C env) (ccOwn scope C) val h

section
variable {prog : Program} {w : World} {A : Around} {env : Env} {I : Heap → Heap → Prop} {z : XZ}
theorem fmc_evx {env : Env} {oc : List (Str × Addr)} {D : Addr} {val : Str → Option Value} {g : Heap} {ys : Array Value} {s : Shared} {e : Expr} {IC : Heap → Heap → Prop} {P : Value → Heap → Prop}
    (F : FmC z env oc D val g ys s) (nD : D ∉ ownA env oc) (xn : ∀ b ∈ z.X, b ≠ D ∧ b ∉ ownA env oc) (he : EvX (model prog w) A z env e IC P) (hi : IC s.heap g) {E : Value → Shared → Prop} {Q : Value → Shared → Prop}
    (h : ∀ v g' s', P v g' → FmC z env oc D val g' ys s' → StepC (D :: (ownA env oc ++ z.X)) s g g' s' → Q v s') : wpAny (model prog w) A (eval e env) Q E s := by
  refine wpAny_mono (he E s g hi F.st F.zz F.xo) (fun v s' q => ?_) fun _ _ e => e
  obtain ⟨g', hp, gr, st, hz, K⟩ := q
  have dm := K.dom hz
  obtain ⟨h', tk, rfl, kk⟩ := K
  have nX : ∀ b ∈ ownA env oc, b ∉ z.X := fun b hb q => (xn b q).2 hb
  refine h v g' _ hp ⟨F.lc.ext fun b o hb e => kk b o (nX b hb) e, st, fun b hb => ?_, F.li.at fun o e => kk D o (fun q => (xn D q).1 rfl) e, ?_, hz, xoff gr F.zz F.xo⟩ ⟨gr, ⟨h', tk, rfl⟩, fun b o nb e => kk b o (fun q => nb (.tail _ (List.mem_append_right _ q))) e, dm⟩
  · obtain ⟨o, ho⟩ := Option.isSome_iff_exists.mp (F.off b hb).2
    exact ⟨gr.off ho (F.off b hb).1, by show (h'.get? b).isSome; rw [kk b o (nX b hb) ho]; rfl⟩
  · obtain ⟨_, ho⟩ := F.li; exact gr.off ho F.offD
theorem fmc_append {env : Env} {oc : List (Str × Addr)} {D : Addr} {val : Str → Option Value} {g : Heap} {ys : Array Value} {s : Shared} (F : FmC z env oc D val g ys s) (nD : D ∉ ownA env oc) (xn : ∀ b ∈ z.X, b ≠ D ∧ b ∉ ownA env oc) (hsz : ys.size ≤ sizeLine) {x : Value} {E : Value → Shared → Prop} {Q : Value → Shared → Prop}
    (h : ∀ s', FmC z env oc D val g (ys.push x) s' → StepC (D :: (ownA env oc ++ z.X)) s g g s' → Q .none s') : wpAny (model prog w) A (call (.builtin "list.append") [.ref D, x]) Q E s := by
  refine wpAny_list_append_plain F.li (fun h₇ hl₇ hs₇ => ?_) hsz
  have kk : ∀ b o, b ≠ D → s.heap.get? b = some o → h₇.get? b = some o := fun b o n e => hs₇.extBut b o n e
  have ne : ∀ b ∈ ownA env oc, b ≠ D := fun b hb q => nD (q ▸ hb)
  refine h _ ⟨F.lc.ext fun b o hb e => kk b o (ne b hb) e, fun b o e => kk b o (fun q => by rw [q, F.offD] at e; cases e) (F.st b o e), fun b hb => ⟨(F.off b hb).1, ?_⟩, hl₇, F.offD, z.loc _ _ (fun b hb o e => kk b o (xn b hb).1 e) F.zz, F.xo⟩
    ⟨.refl _ _, ⟨h₇, s.toks, rfl⟩, fun b o nb e => kk b o (fun q => nb (q ▸ .head _)) e, .but (S := [D]) (fun b o nb e => kk b o (fun q => nb (q ▸ .head _)) e) fun b hb _ => ?_⟩
  · obtain ⟨o, ho⟩ := Option.isSome_iff_exists.mp (F.off b hb).2
    show (h₇.get? b).isSome
    rw [kk b o (ne b hb) ho]; rfl
  · rw [List.mem_singleton.mp hb]; obtain ⟨_, e⟩ := hl₇; rw [e]; rfl

theorem emit_code {elt target iter : Expr} {scope : Scope} {pos : Pos} (D : Addr) (it : Value) (env : Env) (s : Shared) (E : Value → Shared → Prop) (Rr : Fin → Shared → Prop) (h : wpAny (model prog w) A (pyNext it) (fun r s₁ => match r with
      | none => Rr (.done .next) s₁
      | some v => wpAny (model prog w) A (letOwnedTupleGo target it v) (fun _ s₁' => wpAny (model prog w) A (assign target env v) (fun _ s₂ => wpAny (model prog w) A (eval elt env) (fun x s₄ => wpAny (model prog w) A (call (.builtin "list.append") [.ref D, x]) (fun _ s₅ => Rr (.again (.compLoop (.ListComp elt [⟨target, iter, [], 0⟩] scope pos) 0 it (.ref D) env)) s₅) E s₄) E s₂) E s₁') E s₁) E s) :
      wpAny (model prog w) A (compTurn (.ListComp elt [⟨target, iter, [], 0⟩] scope pos) 0 it (.ref D) env) Rr E s := by
      rw [compTurn_list]
      refine wpAny_bind (wpAny_standAt (wpAny_bind (wpAny_mono h (fun r s₁ h₁ => ?_) fun _ _ e => e)))
      cases r with
      | none => exact wpAny_pure h₁
      | some v =>
        refine wpAny_bind (wpAny_mono h₁ (fun _ s₁' h₁' => wpAny_bind (wpAny_mono h₁' (fun _ s₂ h₂ => ?_) fun _ _ e => e)) fun _ _ e => e)
        refine wpAny_bind (wpAny_tests_nil ?_)
        show wpAny _ _ (do let _ ← (do let _ ← call (.builtin "list.append") [.ref D, ← eval elt env]); again _) _ _ _
        exact wpAny_bind (wpAny_bind (wpAny_mono h₂ (fun x s₄ h₄ => wpAny_bind (wpAny_mono h₄ (fun _ s₅ h₅ => wpAny_pure (wpAny_pure h₅)) fun _ _ e => e)) fun _ _ e => e))
theorem ev_comp {elt iter target : Expr} {scope : Scope} {pos : Pos} {cl : List (Str × Addr)} {n : Nat} {Pn : Nat → List (Str × Value) → Heap → Prop} {R : Nat → Value → Heap → Prop}
    (hI : Mono2 I) (mR : ∀ j, MonoV (R j)) (hsz : n ≤ sizeLine) (hclos : closureFor scope env = pure cl) (hkind : scope.kind = .function)
    (hnames : ∀ y ∈ scope.names, y.2 = .local → scope.names.lookup y.1 = some .local) (hs : ∀ x, foldedSetIterable iter env x = pure x)
    (hsrc : Source prog w A env iter target I n Pn)
    (hown : ∀ C i bs g, Pn i bs g → ∀ x ∈ bs, Own (ccEnv scope cl C env) (ccOwn scope C) x.1)
    (helt : ∀ C i bs val, i < n → Ev (model prog w) A (ccEnv scope cl C env) elt (fun h g => I h g ∧ (∃ g₀ : Heap, g₀.StaysIn g ∧ Pn i bs g₀) ∧ Lc (ccEnv scope cl C env) (ccOwn scope C) (updAll val bs) h) (R i)) :
    Ev (model prog w) A env (.ListComp elt [⟨target, iter, [], 0⟩] scope pos) I (CompV n R) := by
  have base := gen_compG (A := A) (prog := prog) (w := w) (pos := pos) (elt := elt) (ifs := []) (rest := []) (env := env) (z := z0) (I := I)
    (fun D env E Q s => wpAny (model prog w) A (eval elt env) (fun x s₄ => wpAny (model prog w) A (call (.builtin "list.append") [.ref D, x]) (fun _ s₅ => Q s₅) E s₄) E s)
    emit_code
    (mono0 hI) hclos hkind hnames hs hsrc hown (fun i val ys g => ys.size = i ∧ ∀ (j : Nat) u, ys[j]? = some u → R j u g)
    (fun i v ys g g' k c => ⟨c.1, fun j u e => mR _ _ _ _ k (c.2 j u e)⟩) (fun g => ⟨rfl, fun j u e => by simp at e⟩)
    (fun C D i val g ys bs s ap nD xn hi hL hp hIs F E Q hQ => by
      refine fmc_evx F nD xn ((helt C i bs val hi).toX (z := z0)) ⟨hIs _ _ (fun b o _ e => e) (stays_refl _), ⟨g, stays_refl _, hp⟩, F.lc⟩ fun v g₁ s₁ hv F₁ S₁ => ?_
      refine fmc_append F₁ nD xn (by rw [hL.1]; omega) fun s₂ F₂ S₂ => hQ _ _ _ _ F₂ (S₁.trans S₂) ⟨by rw [Array.size_push, hL.1], fun j u e => ?_⟩
      rw [Array.getElem?_push] at e
      split at e
      · rename_i hj
        cases e
        rw [hj, hL.1]; exact hv
      · exact mR _ _ _ _ S₁.gr.up (hL.2 j u e))
  refine (EvX.plain (base.evx fun ys g g' k c => ?_)).conseq fun v h c => ?_
  · obtain ⟨v, a, b⟩ := c
    exact ⟨v, a, fun j u e => mR _ _ _ _ k (b j u e)⟩
  · obtain ⟨a, its, e, hl, val, h1, h2⟩ := c
    exact ⟨a, its, e, hl, h1, h2⟩
end


/-! ## a def -/
noncomputable def valOf (env : Env) (binds : List (Str × Value)) : Str → Option Value := fun n => if env.kindOf n = some .local then bindL env.kindOf binds (fun _ => none) n else bindC env.kindOf binds (fun _ => none) n

theorem cellsFrom_fst : ∀ (names : List (Str × NameKind)) (n k : Nat) (acc acc' : List (Str × Addr)), acc.map (·.1) = acc'.map (·.1) → (cellsFrom n names acc).map (·.1) = (cellsFrom k names acc').map (·.1)
  | [], _, _, _, _, e => e
  | (name, kind) :: r, n, k, acc, acc', e => by
    unfold cellsFrom
    split
    · exact cellsFrom_fst r (n + 1) (k + 1) _ _ (by rw [List.map_cons, List.map_cons, e])
    · exact cellsFrom_fst r n k acc acc' e
theorem lookup_of_nodup : ∀ (l : List (Str × Addr)) (n : Str) (c : Addr), (l.map (·.1)).Nodup → (n, c) ∈ l → l.lookup n = some c
  | [], n, c, _, h => nomatch h
  | (a, b) :: r, n, c, nd, h => by
    rw [List.map_cons, List.nodup_cons] at nd
    rw [List.lookup_cons]
    rcases List.mem_cons.mp h with e | h
    · cases e; simp
    · have hne : (n == a) = false := by
        cases q : n == a with
        | false => rfl
        | true => exact absurd (List.mem_map.mpr ⟨(n, c), h, beq_iff_eq.mp q⟩) nd.1
      rw [hne]
      exact lookup_of_nodup r n c nd.2 h

section
variable {prog : Program} {w : World} {A : Around}
theorem cd_def {n : Nat} {fa : Addr} {vs : List Value} {I : Heap → Prop} {P : Value → Heap → Prop} {name qual : Str} {params : Arguments} {body : List Stmt} {scope : Scope} {dV kV doc pm cdv ct oc : Value} {an od : Option Addr} {osl : Array (Option Value)} {binds : List (Str × Value)}
    (r : Room A (n + 1)) (hB : ∀ g, I g → Bs w g)
    (ho : (hd.heap_39 w.params).lookup fa = some ⟨oc, od, .func (fnOf name qual params body scope dV kV doc pm an cdv ct), osl⟩) (hcd : codeIn (hd.heap_39 w.params) cdv qual = true)
    (hbind : bindArgs (fnOf name qual params body scope dV kV doc pm an cdv ct) ⟨vs, []⟩ = pure binds)
    (hkind : (binds.all fun y => scope.names.lookup y.1 == some .local || scope.names.lookup y.1 == some .cell) = true)
    (hnd : ((cellsFrom 0 scope.names []).map (·.1)).Nodup) (hco : scope.isCoroutine = false) (hgen : scope.isGenerator = false) (hk : scope.kind = .function)
    (hbody : ∀ L g env, env = callEnvC (fnOf name qual params body scope dV kV doc pm an cdv ct) L fa → Apart env env.cells → I g → Bx (model prog w) (A.deeper env) env body (valOf env binds) g (fun _ g' => P .none g') P) :
    ∀ (s : Shared) (g : Heap), I g → g.StaysIn s.heap → codeAny (model prog w) A (.call (.ref fa) ⟨vs, []⟩) (fun r s' => ∃ v, r = .ok (.ret v) ∧ Post g s P v s') s := by
  intro s g i k
  obtain ⟨p, loose, mean, mg, mb, X, T⟩ := hB g i
  have X' := X.keeps k
  have T' := T.keeps k
  refine (codeAny_call_cells (fd := fnOf name qual params body scope dV kV doc pm an cdv ct) (body := body) (binds := binds) (by have := r.dp; omega) (X' _ _ ho) rfl T'.nolimit (codeRec_of X' hcd) rfl hbind rfl (kindsX hkind _) (fun s₁ x => ?_) hco hgen hk)
  generalize henv : callEnvC (fnOf name qual params body scope dV kV doc pm an cdv ct) s.heap.objs.size fa = env at x ⊢
  have ap : Apart env env.cells := ⟨x.apart, fun n c hm => Nat.ne_of_gt (x.above n c hm)⟩
  have hcl : env.cells = cellsFrom (s.heap.objs.size + 1) scope.names [] := by rw [← henv]; rfl
  have hlo : env.locals = s.heap.objs.size := by rw [← henv]; rfl
  have hns := x.toInCall.ns
  have ge : ∀ b ∈ ownA env env.cells, s.heap.objs.size ≤ b := fun b hb => by
    rcases List.mem_cons.mp hb with rfl | hb
    · rw [hlo]; exact Nat.le_refl _
    · obtain ⟨⟨n, c⟩, hm, rfl⟩ := List.mem_map.mp hb
      have := x.above n c hm
      rw [hlo] at this
      exact Nat.le_of_lt this
  have fr : ∀ b ∈ ownA env env.cells, s.heap.get? b = none := fun b hb => by
    cases e : s.heap.get? b with
    | none => rfl
    | some o => exact absurd (Heap.lt_size e) (Nat.not_lt.mpr (ge b hb))
  have F : Fm env (valOf env binds) g s₁ := by
    refine ⟨⟨⟨_, hns, fun n kn => ?_⟩, fun n c e => ⟨_, x.cell n c e, fun kn => ?_⟩⟩, stays_trans k x.toInCall.keep, fun b hb => ⟨none_of_stays k (fr b hb), ?_⟩⟩
    · unfold valOf; rw [if_pos kn]
    · unfold valOf; rw [if_neg (by rw [kn]; decide)]
    · rcases List.mem_cons.mp hb with rfl | hb
      · obtain ⟨o, _, _, ho, _⟩ := hns; rw [ho]; rfl
      · obtain ⟨⟨n, c⟩, hm, rfl⟩ := List.mem_map.mp hb
        have nd : (env.cells.map (·.1)).Nodup := by rw [hcl, cellsFrom_fst scope.names _ 0 [] [] rfl]; exact hnd
        obtain ⟨o, ho, _⟩ := x.cell n c (lookup_of_nodup _ _ _ nd hm)
        show (s₁.heap.get? c).isSome
        rw [ho]; rfl
  refine wpAny_mono (hbody s.heap.objs.size g env henv.symm ap i (fun _ _ => False) s₁ F) (fun fl s' q => ?_) fun _ _ e => e.elim
  obtain ⟨h₁, tk₁, rfl⟩ := x.toInCall.same
  have up : ∀ b o, s.heap.get? b = some o → b ∉ ownA env env.cells := fun b o e hb => by rw [fr b hb] at e; cases e
  have kk := x.toInCall.keep
  have fin : ∀ {v : Value} {g' : Heap}, Step env { s with heap := h₁, toks := tk₁ } g g' s' → P v g' → Post g s P v s' := fun S hp => by
    obtain ⟨h', tk', rfl⟩ := S.same
    exact ⟨_, hp, Grow.trans (.refl _ _) kk S.gr, S.st, h', tk', rfl, fun b o e => S.kb b o (up b o e) (kk b o e)⟩
  cases fl with
  | next => obtain ⟨_, g', _, S, hp⟩ := q; exact ⟨_, rfl, fin S hp⟩
  | ret v => obtain ⟨g', S, hp⟩ := q; exact ⟨_, rfl, fin S hp⟩
  | brk => exact q.elim
  | cont => exact q.elim
theorem cv_def {n : Nat} {fa : Addr} {vs : List Value} {I : Heap → Prop} {P : Value → Heap → Prop} {name qual : Str} {params : Arguments} {body : List Stmt} {scope : Scope} {dV kV doc pm cdv ct oc : Value} {an od : Option Addr} {osl : Array (Option Value)} {binds : List (Str × Value)}
    (r : Room A (n + 1)) (hB : ∀ g, I g → Bs w g)
    (ho : (hd.heap_39 w.params).lookup fa = some ⟨oc, od, .func (fnOf name qual params body scope dV kV doc pm an cdv ct), osl⟩) (hcd : codeIn (hd.heap_39 w.params) cdv qual = true)
    (hbind : bindArgs (fnOf name qual params body scope dV kV doc pm an cdv ct) ⟨vs, []⟩ = pure binds)
    (hkind : (binds.all fun y => scope.names.lookup y.1 == some .local || scope.names.lookup y.1 == some .cell) = true)
    (hnd : ((cellsFrom 0 scope.names []).map (·.1)).Nodup) (hco : scope.isCoroutine = false) (hgen : scope.isGenerator = false) (hk : scope.kind = .function)
    (hbody : ∀ L g env, env = callEnvC (fnOf name qual params body scope dV kV doc pm an cdv ct) L fa → Apart env env.cells → I g → Bx (model prog w) (A.deeper env) env body (valOf env binds) g (fun _ g' => P .none g') P) :
    Cv (model prog w) A (.ref fa) vs I P := by
  intro E s g i k
  refine wpAny_call (codeAny_mono (cd_def r hB ho hcd hbind hkind hnd hco hgen hk hbody s g i k) fun rr s' q => ?_)
  obtain ⟨v, rfl, h⟩ := q
  exact h
end


/-! ## a, b = .. -/
noncomputable def PairV (P₁ P₂ : Value → Heap → Prop) : Value → Heap → Prop := fun v g => ∃ (a : Addr) (x y : Value), v = .ref a ∧ IsTup g a #[x, y] ∧ P₁ x g ∧ P₂ y g
theorem PairV.mono {P₁ P₂ : Value → Heap → Prop} (m₁ : MonoV P₁) (m₂ : MonoV P₂) : MonoV (PairV P₁ P₂) := fun _ _ _ k ⟨a, x, y, e, h, p, q⟩ => ⟨a, x, y, e, isTup_mono k h, m₁ _ _ _ k p, m₂ _ _ _ k q⟩

section
variable {prog : Program} {w : World} {A : Around} {env : Env} {val : Str → Option Value} {g : Heap} {Qn Qm : (Str → Option Value) → Heap → Prop} {Qr : Value → Heap → Prop} {I : Heap → Heap → Prop}
theorem ev_pairV {e₁ e₂ : Expr} {kd : Nat} {pos : Pos} {P₁ P₂ : Value → Heap → Prop} (hI : Mono2 I) (m₁ : MonoV P₁) (m₂ : MonoV P₂)
    (h₁ : Ev (model prog w) A env e₁ I P₁) (h₂ : Ev (model prog w) A env e₂ I P₂)
    (he₁ : starEach [e₁, e₂] env = (false, eval e₁ env) :: starEach [e₂] env := by rfl) (he₂ : starEach [e₂] env = (false, eval e₂ env) :: starEach [] env := by rfl) :
    Ev (model prog w) A env (.Tuple [e₁, e₂] kd pos) I (PairV P₁ P₂) := ev_pair hI m₁ m₂ h₁ h₂ (fun u v a g p q hT => ⟨a, u, v, rfl, hT, p, q⟩) he₁ he₂

theorem sx_assign2 {x y : Str} {px py tp pos : Pos} {kd : Nat} {e : Expr} {P₁ P₂ : Value → Heap → Prop} (hh : A.handled = none) (hk : env.scope.kind = .function) (ap : Apart env env.cells) (ox : Own env env.cells x) (oy : Own env env.cells y)
    (he : Ev (model prog w) A env e (Cx env val g) (PairV P₁ P₂)) (hs : swapsWithSole [.Tuple [.Name x px, .Name y py] kd tp] e pos.line env = pure false) (hw : swappedStores [.Tuple [.Name x px, .Name y py] kd tp] e env = pure (some [x, y])) :
    Sx (model prog w) A env (.Assign [.Tuple [.Name x px, .Name y py] kd tp] e pos) val g (fun val' g' => ∃ u v, val' = upd (upd val y v) x u ∧ P₁ u g' ∧ P₂ v g') Qr := by
  intro E s F
  refine Assign_Tuple_swapped (he.run F fun v g₁ s₁ hp F₁ S₁ => ?_) hs hw
  obtain ⟨a, u, v, rfl, hT, p₁, p₂⟩ := hp
  refine unpackItems_tuple (items := #[u, v]) hh (isTup_mono F₁.st hT) fun h₂ he₂ => ?_
  have k₂ : s₁.heap.StaysIn h₂ := fun b o e => he₂ b o (Nat.ne_of_lt (Heap.lt_size e)) e
  refine assignInOrder_cons (bindName_ (store_own hk ap (F₁.lc.mono k₂) oy fun h₃ tk₃ lc₃ kk₃ mm₃ => ?_))
  refine assignInOrder_cons (bindName_ (store_own hk ap lc₃ ox fun h₄ tk₄ lc₄ kk₄ mm₄ => assignInOrder_nil ?_))
  have kg : g₁.StaysIn h₄ := fun b o e => by
    have nb : b ∉ ownA env env.cells := fun hb => by rw [(F₁.off b hb).1] at e; cases e
    exact kk₄ b o nb (kk₃ b o nb (k₂ b o (F₁.st b o e)))
  have al : ∀ b ∈ ownA env env.cells, (s₁.heap.get? b).isSome → (h₄.get? b).isSome := fun b hb e => mm₄ b hb (mm₃ b hb (Dom.stays k₂ b e))
  have kb : ∀ b o, b ∉ ownA env env.cells → s₁.heap.get? b = some o → h₄.get? b = some o := fun b o nb e => kk₄ b o nb (kk₃ b o nb (k₂ b o e))
  refine ⟨_, g₁, ⟨lc₄, kg, fun b hb => ⟨(F₁.off b hb).1, al b hb (F₁.off b hb).2⟩⟩, S₁.trans ⟨.refl _ _, kg, ?_, kb, .but kb al⟩, u, v, rfl, p₁, p₂⟩
  exact ⟨h₄, tk₄, rfl⟩

theorem sx_while {test : Expr} {body : List Stmt} {pos : Pos} (J : Nat → (Str → Option Value) → Heap → Prop) {n : Nat} (h0 : J n val g)
    (turn : ∀ k val' g', g.StaysIn g' → J k val' g' → ∃ b, Tv (model prog w) A env test (Cx env val' g') b ∧
      (b = true → ∀ g'', g'.StaysIn g'' → Bx (model prog w) A env body val' g'' (fun v h => ∃ m, m < k ∧ J m v h) Qr) ∧ (b = false → ∀ g'', g'.StaysIn g'' → Qn val' g'')) :
    Sx (model prog w) A env (.While test body [] pos) val g Qn Qr := by
  intro E s F
  refine wpAny_While (codeAny_whileLoop (fun k s' => ∃ val' g', Fm env val' g' s' ∧ Step env s g g' s' ∧ J k val' g') ?_ n ⟨val, g, F, .refl F.st, h0⟩)
  rintro k s' ⟨val', g', F', S', hJ⟩
  obtain ⟨b, ht, h₁, h₂⟩ := turn k val' g' S'.gr.up hJ
  refine ht.run F' fun g₁ s₁ F₁ S₁ => ?_
  have S₂ := S'.trans S₁
  cases b with
  | true =>
    simp only [if_true]
    refine wpAny_mono (h₁ rfl g₁ S₁.gr.up _ s₁ F₁) (fun f s₃ q => ?_) fun _ _ e => e
    cases f with
    | next => obtain ⟨val₃, g₃, F₃, S₃, m, hm, hJ₃⟩ := q; exact ⟨m, hm, val₃, g₃, F₃, S₂.trans S₃, hJ₃⟩
    | ret v => obtain ⟨g₃, S₃, hr⟩ := q; exact ⟨g₃, S₂.trans S₃, hr⟩
    | brk => exact q.elim
    | cont => exact q.elim
  | false =>
    simp only [Bool.false_eq_true, if_false]
    exact wpAny_execs_nil ⟨val', g₁, F₁, S₂, h₂ rfl g₁ S₁.gr.up⟩

/-! ## names of the text and of the built-ins -/
theorem sees_glob {h g : Heap} {x : Str} {v : Value} (B : Bs w g) (k : g.StaysIn h) (hx : nsIn (hd.heap_39 w.params) mainGlobals x = some (some v)) (hg : env.globals = mainGlobals) (hk : env.kindOf x = some .globalImplicit) : Sees env x v h := by
  obtain ⟨p, loose, mean, mg, mb, X, T⟩ := B
  exact .glob mg hk (by rw [hg]; exact T.g.keeps k) (mg_of X T.g hx)
theorem sees_built {h g : Heap} {x : Str} {v : Value} (B : Bs w g) (k : g.StaysIn h) (hx : nsIn (hd.heap_39 w.params) mainGlobals x = some none) (hv : bootBuiltins x = some v) (hn : x ≠ "__name__") (hg : env.globals = mainGlobals) (hb : env.builtins = builtinsNs) (hk : env.kindOf x = some .globalImplicit) : Sees env x v h := by
  obtain ⟨p, loose, mean, mg, mb, X, T⟩ := B
  exact .built mg mb hk (by rw [hg]; exact T.g.keeps k) (mg_none_of X T.g hx) (by rw [hb]; exact T.b.keeps k) ((T.builtins x hn).trans hv)

/-! ## calls of built-ins -/
theorem cv_abs {a : Int} (vs : List Value) : Cv (model prog w) A (.builtin "abs") vs (AllV [IntV a] vs) (IntV (if a < 0 then -a else a)) := by
  intro E s g i k
  obtain ⟨v, rfl, t, e⟩ := allV1 i
  subst e; exact call_abs_int fun u tk => .same ⟨u, rfl⟩ k keeps_tok
theorem cv_len1 {α : Type} {R : α → Value → Heap → Prop} {xs : List α} {v : Value} (hf : (xs.length : Int) < 2 ^ 63) : Cv (model prog w) A (.builtin "len") [v] (LstV R xs v) (IntV xs.length) := by
  intro E s g i k
  obtain ⟨a, its, e, hl, hsz, _⟩ := i
  subst e
  have hq : ((its.size : Nat) : Int) < 2 ^ 63 := by rw [hsz]; exact hf
  refine len_list (isList_mono k hl) hq ?_
  rw [hsz]
  exact ⟨g, ⟨s.toks + 1, rfl⟩, .refl _ _, k, s.heap, s.toks + 1 + 1, rfl, fun _ _ e => e⟩
theorem cv_len {α : Type} {R : α → Value → Heap → Prop} {xs : List α} (hf : (xs.length : Int) < 2 ^ 63) (vs : List Value) : Cv (model prog w) A (.builtin "len") vs (AllV [LstV R xs] vs) (IntV xs.length) := by
  intro E s g i k
  obtain ⟨v, rfl, h⟩ := allV1 i
  exact cv_len1 hf E s g h k
theorem cv_range1 {n : Int} (vs : List Value) : Cv (model prog w) A (.type "range") vs (AllV [IntV n] vs) (RangeV 0 n) := by
  intro E s g i k
  obtain ⟨v, rfl, t, e⟩ := allV1 i
  · subst e
    refine call_range_1 ?_
    obtain ⟨g', gr, k', e'⟩ := grow_one (g := g) (h := s.heap) (h' := s.heap.push { cls := .type "range", data := .fields #[.int 0 s.toks, .int n t, .int 1 (s.toks + 1)] }) (stays_trans k stays_push) (get_size _) (get_push_new rfl)
    exact ⟨g', ⟨_, _, _, _, rfl, e'⟩, gr, k', keeps_of stays_push⟩
theorem cv_range2 {a n : Int} (vs : List Value) : Cv (model prog w) A (.type "range") vs (AllV [IntV a, IntV n] vs) (RangeV a n) := by
  intro E s g i k
  obtain ⟨v, u, rfl, ⟨t, e⟩, t', e₂⟩ := allV2 i
  · subst e; subst e₂
    refine call_range_2 ?_
    obtain ⟨g', gr, k', e'⟩ := grow_one (g := g) (h := s.heap) (h' := s.heap.push { cls := .type "range", data := .fields #[.int a t, .int n t', .int 1 s.toks] }) (stays_trans k stays_push) (get_size _) (get_push_new rfl)
    exact ⟨g', ⟨_, _, _, _, rfl, e'⟩, gr, k', keeps_of stays_push⟩
end

section
variable {prog : Program} {w : World} {A : Around} {env : Env} {val : Str → Option Value} {g : Heap} {I : Heap → Heap → Prop} {P : Value → Heap → Prop}

theorem ev_var {x : Str} {pos : Pos} (v : Value) (hv : val x = some v) (mP : MonoV P) (hp : P v g) (o : Own env env.cells x := by exact .inl rfl) (hk : env.scope.kind = .function := by rfl) (hd : (x == ("__debug__" : Str)) = false := by decide) :
    Ev (model prog w) A env (.Name x pos) (Cx env val g) P :=
  ev_name v (fun h g' c k => c.1.sees o hv) (fun h g' c => mP _ _ _ c.2 hp) hk hd

theorem ev_callG {fe : Str} {fp pos : Pos} {e : Expr} {rest : List Expr} {fa : Addr} {Ps : List (Value → Heap → Prop)} (hI : Mono2 I)
    (hB : ∀ h g, I h g → Bs w g) (hn : nsIn (hd.heap_39 w.params) mainGlobals fe = some (some (.ref fa))) (hkeep : keepIn (hd.heap_39 w.params) (.ref fa) = true)
    (ha : Evs (model prog w) A env (e :: rest) I Ps)
    (hc : ∀ (vs : List Value), Cv (model prog w) A (.ref fa) vs (fun g => Bs w g ∧ AllV Ps vs g) P)
    (hg : env.globals = mainGlobals := by rfl) (hkd : env.kindOf fe = some .globalImplicit := by rfl) (hk : env.scope.kind = .function := by rfl) (hd : (fe == ("__debug__" : Str)) = false := by decide)
    (he : starEach (e :: rest) env = (false, eval e env) :: starEach rest env := by rfl) (hplain : (backTo pos (starEach rest env)).any (·.1) = false := by rfl) :
    Ev (model prog w) A env (.Call (.Name fe fp) (e :: rest) [] pos) I P :=
  ev_call hI hB hkeep (fun h g' c k => sees_glob (hB _ _ c) k hn hg hkd) hk hd ha hc he hplain

theorem ev_callBG {fe : Str} {fp pos : Pos} {e : Expr} {rest : List Expr} {id : String} {Ps : List (Value → Heap → Prop)} (hI : Mono2 I)
    (hB : ∀ h g, I h g → Bs w g) (hn : nsIn (hd.heap_39 w.params) mainGlobals fe = some none) (hb : bootBuiltins fe = some (.builtin id))
    (ha : Evs (model prog w) A env (e :: rest) I Ps)
    (hc : ∀ (vs : List Value), Cv (model prog w) A (.builtin id) vs (AllV Ps vs) P)
    (hnm : fe ≠ "__name__" := by decide) (hg : env.globals = mainGlobals := by rfl) (hbl : env.builtins = builtinsNs := by rfl) (hkd : env.kindOf fe = some .globalImplicit := by rfl) (hk : env.scope.kind = .function := by rfl) (hd : (fe == ("__debug__" : Str)) = false := by decide)
    (he : starEach (e :: rest) env = (false, eval e env) :: starEach rest env := by rfl) (hplain : (backTo pos (starEach rest env)).any (·.1) = false := by rfl) :
    Ev (model prog w) A env (.Call (.Name fe fp) (e :: rest) [] pos) I P :=
  ev_callB hI (fun h g' c k => sees_built (hB _ _ c) k hn hb hnm hg hbl hkd) hk hd ha hc he hplain

theorem ev_callTG {fe : Str} {fp pos : Pos} {e : Expr} {rest : List Expr} {T : String} {Ps : List (Value → Heap → Prop)} (hI : Mono2 I)
    (hB : ∀ h g, I h g → Bs w g) (hn : nsIn (hd.heap_39 w.params) mainGlobals fe = some none) (hb : bootBuiltins fe = some (.type T))
    (ha : Evs (model prog w) A env (e :: rest) I Ps)
    (hc : ∀ (vs : List Value), Cv (model prog w) A (.type T) vs (AllV Ps vs) P)
    (hnm : fe ≠ "__name__" := by decide) (hg : env.globals = mainGlobals := by rfl) (hbl : env.builtins = builtinsNs := by rfl) (hkd : env.kindOf fe = some .globalImplicit := by rfl) (hk : env.scope.kind = .function := by rfl) (hd : (fe == ("__debug__" : Str)) = false := by decide)
    (he : starEach (e :: rest) env = (false, eval e env) :: starEach rest env := by rfl) (hplain : (backTo pos (starEach rest env)).any (·.1) = false := by rfl) :
    Ev (model prog w) A env (.Call (.Name fe fp) (e :: rest) [] pos) I P :=
  ev_callT hI (fun h g' c k => sees_built (hB _ _ c) k hn hb hnm hg hbl hkd) hk hd ha hc he hplain

theorem cv_args1 {f : Value} {P₁ : Value → Heap → Prop} (h : ∀ u, Cv (model prog w) A f [u] (fun g => Bs w g ∧ P₁ u g) P) (vs : List Value) : Cv (model prog w) A f vs (fun g => Bs w g ∧ AllV [P₁] vs g) P := by
  intro E s g i k
  obtain ⟨u, rfl, a⟩ := allV1 i.2
  exact h u E s g ⟨i.1, a⟩ k
theorem cv_args2 {f : Value} {P₁ P₂ : Value → Heap → Prop} (h : ∀ u v, Cv (model prog w) A f [u, v] (fun g => Bs w g ∧ P₁ u g ∧ P₂ v g) P) (vs : List Value) : Cv (model prog w) A f vs (fun g => Bs w g ∧ AllV [P₁, P₂] vs g) P := by
  intro E s g i k
  obtain ⟨u, v, rfl, a, b⟩ := allV2 i.2
  exact h u v E s g ⟨i.1, a, b⟩ k
theorem cv_args3 {f : Value} {P₁ P₂ P₃ : Value → Heap → Prop} (h : ∀ u v x, Cv (model prog w) A f [u, v, x] (fun g => Bs w g ∧ P₁ u g ∧ P₂ v g ∧ P₃ x g) P) (vs : List Value) : Cv (model prog w) A f vs (fun g => Bs w g ∧ AllV [P₁, P₂, P₃] vs g) P := by
  intro E s g i k
  obtain ⟨u, v, x, rfl, a, b, c⟩ := allV3 i.2
  exact h u v x E s g ⟨i.1, a, b, c⟩ k

theorem sx_if_no {test : Expr} {body : List Stmt} {pos : Pos} {b : Bool} {Qr : Value → Heap → Prop} (ht : Tv (model prog w) A env test (Cx env val g) b) (hb : b = false) : Sx (model prog w) A env (.If test body [] pos) val g (fun val' _ => val' = val) Qr := by
  subst hb
  exact sx_if ht fun g' k => bx_nil rfl
theorem bx_ret {e : Expr} {pos : Pos} {Qn : (Str → Option Value) → Heap → Prop} (he : Ev (model prog w) A env e (Cx env val g) P) : Bx (model prog w) A env [.Return (some e) pos] val g Qn P :=
  bx_cons (Qm := fun _ _ => False) (sx_return he) fun _ _ _ h => h.elim
theorem ev_ne {l r : Expr} {pos : Pos} {a b : Int} (hI : Mono2 I) (hl : Ev (model prog w) A env l I (IntV a)) (hr : Ev (model prog w) A env r I (IntV b)) (hm : behindInMarks .NotEq r = false := by with_unfolding_all rfl) : Tv (model prog w) A env (.Compare l [.NotEq] [r] pos) I (a != b) :=
  tv_cmp hI (fun E Q s t u h => ne_int h) hl hr hm
theorem ev_eq {l r : Expr} {pos : Pos} {a b : Int} (hI : Mono2 I) (hl : Ev (model prog w) A env l I (IntV a)) (hr : Ev (model prog w) A env r I (IntV b)) (hm : behindInMarks .Eq r = false := by with_unfolding_all rfl) : Tv (model prog w) A env (.Compare l [.Eq] [r] pos) I (a == b) :=
  tv_cmp hI (fun E Q s t u h => eq_int h) hl hr hm
theorem ev_gt {l r : Expr} {pos : Pos} {a b : Int} (hI : Mono2 I) (hl : Ev (model prog w) A env l I (IntV a)) (hr : Ev (model prog w) A env r I (IntV b)) (hm : behindInMarks .Gt r = false := by with_unfolding_all rfl) : Tv (model prog w) A env (.Compare l [.Gt] [r] pos) I (decide (b < a)) :=
  tv_cmp hI (fun E Q s t u h => gt_int h) hl hr hm
theorem ev_fdiv {l r : Expr} {pos : Pos} {a b : Int} (hI : Mono2 I) (hh : A.handled = none) (hb : b ≠ 0) (hp : Builtin.divisionGoesByPylong a b = false) (hl : Ev (model prog w) A env l I (IntV a)) (hr : Ev (model prog w) A env r I (IntV b)) : Ev (model prog w) A env (.BinOp l .FloorDiv r pos) I (IntV (a.fdiv b)) :=
  ev_bin hI (fun _ _ _ _ _ h => floordiv_int hb (h _ _) (.inl hp)) hl hr
end


/-- the facts within a comprehension's element -/
noncomputable def Cc (scope : Scope) (cl : List (Str × Addr)) (C : Addr) (env : Env) (I : Heap → Heap → Prop) (F : Heap → Prop) (val : Str → Option Value) : Heap → Heap → Prop :=
  fun h g => I h g ∧ F g ∧ Lc (ccEnv scope cl C env) (ccOwn scope C) val h
theorem Cc.mono {scope cl C env I F val} (hI : Mono2 I) (mF : ∀ g g' : Heap, g.StaysIn g' → F g → F g') : Mono2 (Cc scope cl C env I F val) :=
  fun h h' g g' k kg x => ⟨hI _ _ _ _ k kg x.1, mF _ _ kg x.2.1, x.2.2.mono k⟩

theorem sees_up {env env' : Env} {oc : List (Str × Addr)} {val : Str → Option Value} {h : Heap} {x : Str} {v : Value} {c : Addr} (l : Lc env oc val h) (e : val x = some v) (k : env.kindOf x = some .cell) (hc : oc.lookup x = some c)
    (k' : env'.kindOf x = some .cell) (hc' : env'.cells.lookup x = some c) : Sees env' x v h := by
  obtain ⟨u, hu, q⟩ := l.cell x c hc
  have := q k
  subst this
  rw [e] at hu
  exact .cell c k' hc' hu

section
variable {prog : Program} {w : World} {A : Around} {env : Env} {I : Heap → Heap → Prop}

theorem comp_list {α β : Type} {R : α → Value → Heap → Prop} {R' : β → Value → Heap → Prop} (f : α → β) {elt iter : Expr} {x : Str} {px : Pos} {scope : Scope} {pos : Pos} {cl : List (Str × Addr)} {xs : List α}
    (hI : Mono2 I) (mR : ∀ x, MonoV (R x)) (mR' : ∀ x, MonoV (R' x)) (hh : A.handled = none) (hsz : xs.length ≤ sizeLine) (hclos : closureFor scope env = pure cl) (hkind : scope.kind = .function)
    (hnames : ∀ y ∈ scope.names, y.2 = .local → scope.names.lookup y.1 = some .local) (hs : ∀ x, foldedSetIterable iter env x = pure x)
    (hi : Ev (model prog w) A env iter I (LstV R xs)) (hown : ∀ C, Own (ccEnv scope cl C env) (ccOwn scope C) x)
    (helt : ∀ C y v val, y ∈ xs → Mono2 (Cc scope cl C env I (R y v) (upd val x v)) → Ev (model prog w) A (ccEnv scope cl C env) elt (Cc scope cl C env I (R y v) (upd val x v)) (R' (f y))) :
    Ev (model prog w) A env (.ListComp elt [⟨.Name x px, iter, [], 0⟩] scope pos) I (LstV R' (xs.map f)) := by
  refine Ev.conseq (ev_comp (n := xs.length) (R := fun j v h => ∃ y, xs[j]? = some y ∧ R' (f y) v h) hI (fun j v h h' k ⟨y, e, r⟩ => ⟨y, e, mR' _ _ _ _ k r⟩) hsz hclos hkind hnames hs (source_list mR hh hI hi) ?_ ?_) ?_
  · rintro C i bs g ⟨v, y, rfl, _, _⟩ z hz
    rw [List.mem_singleton.mp hz]; exact hown C
  · rintro C i bs val hi E s g ⟨i₀, ⟨g₀, hg₀, v, y, hbs, hy, hr⟩, lc⟩ k
    subst hbs
    exact wpAny_mono (helt C y v val (List.mem_of_getElem? hy) (Cc.mono hI fun _ _ k => mR _ _ _ _ k) E s g ⟨i₀, mR _ _ _ _ hg₀ hr, lc⟩ k) (fun u s' q => q.conseq fun v g r => ⟨y, hy, r⟩) fun _ _ e => e
  · rintro v g ⟨a, its, rfl, hl, hsz', hr⟩
    refine ⟨a, its, rfl, hl, by rw [hsz', List.length_map], fun i z hz => ?_⟩
    rw [List.getElem?_map] at hz
    cases hy : xs[i]? with
    | none => rw [hy] at hz; cases hz
    | some y =>
      rw [hy] at hz; cases hz
      have hlt : i < its.size := by rw [hsz']; exact (List.getElem?_eq_some_iff.mp hy).1
      obtain ⟨y', hy', r⟩ := hr i its[i] (by simp [hlt])
      rw [hy] at hy'; cases hy'
      exact ⟨its[i], by simp [hlt], r⟩

theorem comp_range {β : Type} {R' : β → Value → Heap → Prop} (f : Int → β) {elt iter : Expr} {x : Str} {px : Pos} {scope : Scope} {pos : Pos} {cl : List (Str × Addr)} {a b : Int} {n : Nat}
    (hI : Mono2 I) (mR' : ∀ x, MonoV (R' x)) (hh : A.handled = none) (hsz : n ≤ sizeLine) (ha : -(2 ^ 62) ≤ a) (ha' : a < 2 ^ 62) (hb : -(2 ^ 62) ≤ b) (hb' : b < 2 ^ 62) (hn : (n : Int) = if a < b then b - a else 0)
    (hclos : closureFor scope env = pure cl) (hkind : scope.kind = .function)
    (hnames : ∀ y ∈ scope.names, y.2 = .local → scope.names.lookup y.1 = some .local) (hs : ∀ x, foldedSetIterable iter env x = pure x)
    (hi : Ev (model prog w) A env iter I (RangeV a b)) (hown : ∀ C, Own (ccEnv scope cl C env) (ccOwn scope C) x)
    (helt : ∀ C (i : Nat) t val, i < n → Mono2 (Cc scope cl C env I (fun _ => True) (upd val x (.int (a + i) t))) → Ev (model prog w) A (ccEnv scope cl C env) elt (Cc scope cl C env I (fun _ => True) (upd val x (.int (a + i) t))) (R' (f (a + i)))) :
    Ev (model prog w) A env (.ListComp elt [⟨.Name x px, iter, [], 0⟩] scope pos) I (LstV R' ((List.range n).map fun (i : Nat) => f (a + (i : Int)))) := by
  refine Ev.conseq (ev_comp (n := n) (R := fun j v h => R' (f (a + (j : Int))) v h) hI (fun j v h h' k r => mR' _ _ _ _ k r) hsz hclos hkind hnames hs (source_range hh hI ha ha' hb hb' hn hi) ?_ ?_) ?_
  · rintro C i bs g ⟨t, hi, rfl⟩ z hz
    rw [List.mem_singleton.mp hz]; exact hown C
  · rintro C i bs val hi E s g ⟨i₀, ⟨g₀, hg₀, t, _, hbs⟩, lc⟩ k
    subst hbs
    exact helt C i t val hi (Cc.mono hI fun _ _ _ h => h) E s g ⟨i₀, trivial, lc⟩ k
  · rintro v g ⟨a', its, rfl, hl, hsz', hr⟩
    refine ⟨a', its, rfl, hl, by rw [hsz', List.length_map, List.length_range], fun i z hz => ?_⟩
    rw [List.getElem?_map] at hz
    by_cases hlt : i < n
    · rw [List.getElem?_range hlt] at hz
      cases hz
      have hlt' : i < its.size := by rw [hsz']; exact hlt
      exact ⟨its[i], by simp [hlt'], hr i its[i] (by simp [hlt'])⟩
    · rw [List.getElem?_eq_none (by rw [List.length_range]; omega)] at hz; cases hz

theorem comp_enum {α β : Type} {R : α → Value → Heap → Prop} {R' : β → Value → Heap → Prop} (f : Nat → α → β) {elt e : Expr} {fp cp : Pos} {xi xv : Str} {pi pv pt : Pos} {kd : Nat} {scope : Scope} {pos : Pos} {cl : List (Str × Addr)} {xs : List α}
    (hI : Mono2 I) (mR : ∀ x, MonoV (R x)) (mR' : ∀ x, MonoV (R' x)) (hh : A.handled = none) (hsz : xs.length ≤ sizeLine) (hclos : closureFor scope env = pure cl) (hkind : scope.kind = .function)
    (hnames : ∀ y ∈ scope.names, y.2 = .local → scope.names.lookup y.1 = some .local) 
    (hi : Ev (model prog w) A env e I (LstV R xs)) (S : ∀ h g, I h g → g.StaysIn h → Sees env (Str.ofString "enumerate") (.type "enumerate") h) (hk : env.scope.kind = .function)
    (hown : ∀ C, Own (ccEnv scope cl C env) (ccOwn scope C) xi ∧ Own (ccEnv scope cl C env) (ccOwn scope C) xv)
    (he : starEach [e] env = (false, eval e env) :: starEach [] env) (hs : ∀ x, foldedSetIterable (.Call (.Name (Str.ofString "enumerate") fp) [e] [] cp) env x = pure x)
    (helt : ∀ C (i : Nat) y u v val, xs[i]? = some y → Mono2 (Cc scope cl C env I (fun g => IntV i u g ∧ R y v g) (upd (upd val xi u) xv v)) → Ev (model prog w) A (ccEnv scope cl C env) elt (Cc scope cl C env I (fun g => IntV i u g ∧ R y v g) (upd (upd val xi u) xv v)) (R' (f i y))) :
    Ev (model prog w) A env (.ListComp elt [⟨.Tuple [.Name xi pi, .Name xv pv] kd pt, .Call (.Name (Str.ofString "enumerate") fp) [e] [] cp, [], 0⟩] scope pos) I (LstV R' (xs.mapIdx f)) := by
  refine Ev.conseq (ev_comp (n := xs.length) (R := fun j v h => ∃ y, xs[j]? = some y ∧ R' (f j y) v h) hI (fun j v h h' k ⟨y, e, r⟩ => ⟨y, e, mR' _ _ _ _ k r⟩) hsz hclos hkind hnames hs (source_enum mR hh hI hi S hk he) ?_ ?_) ?_
  · rintro C i bs g ⟨t, v, y, rfl, _, _⟩ z hz
    rcases List.mem_cons.mp hz with rfl | hz
    · exact (hown C).1
    · rw [List.mem_singleton.mp hz]; exact (hown C).2
  · rintro C i bs val hi E s g ⟨i₀, ⟨g₀, hg₀, t, v, y, hbs, hy, hr⟩, lc⟩ k
    subst hbs
    exact wpAny_mono (helt C i y _ v val hy (Cc.mono hI fun _ _ k h => ⟨h.1, mR _ _ _ _ k h.2⟩) E s g ⟨i₀, ⟨⟨t, rfl⟩, mR _ _ _ _ hg₀ hr⟩, lc⟩ k) (fun u s' q => q.conseq fun v g r => ⟨y, hy, r⟩) fun _ _ e => e
  · rintro v g ⟨a, its, rfl, hl, hsz', hr⟩
    refine ⟨a, its, rfl, hl, by rw [hsz', List.length_mapIdx], fun i z hz => ?_⟩
    rw [List.getElem?_mapIdx] at hz
    cases hy : xs[i]? with
    | none => rw [hy] at hz; cases hz
    | some y =>
      rw [hy] at hz; cases hz
      have hlt : i < its.size := by rw [hsz']; exact (List.getElem?_eq_some_iff.mp hy).1
      obtain ⟨y', hy', r⟩ := hr i its[i] (by simp [hlt])
      rw [hy] at hy'; cases hy'
      exact ⟨its[i], by simp [hlt], r⟩

theorem ev_str {x : Str} {kd : Nat} {pos : Pos} : Ev (model prog w) A env (.Constant (.str x) kd pos) I (fun _ _ => True) :=
  fun _ _ _ _ k => Calls.Constant_str (.same trivial k keeps_tok)
end


section
variable {prog : Program} {w : World} {A : Around}

/-! the text's names -/
theorem n_gcd : nsIn (hd.heap_39 w.params) mainGlobals (Str.ofString "gcd") = some (some (.ref 41)) := by k_is
theorem n_abs : nsIn (hd.heap_39 w.params) mainGlobals (Str.ofString "abs") = some none := by k_is
theorem k_gcd : keepIn (hd.heap_39 w.params) (.ref 41) = true := by k_is
theorem n_rat : nsIn (hd.heap_39 w.params) mainGlobals (Str.ofString "rat") = some (some (.ref 69)) := by k_is
theorem k_rat : keepIn (hd.heap_39 w.params) (.ref 69) = true := by k_is

theorem gcd_v {t b : Int} (r : Room A 1) (hb : 0 < b) (hab : t % b = 0) (u v : Value) :
    Cv (model prog w) A (.ref 41) [u, v] (fun g => Bs w g ∧ IntV t u g ∧ IntV b v g) (IntV b) := by
  refine cv_def (n := 0) (binds := [(Str.ofString "a", u), (Str.ofString "b", v)]) r (fun g i => i.1) (by k_is) (by k_is) rfl rfl (by decide) rfl rfl rfl ?_
  intro L g env he ap i
  subst he
  obtain ⟨B, it, ib⟩ := i
  have e1 : Int.fmod (if t < 0 then -t else t) b = 0 := by
    rw [Int.fmod_eq_emod_of_nonneg _ (by omega)]
    split
    · exact Int.emod_eq_zero_of_dvd ((Int.dvd_neg).mpr (Int.dvd_of_emod_eq_zero hab))
    · exact hab
  have e2 : (if b < 0 then -b else b) = b := if_neg (by omega)
  refine bx_cons (sx_assign2 r.hh rfl ap (.inl rfl) (.inl rfl) (ev_pairV (P₁ := IntV (if t < 0 then -t else t)) (P₂ := IntV (if b < 0 then -b else b)) Cx.mono IntV.mono IntV.mono ?_ ?_) rfl rfl) ?_
  · exact ev_callBG (Ps := [IntV t]) Cx.mono (fun h g' c => B.mono c.2) n_abs boot_abs (evs_cons Cx.mono IntV.mono (ev_var u rfl IntV.mono it) evs_nil) cv_abs
  · exact ev_callBG (Ps := [IntV b]) Cx.mono (fun h g' c => B.mono c.2) n_abs boot_abs (evs_cons Cx.mono IntV.mono (ev_var v rfl IntV.mono ib) evs_nil) cv_abs
  rintro val g₁ k₁ ⟨u', v', rfl, hu, hv⟩
  rw [e2] at hv
  generalize (if t < 0 then -t else t) = t' at e1 hu
  refine bx_cons (sx_while (n := 1) (Qn := fun val g => ∃ x, val (Str.ofString "a") = some x ∧ IntV b x g) (fun k val g => ∃ x y, val (Str.ofString "a") = some x ∧ val (Str.ofString "b") = some y ∧ ((k = 1 ∧ IntV t' x g ∧ IntV b y g) ∨ (k = 0 ∧ IntV b x g ∧ IntV 0 y g))) ⟨u', v', rfl, rfl, .inl ⟨rfl, hu, hv⟩⟩ ?_) ?_
  · rintro k val' g' kg ⟨x, y, hx, hy, h⟩
    rcases h with ⟨rfl, hx', hy'⟩ | ⟨rfl, hx', hy'⟩
    · refine ⟨b != 0, ev_ne Cx.mono (ev_var y hy IntV.mono hy') ev_int, fun _ g₂ kg₂ => ?_, fun e => by simp at e; omega⟩
      refine bx_cons (sx_assign2 r.hh rfl ap (.inl rfl) (.inl rfl) (ev_pairV (P₁ := IntV b) (P₂ := IntV (Int.fmod t' b)) Cx.mono IntV.mono IntV.mono (ev_var y hy IntV.mono hy') (ev_mod Cx.mono (by omega) (ev_var x hx IntV.mono hx') (ev_var y hy IntV.mono hy'))) rfl rfl) ?_
      rintro val₃ g₃ k₃ ⟨x₃, y₃, rfl, h₃, h₃'⟩
      rw [e1] at h₃'
      exact bx_nil ⟨0, by omega, x₃, y₃, rfl, rfl, .inr ⟨rfl, h₃, h₃'⟩⟩
    · exact ⟨(0 : Int) != 0, ev_ne Cx.mono (ev_var y hy IntV.mono hy') ev_int, fun e => by simp at e, fun _ g₂ kg₂ => ⟨x, hx, hx'⟩⟩
  · rintro val₂ g₂ k₂ ⟨x, hx, hx'⟩
    exact bx_ret (ev_var x hx IntV.mono hx')
end


section
variable {prog : Program} {w : World} {A : Around}

theorem rat_v {t b : Int} (r : Room A 2) (hb : 0 < b) (hb' : b < 1000) (hab : t % b = 0) (u v : Value) :
    Cv (model prog w) A (.ref 69) [u, v] (fun g => Bs w g ∧ IntV t u g ∧ IntV b v g) (RatV (t / b)) := by
  refine cv_def (n := 1) (binds := [(Str.ofString "top", u), (Str.ofString "bottom", v)]) r (fun g i => i.1) (by k_is) (by k_is) rfl rfl (by decide) rfl rfl rfl ?_
  intro L g env he ap i
  subst he
  obtain ⟨B, it, ib⟩ := i
  refine bx_cons (sx_if_no (ev_eq Cx.mono (ev_var v rfl IntV.mono ib) ev_int) (by simp; omega)) ?_
  rintro val₁ g₁ k₁ rfl
  refine bx_cons (sx_assign (P := IntV b) rfl ap (.inl rfl) (ev_ifexp (b := decide (0 < b)) Cx.mono (ev_gt Cx.mono (ev_var v rfl IntV.mono ib) ev_int) (fun _ => ?_) (fun e => by simp at e; omega)) rfl) ?_
  · exact ev_callG (Ps := [IntV t, IntV b]) Cx.mono (fun h g' c => (B.mono k₁).mono c.2) n_gcd k_gcd (evs_cons Cx.mono IntV.mono (ev_var u rfl IntV.mono it) (evs_cons Cx.mono IntV.mono (ev_var v rfl IntV.mono ib) evs_nil)) (cv_args2 fun u v => gcd_v (r.deeper _ |>.less (by decide)) hb hab u v)
  rintro val₂ g₂ k₂ ⟨x, rfl, hx⟩
  have e1 : t / b = t.fdiv b := by rw [Int.fdiv_eq_ediv_of_nonneg _ (by omega)]
  have e2 : (1 : Int) = b.fdiv b := by rw [Int.fdiv_eq_ediv_of_nonneg _ (by omega), Int.ediv_self (by omega)]
  rw [e1]
  refine bx_ret (ev_ratpair Cx.mono ?_ ?_)
  · exact ev_fdiv Cx.mono r.hh (by omega) (PyProof.noPylong_small (by omega)) (ev_var u rfl IntV.mono it) (ev_var x rfl IntV.mono hx)
  · rw [e2]
    exact ev_fdiv Cx.mono r.hh (by omega) (PyProof.noPylong_small (by omega)) (ev_var v rfl IntV.mono ib) (ev_var x rfl IntV.mono hx)

theorem radd_v {x y : Int} (r : Room A 3) (u v : Value) : Cv (model prog w) A (.ref 76) [u, v] (fun g => Bs w g ∧ RatV x u g ∧ RatV y v g) (RatV (x + y)) := by
  refine cv_def (n := 2) (binds := [(Str.ofString "a", u), (Str.ofString "b", v)]) r (fun g i => i.1) (by k_is) (by k_is) rfl rfl (by decide) rfl rfl rfl ?_
  intro L g env he ap i
  subst he
  obtain ⟨B, ha, hb⟩ := i
  have m1 : ∀ z : Int, IntMulOk z 1 := fun z => .of_right (by decide)
  have e : x + y = (x * 1 + y * 1) / (1 * 1) := by simp
  rw [e]
  refine bx_ret (ev_callG (Ps := [IntV (x * 1 + y * 1), IntV (1 * 1)]) Cx.mono (fun h g' c => B.mono c.2) n_rat k_rat (evs_cons Cx.mono IntV.mono ?_ (evs_cons Cx.mono IntV.mono ?_ evs_nil)) (cv_args2 fun u v => rat_v (r.deeper _) (by decide) (by decide) (by simp [Int.emod_one]) u v))
  · exact ev_add Cx.mono (ev_mul Cx.mono (m1 _) (ev_rat0 (ev_var u rfl RatV.mono ha)) (ev_rat1 (ev_var v rfl RatV.mono hb))) (ev_mul Cx.mono (m1 _) (ev_rat0 (ev_var v rfl RatV.mono hb)) (ev_rat1 (ev_var u rfl RatV.mono ha)))
  · exact ev_mul Cx.mono (m1 _) (ev_rat1 (ev_var u rfl RatV.mono ha)) (ev_rat1 (ev_var v rfl RatV.mono hb))

theorem rmul_v {x y : Int} (r : Room A 3) (hm : IntMulOk x y) (u v : Value) : Cv (model prog w) A (.ref 83) [u, v] (fun g => Bs w g ∧ RatV x u g ∧ RatV y v g) (RatV (x * y)) := by
  refine cv_def (n := 2) (binds := [(Str.ofString "a", u), (Str.ofString "b", v)]) r (fun g i => i.1) (by k_is) (by k_is) rfl rfl (by decide) rfl rfl rfl ?_
  intro L g env he ap i
  subst he
  obtain ⟨B, ha, hb⟩ := i
  have m1 : ∀ z : Int, IntMulOk z 1 := fun z => .of_right (by decide)
  have e : x * y = (x * y) / (1 * 1) := by simp
  rw [e]
  refine bx_ret (ev_callG (Ps := [IntV (x * y), IntV (1 * 1)]) Cx.mono (fun h g' c => B.mono c.2) n_rat k_rat (evs_cons Cx.mono IntV.mono ?_ (evs_cons Cx.mono IntV.mono ?_ evs_nil)) (cv_args2 fun u v => rat_v (r.deeper _) (by decide) (by decide) (by simp [Int.emod_one]) u v))
  · exact ev_mul Cx.mono hm (ev_rat0 (ev_var u rfl RatV.mono ha)) (ev_rat0 (ev_var v rfl RatV.mono hb))
  · exact ev_mul Cx.mono (m1 _) (ev_rat1 (ev_var u rfl RatV.mono ha)) (ev_rat1 (ev_var v rfl RatV.mono hb))

/-- x over k, where k goes into x -/
theorem rdiv_v {x k : Int} (r : Room A 3) (hk : 0 < k) (hk' : k < 1000) (hx : x % k = 0) (u v : Value) : Cv (model prog w) A (.ref 90) [u, v] (fun g => Bs w g ∧ RatV x u g ∧ RatV k v g) (RatV (x / k)) := by
  refine cv_def (n := 2) (binds := [(Str.ofString "a", u), (Str.ofString "b", v)]) r (fun g i => i.1) (by k_is) (by k_is) rfl rfl (by decide) rfl rfl rfl ?_
  intro L g env he ap i
  subst he
  obtain ⟨B, ha, hb⟩ := i
  have m1 : ∀ z : Int, IntMulOk z 1 := fun z => .of_right (by decide)
  have m2 : ∀ z : Int, IntMulOk 1 z := fun z => .of_left (by decide)
  have e : x / k = (x * 1) / (1 * k) := by simp
  rw [e]
  refine bx_ret (ev_callG (Ps := [IntV (x * 1), IntV (1 * k)]) Cx.mono (fun h g' c => B.mono c.2) n_rat k_rat (evs_cons Cx.mono IntV.mono ?_ (evs_cons Cx.mono IntV.mono ?_ evs_nil)) (cv_args2 fun u v => rat_v (r.deeper _) (by omega) (by omega) (by simpa using hx) u v))
  · exact ev_mul Cx.mono (m1 _) (ev_rat0 (ev_var u rfl RatV.mono ha)) (ev_rat1 (ev_var v rfl RatV.mono hb))
  · exact ev_mul Cx.mono (m2 _) (ev_rat1 (ev_var u rfl RatV.mono ha)) (ev_rat0 (ev_var v rfl RatV.mono hb))

theorem rneg_v {x : Int} (r : Room A 1) (u : Value) : Cv (model prog w) A (.ref 97) [u] (fun g => Bs w g ∧ RatV x u g) (RatV (-x)) := by
  refine cv_def (n := 0) (binds := [(Str.ofString "a", u)]) r (fun g i => i.1) (by k_is) (by k_is) rfl rfl (by decide) rfl rfl rfl ?_
  intro L g env he ap i
  subst he
  obtain ⟨B, ha⟩ := i
  rw [show -x = 0 - x by omega]
  exact bx_ret (ev_ratpair Cx.mono (ev_sub Cx.mono ev_int (ev_rat0 (ev_var u rfl RatV.mono ha))) (ev_rat1 (ev_var u rfl RatV.mono ha)))
end


section
variable {w : World}
theorem n_len : nsIn (hd.heap_39 w.params) mainGlobals (Str.ofString "len") = some none := by k_is
theorem n_range : nsIn (hd.heap_39 w.params) mainGlobals (Str.ofString "range") = some none := by k_is
theorem n_enumerate : nsIn (hd.heap_39 w.params) mainGlobals (Str.ofString "enumerate") = some none := by k_is
theorem n_radd : nsIn (hd.heap_39 w.params) mainGlobals (Str.ofString "radd") = some (some (.ref 76)) := by k_is
theorem k_radd : keepIn (hd.heap_39 w.params) (.ref 76) = true := by k_is
theorem n_rmul : nsIn (hd.heap_39 w.params) mainGlobals (Str.ofString "rmul") = some (some (.ref 83)) := by k_is
theorem k_rmul : keepIn (hd.heap_39 w.params) (.ref 83) = true := by k_is
theorem n_shape : nsIn (hd.heap_39 w.params) mainGlobals (Str.ofString "shape") = some (some (.ref 104)) := by k_is
theorem k_shape : keepIn (hd.heap_39 w.params) (.ref 104) = true := by k_is
theorem n_need : nsIn (hd.heap_39 w.params) mainGlobals (Str.ofString "need_shape") = some (some (.ref 111)) := by k_is
theorem k_need : keepIn (hd.heap_39 w.params) (.ref 111) = true := by k_is
theorem n_dot : nsIn (hd.heap_39 w.params) mainGlobals (Str.ofString "dot") = some (some (.ref 133)) := by k_is
theorem k_dot : keepIn (hd.heap_39 w.params) (.ref 133) = true := by k_is
theorem n_transposed : nsIn (hd.heap_39 w.params) mainGlobals (Str.ofString "transposed") = some (some (.ref 126)) := by k_is
theorem k_transposed : keepIn (hd.heap_39 w.params) (.ref 126) = true := by k_is
end

section
variable {M : Model} {prog : Program} {w : World} {A : Around} {env : Env} {I : Heap → Heap → Prop}
theorem tv_not {e : Expr} {pos : Pos} {b : Bool} (h : Tv M A env e I b) : Tv M A env (.UnaryOp .Not e pos) I (!b) :=
  fun E s g i k => isTrue_not (wpAny_mono (h E s g i k) (fun c s' q => ⟨by rw [q.1], q.2⟩) fun _ _ e => e)
theorem tv_bool {e : Expr} {b : Bool} (h : Ev M A env e I (BoolV b)) (hp : PySem.isTrue e env (eval e env) = (do let v ← eval e env; standAt e.pos; holding [v] (truthy v)) := by rfl) : Tv M A env e I b :=
  fun E s g i k => isTrue_plain (wpAny_mono (h E s g i k) (fun v s' q => by
    obtain ⟨g', hv, gr, k', K⟩ := q
    cases hv
    exact wpAny_truthy_bool ⟨rfl, g', gr, k', K⟩) fun _ _ e => e) hp

theorem need_v (r : Room A 1) (u v : Value) : Cv (model prog w) A (.ref 111) [u, v] (fun g => Bs w g ∧ BoolV true u g ∧ True) NoneV := by
  refine cv_def (n := 0) (binds := [(Str.ofString "is_right", u), (Str.ofString "text", v)]) r (fun g i => i.1) (by k_is) (by k_is) rfl rfl (by decide) rfl rfl rfl ?_
  intro L g env he ap i
  subst he
  obtain ⟨B, hu, _⟩ := i
  exact bx_cons (sx_if_no (tv_not (tv_bool (ev_var u rfl BoolV.mono hu))) rfl) fun val' g' k e => bx_nil rfl

/-- the first row's length -/
noncomputable def wide : List (List Int) → Nat
  | [] => 0
  | r :: _ => r.length

theorem ev_len {α : Type} {R : α → Value → Heap → Prop} {e : Expr} {fp pos : Pos} {xs : List α} (mR : ∀ x, MonoV (R x)) (hI : Mono2 I) (hB : ∀ h g, I h g → Bs w g) (hf : (xs.length : Int) < 2 ^ 63) (h : Ev (model prog w) A env e I (LstV R xs))
    (hg : env.globals = mainGlobals := by rfl) (hbl : env.builtins = builtinsNs := by rfl) (hkd : env.kindOf (Str.ofString "len") = some .globalImplicit := by rfl) (hk : env.scope.kind = .function := by rfl)
    (he : starEach [e] env = (false, eval e env) :: starEach [] env := by rfl) : Ev (model prog w) A env (.Call (.Name (Str.ofString "len") fp) [e] [] pos) I (IntV xs.length) :=
  ev_callBG (Ps := [LstV R xs]) hI hB n_len boot_len (evs_cons hI (LstV.mono mR _) h evs_nil he) (cv_len hf) (by decide) hg hbl hkd hk (by decide) he rfl
theorem ev_range1 {e : Expr} {fp pos : Pos} {n : Int} (hI : Mono2 I) (hB : ∀ h g, I h g → Bs w g) (h : Ev (model prog w) A env e I (IntV n))
    (hg : env.globals = mainGlobals := by rfl) (hbl : env.builtins = builtinsNs := by rfl) (hkd : env.kindOf (Str.ofString "range") = some .globalImplicit := by rfl) (hk : env.scope.kind = .function := by rfl)
    (he : starEach [e] env = (false, eval e env) :: starEach [] env := by rfl) : Ev (model prog w) A env (.Call (.Name (Str.ofString "range") fp) [e] [] pos) I (RangeV 0 n) :=
  ev_callTG (Ps := [IntV n]) hI hB n_range boot_range (evs_cons hI IntV.mono h evs_nil he) cv_range1 (by decide) hg hbl hkd hk (by decide) he rfl
theorem ev_range2 {e₁ e₂ : Expr} {fp pos : Pos} {a n : Int} (hI : Mono2 I) (hB : ∀ h g, I h g → Bs w g) (h₁ : Ev (model prog w) A env e₁ I (IntV a)) (h₂ : Ev (model prog w) A env e₂ I (IntV n))
    (hg : env.globals = mainGlobals := by rfl) (hbl : env.builtins = builtinsNs := by rfl) (hkd : env.kindOf (Str.ofString "range") = some .globalImplicit := by rfl) (hk : env.scope.kind = .function := by rfl)
    (he : starEach [e₁, e₂] env = (false, eval e₁ env) :: starEach [e₂] env := by rfl) (he₂ : starEach [e₂] env = (false, eval e₂ env) :: starEach [] env := by rfl) (hpl : ∀ pos, (backTo pos (starEach [e₂] env)).any (·.1) = false := by intro _; rfl) :
    Ev (model prog w) A env (.Call (.Name (Str.ofString "range") fp) [e₁, e₂] [] pos) I (RangeV a n) :=
  ev_callTG (Ps := [IntV a, IntV n]) hI hB n_range boot_range (evs_cons hI IntV.mono h₁ (evs_cons hI IntV.mono h₂ evs_nil he₂) he) cv_range2 (by decide) hg hbl hkd hk (by decide) he (hpl _)

theorem shape_v {M : List (List Int)} (r : Room A 1) (hM : (M.length : Int) < 1000) (hr : ∀ x ∈ M, (x.length : Int) < 1000) (u : Value) : Cv (model prog w) A (.ref 104) [u] (fun g => Bs w g ∧ RatMat M u g) (PairV (IntV M.length) (IntV (wide M))) := by
  refine cv_def (n := 0) (binds := [(Str.ofString "a", u)]) r (fun g i => i.1) (by k_is) (by k_is) rfl rfl (by decide) rfl rfl rfl ?_
  intro L g env he ap i
  subst he
  obtain ⟨B, hu⟩ := i
  refine bx_ret (ev_pairV Cx.mono IntV.mono IntV.mono ?_ ?_)
  · exact ev_len (fun _ => RatRow.mono) Cx.mono (fun h g' c => B.mono c.2) (by omega) (ev_var u rfl RatMat.mono hu)
  · refine ev_ifexp (b := decide ((0 : Int) < M.length)) Cx.mono (ev_gt Cx.mono (ev_len (fun _ => RatRow.mono) Cx.mono (fun h g' c => B.mono c.2) (by omega) (ev_var u rfl RatMat.mono hu)) ev_int) (fun e => ?_) (fun e => ?_)
    · cases M with
      | nil => simp at e
      | cons r M =>
        have := hr r (.head _)
        exact ev_len (xs := r) (fun _ => RatV.mono) Cx.mono (fun h g' c => B.mono c.2) (by omega) (ev_subscript (R := fun r => RatRow r) (fun _ => RatRow.mono) (k := 0) Cx.mono (by decide) (by decide) rfl (fun _ _ => by with_unfolding_all rfl) (ev_var u rfl RatMat.mono hu) ev_int)
    · cases M with
      | nil => exact ev_int
      | cons r M => simp at e

theorem from_whole_v {M : List (List Int)} (r : Room A 1) (hM : M.length ≤ sizeLine) (hr : ∀ x ∈ M, x.length ≤ sizeLine) (u : Value) : Cv (model prog w) A (.ref 116) [u] (fun g => Bs w g ∧ IntMat M u g) (RatMat M) := by
  refine cv_def (n := 0) (binds := [(Str.ofString "a", u)]) r (fun g i => i.1) (by k_is) (by k_is) rfl rfl (by decide) rfl rfl rfl ?_
  intro L g env he ap i
  subst he
  obtain ⟨B, hu⟩ := i
  rw [show RatMat M = LstV RatRow (M.map fun x => x) by rw [List.map_id']]
  refine bx_ret (comp_list (R := fun r => IntRow r) (cl := []) (fun x => x) Cx.mono (fun _ => IntRow.mono) (fun _ => RatRow.mono) r.hh hM (by with_unfolding_all rfl) rfl (by decide) (fun _ => rfl) (ev_var u rfl IntMat.mono hu) (fun C => .inl rfl) ?_)
  intro C y v val hy mI
  rw [show RatRow y = LstV RatV (y.map fun x => x) by rw [List.map_id']]
  refine comp_list (R := IntV) (cl := []) (fun x => x) mI (fun _ => IntV.mono) (fun _ => RatV.mono) r.hh (hr y hy) (by with_unfolding_all rfl) rfl (by decide) (fun _ => rfl) (ev_name v (fun h g' c k => c.2.2.sees (.inl rfl) (by simp [upd])) (fun h g' c => c.2.1) (by rfl) (by decide)) (fun C => .inl rfl) ?_
  intro C' x v' val' hx mI'
  exact ev_ratpair mI' (ev_name v' (fun h g' c k => c.2.2.sees (.inl rfl) (by simp [upd])) (fun h g' c => c.2.1) (by rfl) (by decide)) ev_int
end


section
variable {w : World}
theorem n_R0 : nsIn (hd.heap_39 w.params) mainGlobals (Str.ofString "R0") = some (some (.ref 61)) := by k_is
theorem n_R1 : nsIn (hd.heap_39 w.params) mainGlobals (Str.ofString "R1") = some (some (.ref 62)) := by k_is
theorem r0_is {g : Heap} (B : Bs w g) : RatV 0 (.ref 61) g := by
  obtain ⟨p, loose, mean, mg, mb, X, T⟩ := B
  exact ⟨61, _, _, rfl, _, X _ _ (by k_is), rfl, _, rfl⟩
theorem r1_is {g : Heap} (B : Bs w g) : RatV 1 (.ref 62) g := by
  obtain ⟨p, loose, mean, mg, mb, X, T⟩ := B
  exact ⟨62, _, _, rfl, _, X _ _ (by k_is), rfl, _, rfl⟩
end

section
variable {prog : Program} {w : World} {A : Around} {env : Env} {I : Heap → Heap → Prop}
theorem ev_R0 {pos : Pos} (hB : ∀ h g, I h g → Bs w g) (hg : env.globals = mainGlobals := by rfl) (hkd : env.kindOf (Str.ofString "R0") = some .globalImplicit := by rfl) (hk : env.scope.kind = .function := by rfl) : Ev (model prog w) A env (.Name (Str.ofString "R0") pos) I (RatV 0) :=
  ev_name (.ref 61) (fun h g c k => sees_glob (hB _ _ c) k n_R0 hg hkd) (fun h g c => r0_is (hB _ _ c)) hk (by decide)
theorem ev_R1 {pos : Pos} (hB : ∀ h g, I h g → Bs w g) (hg : env.globals = mainGlobals := by rfl) (hkd : env.kindOf (Str.ofString "R1") = some .globalImplicit := by rfl) (hk : env.scope.kind = .function := by rfl) : Ev (model prog w) A env (.Name (Str.ofString "R1") pos) I (RatV 1) :=
  ev_name (.ref 62) (fun h g c k => sees_glob (hB _ _ c) k n_R1 hg hkd) (fun h g c => r1_is (hB _ _ c)) hk (by decide)

noncomputable def unitM (n : Nat) : List (List Int) := (List.range n).map fun (i : Nat) => (List.range n).map fun (j : Nat) => if (0 + (i : Int)) == (0 + (j : Int)) then 1 else 0

theorem unit_matrix_v {n : Nat} (r : Room A 1) (hn : n < 1000) (u : Value) : Cv (model prog w) A (.ref 121) [u] (fun g => Bs w g ∧ IntV n u g) (RatMat (unitM n)) := by
  refine cv_def (n := 0) (binds := [(Str.ofString "n", u)]) r (fun g i => i.1) (by k_is) (by k_is) rfl rfl (by decide) rfl rfl rfl ?_
  intro L g env he ap i
  subst he
  obtain ⟨B, hu⟩ := i
  have hz : n ≤ sizeLine := by rw [sizeLine_eq]; omega
  have h0 : (-(2 ^ 62) : Int) ≤ 0 := by decide
  have h0' : (0 : Int) < 2 ^ 62 := by decide
  have hn1 : (-(2 ^ 62) : Int) ≤ n := by omega
  have hn2 : (n : Int) < 2 ^ 62 := by omega
  have hn3 : (n : Int) = if (0 : Int) < n then (n : Int) - 0 else 0 := by split <;> omega
  refine bx_ret (comp_range (cl := [(Str.ofString "n", L + 1)]) (fun x => (List.range n).map fun (j : Nat) => if x == (0 + (j : Int)) then (1 : Int) else 0) Cx.mono (fun _ => RatRow.mono) r.hh hz h0 h0' hn1 hn2 hn3 (by with_unfolding_all rfl) rfl (by decide) (fun _ => rfl)
    (ev_range1 Cx.mono (fun h g' c => B.mono c.2) (ev_var u rfl IntV.mono hu (.inr ⟨rfl, _, rfl, rfl⟩))) (fun C => .inr ⟨rfl, _, rfl, rfl⟩) ?_)
  intro C i t val hi mI
  refine comp_range (cl := [(Str.ofString "row", C + 1)]) (fun y => if (0 + (i : Int)) == y then (1 : Int) else 0) mI (fun _ => RatV.mono) r.hh hz h0 h0' hn1 hn2 hn3 (by with_unfolding_all rfl) rfl (by decide) (fun _ => rfl)
    (ev_range1 mI (fun h g' c => B.mono c.1.2) (ev_name u (fun h g' c k => sees_up c.1.1 rfl rfl rfl rfl rfl) (fun h g' c => hu) (by rfl) (by decide))) (fun C => .inl rfl) ?_
  intro C' j t' val' hj mI'
  refine ev_ifexp mI' (ev_eq (a := 0 + (i : Int)) (b := 0 + (j : Int)) mI' (ev_name (.int (0 + (i : Int)) t) (fun h g' c k => sees_up c.1.2.2 (by simp [upd]) rfl rfl rfl rfl) (fun h g' c => ⟨t, rfl⟩) (by rfl) (by decide)) (ev_name (.int (0 + (j : Int)) t') (fun h g' c k => c.2.2.sees (.inl rfl) (by simp [upd])) (fun h g' c => ⟨t', rfl⟩) (by rfl) (by decide))) (fun e => ?_) (fun e => ?_)
  · rw [e]; exact ev_R1 (fun h g' c => B.mono c.1.1.2)
  · rw [e]; exact ev_R0 (fun h g' c => B.mono c.1.1.2)

/-- the sum of the first i products -/
noncomputable def dotZ (xs ys : List Int) : Nat → Int
  | 0 => 0
  | i + 1 => dotZ xs ys i + xs.getD i 0 * ys.getD i 0

theorem dot_v {xs ys : List Int} (r : Room A 4) (hl : xs.length ≤ ys.length) (hz : xs.length < 1000) (hm : ∀ x ∈ xs, ∀ y, IntMulOk x y) (u v : Value) :
    Cv (model prog w) A (.ref 133) [u, v] (fun g => Bs w g ∧ RatRow xs u g ∧ RatRow ys v g) (RatV (dotZ xs ys xs.length)) := by
  refine cv_def (n := 3) (binds := [(Str.ofString "one", u), (Str.ofString "other", v)]) r (fun g i => i.1) (by k_is) (by k_is) rfl rfl (by decide) rfl rfl rfl ?_
  intro L g env he ap i
  subst he
  obtain ⟨B, hu, hv⟩ := i
  refine bx_cons (sx_assign (P := RatV 0) rfl ap (.inl rfl) (ev_R0 (fun h g' c => B.mono c.2)) rfl) ?_
  rintro val₁ g₁ k₁ ⟨f, rfl, hf⟩
  have B₁ := B.mono k₁
  have hu₁ := RatRow.mono _ _ _ k₁ hu
  have hv₁ := RatRow.mono _ _ _ k₁ hv
  refine bx_cons (sx_for (Qn := fun val g => ∃ f, val (Str.ofString "found") = some f ∧ RatV (dotZ xs ys xs.length) f g) (fun i val g => ∃ f, val (Str.ofString "found") = some f ∧ RatV (dotZ xs ys i) f g ∧ val (Str.ofString "other") = some v)
    rfl ap (fun _ => rfl) (source_enum (R := RatV) (fun _ => RatV.mono) r.hh Cx.mono (ev_var u rfl RatRow.mono hu₁) (fun h g' c k => sees_built (B₁.mono c.2) k n_enumerate boot_enumerate (by decide) rfl rfl rfl) rfl) ?_ ?_ ?_ ?_ ?_) ?_
  · rintro i val g g' k ⟨f, e, h, e'⟩
    exact ⟨f, e, RatV.mono _ _ _ k h, e'⟩
  · rintro i bs g ⟨t, v, y, rfl, _, _⟩ z hz
    rcases List.mem_cons.mp hz with rfl | hz
    · exact .inl rfl
    · rw [List.mem_singleton.mp hz]; exact .inl rfl
  · intro g' k
    exact ⟨f, rfl, RatV.mono _ _ _ k hf, rfl⟩
  · rintro i val' g' bs hi kg ⟨f', ef, hf', ev⟩ ⟨t, x, y, rfl, hy, hx⟩
    have hlt : i < ys.length := by omega
    have ey : xs.getD i 0 = y := by rw [List.getD_eq_getElem?_getD, hy]; rfl
    have ez : ys[i]? = some (ys.getD i 0) := by rw [List.getD_eq_getElem?_getD, List.getElem?_eq_getElem hlt]; rfl
    have hv' := RatRow.mono _ _ _ kg hv₁
    refine bx_cons (sx_assign (P := RatV (dotZ xs ys (i + 1))) rfl ap (.inl rfl) ?_ rfl) ?_
    · show Ev _ _ _ _ _ (RatV (dotZ xs ys i + xs.getD i 0 * ys.getD i 0))
      rw [ey]
      refine ev_callG (Ps := [RatV (dotZ xs ys i), RatV (y * ys.getD i 0)]) Cx.mono (fun h g' c => (B₁.mono kg).mono c.2) n_radd k_radd (evs_cons Cx.mono RatV.mono ?_ (evs_cons Cx.mono RatV.mono ?_ evs_nil)) (cv_args2 fun u v => radd_v (r.deeper _) u v)
      · exact ev_var f' ef RatV.mono hf'
      · refine ev_callG (Ps := [RatV y, RatV (ys.getD i 0)]) Cx.mono (fun h g' c => (B₁.mono kg).mono c.2) n_rmul k_rmul (evs_cons Cx.mono RatV.mono ?_ (evs_cons Cx.mono RatV.mono ?_ evs_nil)) (cv_args2 fun u v => rmul_v (r.deeper _) (hm y (List.mem_of_getElem? hy) _) u v)
        · exact ev_var x rfl RatV.mono hx
        · exact ev_subscript (R := RatV) (xs := ys) (k := (i : Int)) (fun _ => RatV.mono) Cx.mono (by omega) (by omega) (by simpa using ez) (fun _ _ => by with_unfolding_all rfl) (ev_var v ev RatRow.mono hv') (ev_var (.int (i : Int) t) rfl IntV.mono ⟨t, rfl⟩)
    · rintro val₂ g₂ k₂ ⟨f₂, rfl, hf₂⟩
      exact bx_nil ⟨f₂, rfl, hf₂, ev⟩
  · rintro val' g' kg ⟨f', ef, hf', _⟩
    exact ⟨f', ef, hf'⟩
  · rintro val₂ g₂ k₂ ⟨f₂, e₂, h₂⟩
    exact bx_ret (ev_var f₂ e₂ RatV.mono h₂)
end


section
variable {prog : Program} {w : World} {A : Around} {env : Env} {I : Heap → Heap → Prop}
theorem ev_fst {value : Expr} {pos pos' : Pos} {kd : Nat} {P₁ P₂ : Value → Heap → Prop} (hv : Ev (model prog w) A env value I (PairV P₁ P₂)) :
    Ev (model prog w) A env (.Subscript value (.Constant (.int 0) kd pos') pos) I P₁ :=
  ev_item2 (j := 0) (.inl rfl) (hv.conseq fun _ _ ⟨a, x, y, e, hT, p, q⟩ => ⟨a, _, _, x, e, hT, rfl, p⟩)
theorem ev_snd {value : Expr} {pos pos' : Pos} {kd : Nat} {P₁ P₂ : Value → Heap → Prop} (hv : Ev (model prog w) A env value I (PairV P₁ P₂)) :
    Ev (model prog w) A env (.Subscript value (.Constant (.int 1) kd pos') pos) I P₂ :=
  ev_item2 (j := 1) (.inr rfl) (hv.conseq fun _ _ ⟨a, x, y, e, hT, p, q⟩ => ⟨a, _, _, y, e, hT, rfl, q⟩)

theorem ev_shape {e : Expr} {fp pos : Pos} {M : List (List Int)} (r : Room A 1) (hM : (M.length : Int) < 1000) (hr : ∀ x ∈ M, (x.length : Int) < 1000) (hI : Mono2 I) (hB : ∀ h g, I h g → Bs w g) (h : Ev (model prog w) A env e I (RatMat M))
    (hg : env.globals = mainGlobals := by rfl) (hkd : env.kindOf (Str.ofString "shape") = some .globalImplicit := by rfl) (hk : env.scope.kind = .function := by rfl)
    (he : starEach [e] env = (false, eval e env) :: starEach [] env := by rfl) : Ev (model prog w) A env (.Call (.Name (Str.ofString "shape") fp) [e] [] pos) I (PairV (IntV M.length) (IntV (wide M))) :=
  ev_callG (Ps := [RatMat M]) hI hB n_shape k_shape (evs_cons hI RatMat.mono h evs_nil he) (cv_args1 fun u => shape_v r hM hr u) hg hkd hk (by decide) he rfl

theorem ev_eqI {l r : Expr} {pos : Pos} {a b : Int} {c : Bool} (hI : Mono2 I) (hc : (a == b) = c) (hl : Ev (model prog w) A env l I (IntV a)) (hr : Ev (model prog w) A env r I (IntV b)) (hm : behindInMarks .Eq r = false := by with_unfolding_all rfl) : Ev (model prog w) A env (.Compare l [.Eq] [r] pos) I (BoolV c) :=
  ev_cmp hI (fun E Q s t u h => eq_int (by rw [hc]; exact h)) hl hr hm
/-- need_shape(test, text), where the test holds -/
theorem sx_need {test : Expr} {x : Str} {kd : Nat} {fp p₂ pos spos : Pos} {val : Str → Option Value} {g : Heap} {Qr : Value → Heap → Prop} (r : Room A 1) (B : Bs w g) (h : Ev (model prog w) A env test (Cx env val g) (BoolV true))
    (hi : interactive env = false := by rfl) (hg : env.globals = mainGlobals := by rfl) (hkd : env.kindOf (Str.ofString "need_shape") = some .globalImplicit := by rfl) (hk : env.scope.kind = .function := by rfl)
    (he : starEach [test, .Constant (.str x) kd p₂] env = (false, eval test env) :: starEach [.Constant (.str x) kd p₂] env := by rfl) :
    Sx (model prog w) A env (.Expr (.Call (.Name (Str.ofString "need_shape") fp) [test, .Constant (.str x) kd p₂] [] pos) spos) val g (fun val' _ => val' = val) Qr :=
  sx_expr (ev_callG (Ps := [BoolV true, fun _ _ => True]) Cx.mono (fun h g' c => B.mono c.2) n_need k_need (evs_cons Cx.mono BoolV.mono h (evs_cons Cx.mono (fun _ _ _ _ h => h) ev_str evs_nil rfl) he) (cv_args2 fun u v => need_v r u v) hg hkd hk (by decide) he rfl) hi rfl

noncomputable def transM (M : List (List Int)) : List (List Int) := (List.range (wide M)).map fun (j : Nat) => M.map fun r => r.getD (0 + (j : Int)).toNat 0

theorem transposed_v {M : List (List Int)} (r : Room A 2) (hM : (M.length : Int) < 1000) (hr : ∀ x ∈ M, (x.length : Int) < 1000) (hw : ∀ x ∈ M, wide M ≤ x.length) (u : Value) : Cv (model prog w) A (.ref 126) [u] (fun g => Bs w g ∧ RatMat M u g) (RatMat (transM M)) := by
  refine cv_def (n := 1) (binds := [(Str.ofString "a", u)]) r (fun g i => i.1) (by k_is) (by k_is) rfl rfl (by decide) rfl rfl rfl ?_
  intro L g env he ap i
  subst he
  obtain ⟨B, hu⟩ := i
  have hwd : wide M < 1000 := by
    cases M with
    | nil => decide
    | cons x M => have := hr x (.head _); show x.length < 1000; omega
  have hz : wide M ≤ sizeLine := by rw [sizeLine_eq]; omega
  have h0 : (-(2 ^ 62) : Int) ≤ 0 := by decide
  have h0' : (0 : Int) < 2 ^ 62 := by decide
  have hn1 : (-(2 ^ 62) : Int) ≤ wide M := by omega
  have hn2 : (wide M : Int) < 2 ^ 62 := by omega
  have hn3 : (wide M : Int) = if (0 : Int) < wide M then (wide M : Int) - 0 else 0 := by split <;> omega
  refine bx_ret (comp_range (cl := [(Str.ofString "a", L + 1)]) (fun x => M.map fun r => r.getD x.toNat 0) Cx.mono (fun _ => RatRow.mono) r.hh hz h0 h0' hn1 hn2 hn3 (by with_unfolding_all rfl) rfl (by decide) (fun _ => rfl)
    (ev_range1 Cx.mono (fun h g' c => B.mono c.2) (ev_snd (ev_shape (r.deeper _) hM hr Cx.mono (fun h g' c => B.mono c.2) (ev_var u rfl RatMat.mono hu (.inr ⟨rfl, _, rfl, rfl⟩))))) (fun C => .inr ⟨rfl, _, rfl, rfl⟩) ?_)
  intro C i t val hi mI
  refine comp_list (R := fun r => RatRow r) (cl := [(Str.ofString "column", C + 1)]) (fun r => r.getD (0 + (i : Int)).toNat 0) mI (fun _ => RatRow.mono) (fun _ => RatV.mono) r.hh (by rw [sizeLine_eq]; omega) (by with_unfolding_all rfl) rfl (by decide) (fun _ => rfl)
    (ev_name u (fun h g' c k => sees_up c.1.1 rfl rfl rfl rfl rfl) (fun h g' c => RatMat.mono _ _ _ c.1.2 hu) (by rfl) (by decide)) (fun C => .inl rfl) ?_
  intro C' y v val' hy mI'
  have hlt : i < y.length := Nat.lt_of_lt_of_le hi (hw y hy)
  refine ev_subscript (R := RatV) (xs := y) (k := 0 + (i : Int)) (fun _ => RatV.mono) mI' (by omega) (by omega) (by rw [List.getD_eq_getElem?_getD, show (0 + (i : Int)).toNat = i by omega, List.getElem?_eq_getElem hlt]; rfl) (fun _ _ => by with_unfolding_all rfl)
    (ev_name v (fun h g' c k => c.2.2.sees (.inl rfl) (by simp [upd])) (fun h g' c => c.2.1) (by rfl) (by decide)) (ev_name (.int (0 + (i : Int)) t) (fun h g' c k => sees_up c.1.2.2 (by simp [upd]) rfl rfl rfl rfl) (fun h g' c => ⟨t, rfl⟩) (by rfl) (by decide))

noncomputable def traceZ (M : List (List Int)) : Nat → Int
  | 0 => 0
  | i + 1 => traceZ M i + (M.getD i []).getD i 0

theorem trace_v {M : List (List Int)} (r : Room A 4) (hM : M.length < 1000) (hr : ∀ x ∈ M, x.length = M.length) (u : Value) : Cv (model prog w) A (.ref 155) [u] (fun g => Bs w g ∧ RatMat M u g) (RatV (traceZ M M.length)) := by
  refine cv_def (n := 3) (binds := [(Str.ofString "a", u)]) r (fun g i => i.1) (by k_is) (by k_is) rfl rfl (by decide) rfl rfl rfl ?_
  intro L g env he ap i
  subst he
  obtain ⟨B, hu⟩ := i
  have hwd : wide M = M.length := by
    cases M with
    | nil => rfl
    | cons x M => exact hr x (.head _)
  refine bx_cons (sx_need (r.deeper _ |>.less (by decide)) B ?_) ?_
  · exact ev_eqI (a := (M.length : Int)) (b := (wide M : Int)) Cx.mono (by rw [hwd]; simp) (ev_len (fun _ => RatRow.mono) Cx.mono (fun h g' c => B.mono c.2) (by omega) (ev_var u rfl RatMat.mono hu)) (ev_snd (ev_shape (r.deeper _ |>.less (by decide)) (by omega) (fun x hx => by rw [hr x hx]; omega) Cx.mono (fun h g' c => B.mono c.2) (ev_var u rfl RatMat.mono hu)))
  rintro val₀ g₀ k₀ rfl
  have B := B.mono k₀
  have hu := RatMat.mono _ _ _ k₀ hu
  refine bx_cons (sx_assign (P := RatV 0) rfl ap (.inl rfl) (ev_R0 (fun h g' c => B.mono c.2)) rfl) ?_
  rintro val₁ g₁ k₁ ⟨f, rfl, hf⟩
  have B₁ := B.mono k₁
  have hu₁ := RatMat.mono _ _ _ k₁ hu
  refine bx_cons (sx_for (Qn := fun val g => ∃ f, val (Str.ofString "found") = some f ∧ RatV (traceZ M M.length) f g) (fun i val g => ∃ f, val (Str.ofString "found") = some f ∧ RatV (traceZ M i) f g ∧ val (Str.ofString "a") = some u)
    rfl ap (fun _ => rfl) (source_range (a := 0) (b := M.length) (n := M.length) r.hh Cx.mono (by decide) (by decide) (by omega) (by omega) (by split <;> omega) (ev_range1 Cx.mono (fun h g' c => B₁.mono c.2) (ev_len (fun _ => RatRow.mono) Cx.mono (fun h g' c => B₁.mono c.2) (by omega) (ev_var u rfl RatMat.mono hu₁)))) ?_ ?_ ?_ ?_ ?_) ?_
  · rintro i val g g' k ⟨f, e, h, e'⟩
    exact ⟨f, e, RatV.mono _ _ _ k h, e'⟩
  · rintro i bs g ⟨t, _, rfl⟩ z hz
    rw [List.mem_singleton.mp hz]; exact .inl rfl
  · intro g' k
    exact ⟨f, rfl, RatV.mono _ _ _ k hf, rfl⟩
  · rintro i val' g' bs hi kg ⟨f', ef, hf', ev⟩ ⟨t, _, rfl⟩
    have hu' := RatMat.mono _ _ _ kg hu₁
    have e1 : M[i]? = some (M.getD i []) := by rw [List.getD_eq_getElem?_getD, List.getElem?_eq_getElem hi]; rfl
    have hl : (M.getD i []).length = M.length := hr _ (List.mem_of_getElem? e1)
    have e2 : (M.getD i [])[i]? = some ((M.getD i []).getD i 0) := by rw [List.getD_eq_getElem?_getD (l := M.getD i []), List.getElem?_eq_getElem (by rw [hl]; exact hi)]; rfl
    refine bx_cons (sx_assign (P := RatV (traceZ M (i + 1))) rfl ap (.inl rfl) (ev_callG (Ps := [RatV (traceZ M i), RatV ((M.getD i []).getD i 0)]) Cx.mono (fun h g' c => (B₁.mono kg).mono c.2) n_radd k_radd (evs_cons Cx.mono RatV.mono (ev_var f' ef RatV.mono hf') (evs_cons Cx.mono RatV.mono ?_ evs_nil)) (cv_args2 fun u v => radd_v (r.deeper _) u v)) rfl) ?_
    · exact ev_subscript (R := RatV) (k := 0 + (i : Int)) (fun _ => RatV.mono) Cx.mono (by omega) (by omega) (by rw [show (0 + (i : Int)).toNat = i by omega]; exact e2) (fun _ _ => by with_unfolding_all rfl) (ev_subscript (R := fun r => RatRow r) (k := 0 + (i : Int)) (fun _ => RatRow.mono) Cx.mono (by omega) (by omega) (by rw [show (0 + (i : Int)).toNat = i by omega]; exact e1) (fun _ _ => by with_unfolding_all rfl) (ev_var u ev RatMat.mono hu') (ev_var (.int (0 + (i : Int)) t) rfl IntV.mono ⟨t, rfl⟩)) (ev_var (.int (0 + (i : Int)) t) rfl IntV.mono ⟨t, rfl⟩)
    · rintro val₂ g₂ k₂ ⟨f₂, rfl, hf₂⟩
      exact bx_nil ⟨f₂, rfl, hf₂, ev⟩
  · rintro val' g' kg ⟨f', ef, hf', _⟩
    exact ⟨f', ef, hf'⟩
  · rintro val₂ g₂ k₂ ⟨f₂, e₂, h₂⟩
    exact bx_ret (ev_var f₂ e₂ RatV.mono h₂)
end


section
variable {prog : Program} {w : World} {A : Around} {env : Env} {I : Heap → Heap → Prop}

theorem mat_scale_v {M : List (List Int)} {x : Int} (r : Room A 4) (hM : M.length < 1000) (hr : ∀ y ∈ M, y.length < 1000) (hm : ∀ y ∈ M, ∀ z ∈ y, IntMulOk z x) (u v : Value) :
    Cv (model prog w) A (.ref 143) [u, v] (fun g => Bs w g ∧ RatMat M u g ∧ RatV x v g) (RatMat (M.map fun y => y.map fun z => z * x)) := by
  refine cv_def (n := 3) (binds := [(Str.ofString "a", u), (Str.ofString "number", v)]) r (fun g i => i.1) (by k_is) (by k_is) rfl rfl (by decide) rfl rfl rfl ?_
  intro L g env he ap i
  subst he
  obtain ⟨B, hu, hv⟩ := i
  refine bx_ret (comp_list (R := fun r => RatRow r) (cl := [(Str.ofString "number", L + 1)]) (fun y => y.map fun z => z * x) Cx.mono (fun _ => RatRow.mono) (fun _ => RatRow.mono) r.hh (by rw [sizeLine_eq]; omega) (by with_unfolding_all rfl) rfl (by decide) (fun _ => rfl)
    (ev_var u rfl RatMat.mono hu) (fun C => .inl rfl) ?_)
  intro C y vy val hy mI
  refine comp_list (R := RatV) (cl := [(Str.ofString "number", L + 1)]) (fun z => z * x) mI (fun _ => RatV.mono) (fun _ => RatV.mono) r.hh (by have := hr y hy; rw [sizeLine_eq]; omega) (by with_unfolding_all rfl) rfl (by decide) (fun _ => rfl)
    (ev_name vy (fun h g' c k => c.2.2.sees (.inl rfl) (by simp [upd])) (fun h g' c => c.2.1) (by rfl) (by decide)) (fun C => .inl rfl) ?_
  intro C' z vz val' hz mI'
  exact ev_callG (Ps := [RatV z, RatV x]) mI' (fun h g' c => B.mono c.1.1.2) n_rmul k_rmul (evs_cons mI' RatV.mono (ev_name vz (fun h g' c k => c.2.2.sees (.inl rfl) (by simp [upd])) (fun h g' c => c.2.1) (by rfl) (by decide)) (evs_cons mI' RatV.mono (ev_name v (fun h g' c k => sees_up c.1.1.1 rfl rfl rfl rfl rfl) (fun h g' c => RatV.mono _ _ _ c.1.1.2 hv) (by rfl) (by decide)) evs_nil)) (cv_args2 fun u v => rmul_v (r.deeper _) (hm y hy z hz) u v)

theorem mat_mul_v {M N : List (List Int)} (r : Room A 5) (hM : M.length < 1000) (hN : N.length < 1000) (hMr : ∀ y ∈ M, y.length = N.length) (hMw : wide M = N.length) (hNr : ∀ y ∈ N, y.length < 1000) (hNw : ∀ y ∈ N, wide N ≤ y.length) (hm : ∀ y ∈ M, ∀ z ∈ y, ∀ t, IntMulOk z t) (u v : Value) :
    Cv (model prog w) A (.ref 148) [u, v] (fun g => Bs w g ∧ RatMat M u g ∧ RatMat N v g) (RatMat (M.map fun y => (transM N).map fun c => dotZ y c y.length)) := by
  refine cv_def (n := 4) (binds := [(Str.ofString "a", u), (Str.ofString "b", v)]) r (fun g i => i.1) (by k_is) (by k_is) rfl rfl (by decide) rfl rfl rfl ?_
  intro L g env he ap i
  subst he
  obtain ⟨B, hu, hv⟩ := i
  refine bx_cons (sx_need (r.deeper _ |>.less (by decide)) B ?_) ?_
  · exact ev_eqI (a := (wide M : Int)) (b := (N.length : Int)) Cx.mono (by rw [hMw]; simp) (ev_snd (ev_shape (r.deeper _ |>.less (by decide)) (by omega) (fun x hx => by rw [hMr x hx]; omega) Cx.mono (fun h g' c => B.mono c.2) (ev_var u rfl RatMat.mono hu))) (ev_len (fun _ => RatRow.mono) Cx.mono (fun h g' c => B.mono c.2) (by omega) (ev_var v rfl RatMat.mono hv))
  rintro val₀ g₀ k₀ rfl
  have B := B.mono k₀
  have hu := RatMat.mono _ _ _ k₀ hu
  have hv := RatMat.mono _ _ _ k₀ hv
  refine bx_cons (sx_assign (P := RatMat (transM N)) rfl ap (.inr ⟨rfl, _, rfl, rfl⟩) (ev_callG (Ps := [RatMat N]) Cx.mono (fun h g' c => B.mono c.2) n_transposed k_transposed (evs_cons Cx.mono RatMat.mono (ev_var v rfl RatMat.mono hv) evs_nil) (cv_args1 fun u => transposed_v (r.deeper _ |>.less (by decide)) (by omega) (fun x hx => by have := hNr x hx; omega) hNw u)) rfl) ?_
  rintro val₁ g₁ k₁ ⟨cv, rfl, hcv⟩
  have B₁ := B.mono k₁
  have hu₁ := RatMat.mono _ _ _ k₁ hu
  have hTl : (transM N).length < 1000 := by
    unfold transM
    rw [List.length_map, List.length_range]
    cases N with
    | nil => decide
    | cons x N => exact hNr x (.head _)
  refine bx_ret (comp_list (R := fun r => RatRow r) (cl := [(Str.ofString "columns", L + 1)]) (fun y => (transM N).map fun c => dotZ y c y.length) Cx.mono (fun _ => RatRow.mono) (fun _ => RatRow.mono) r.hh (by rw [sizeLine_eq]; omega) (by with_unfolding_all rfl) rfl (by decide) (fun _ => rfl)
    (ev_var u rfl RatMat.mono hu₁) (fun C => .inr ⟨rfl, _, rfl, rfl⟩) ?_)
  intro C y vy val hy mI
  refine comp_list (R := fun r => RatRow r) (cl := [(Str.ofString "row", C + 1)]) (fun c => dotZ y c y.length) mI (fun _ => RatRow.mono) (fun _ => RatV.mono) r.hh (by rw [sizeLine_eq]; omega) (by with_unfolding_all rfl) rfl (by decide) (fun _ => rfl)
    (ev_name cv (fun h g' c k => sees_up c.1.1 rfl rfl rfl rfl rfl) (fun h g' c => RatMat.mono _ _ _ c.1.2 hcv) (by rfl) (by decide)) (fun C => .inl rfl) ?_
  intro C' z vz val' hz mI'
  have hzl : z.length = N.length := by
    unfold transM at hz
    obtain ⟨j, _, rfl⟩ := List.mem_map.mp hz
    rw [List.length_map]
  have hyl := hMr y hy
  refine ev_callG (Ps := [RatRow y, RatRow z]) mI' (fun h g' c => B₁.mono c.1.1.2) n_dot k_dot (evs_cons mI' RatRow.mono (ev_name vy (fun h g' c k => sees_up c.1.2.2 (by simp [upd]) rfl rfl rfl rfl) (fun h g' c => c.1.2.1) (by rfl) (by decide)) (evs_cons mI' RatRow.mono (ev_name vz (fun h g' c k => c.2.2.sees (.inl rfl) (by simp [upd])) (fun h g' c => c.2.1) (by rfl) (by decide)) evs_nil)) (cv_args2 fun u v => dot_v (r.deeper _) (by omega) (by omega) (hm y hy) u v)

theorem tv_eqPair {l r : Expr} {pos : Pos} {a b a' b' : Int} (rm : Room A 0) (hI : Mono2 I) (hl : Ev (model prog w) A env l I (PairV (IntV a) (IntV b))) (hr : Ev (model prog w) A env r I (PairV (IntV a') (IntV b'))) (e : a = a') (e' : b = b') (hm : behindInMarks .Eq r = false := by with_unfolding_all rfl) : Ev (model prog w) A env (.Compare l [.Eq] [r] pos) I (BoolV true) := by
  subst e; subst e'
  intro E s g i k
  refine wpAny_Compare1 (hl.then hI i k fun v s₁ g₁ hp i₁ k₁ gr₁ K₁ => ?_) hm
  refine hr.then hI i₁ k₁ fun v' s₂ g₂ hp' i₂ k₂ gr₂ K₂ => ?_
  obtain ⟨p, x, y, rfl, hT, ⟨t, rfl⟩, ⟨u, rfl⟩⟩ := PairV.mono IntV.mono IntV.mono _ _ _ gr₂.up hp
  obtain ⟨p', x', y', rfl, hT', ⟨t', rfl⟩, ⟨u', rfl⟩⟩ := hp'
  have ea : ∀ (a : Int) (t t' : Tok), PySem.SeqAt.EqAt A.in1 s₂ (.int a t) (.int a t') true := fun a t t' => by
    have := (MeetsSeq.EqGives.int a a t t').at A.in1 s₂
    rwa [show (a == a) = true by simp] at this
  refine PySem.SeqAt.eq_tupleAt (e := fun _ => true) (isTup_mono k₂ hT) (isTup_mono k₂ hT') (by have := rm.un; omega) ?_ ?_
  · intro j h1 h2
    match j, h1, h2 with
    | 0, _, _ => exact ea a t t'
    | 1, _, _ => exact ea b u u'
  · exact ⟨g₂, rfl, gr₁.trans (keeps_stays K₁) gr₂, k₂, keeps_trans K₁ K₂⟩

theorem mat_add_v {M N : List (List Int)} (r : Room A 4) (hM : M.length < 1000) (hl : N.length = M.length) (hw : wide M = wide N) (hMr : ∀ y ∈ M, y.length < 1000) (hNr : ∀ y ∈ N, y.length < 1000) (hf : ∀ (i : Nat) (y : List Int), M[i]? = some y → (N.getD i []).length = y.length) (u v : Value) :
    Cv (model prog w) A (.ref 138) [u, v] (fun g => Bs w g ∧ RatMat M u g ∧ RatMat N v g) (RatMat (M.mapIdx fun i y => y.mapIdx fun j z => z + (N.getD i []).getD j 0)) := by
  refine cv_def (n := 3) (binds := [(Str.ofString "a", u), (Str.ofString "b", v)]) r (fun g i => i.1) (by k_is) (by k_is) rfl rfl (by decide) rfl rfl rfl ?_
  intro L g env he ap i
  subst he
  obtain ⟨B, hu, hv⟩ := i
  refine bx_cons (sx_need (r.deeper _ |>.less (by decide)) B ?_) ?_
  · exact tv_eqPair (r.deeper _ |>.less (by decide)) Cx.mono (ev_shape (r.deeper _ |>.less (by decide)) (by omega) (fun x hx => by have := hMr x hx; omega) Cx.mono (fun h g' c => B.mono c.2) (ev_var u rfl RatMat.mono hu)) (ev_shape (r.deeper _ |>.less (by decide)) (by omega) (fun x hx => by have := hNr x hx; omega) Cx.mono (fun h g' c => B.mono c.2) (ev_var v rfl RatMat.mono hv (.inr ⟨rfl, _, rfl, rfl⟩))) (by rw [hl]) (by rw [hw])
  rintro val₀ g₀ k₀ rfl
  have B := B.mono k₀
  have hu := RatMat.mono _ _ _ k₀ hu
  have hv := RatMat.mono _ _ _ k₀ hv
  refine bx_ret (comp_enum (R := fun r => RatRow r) (cl := [(Str.ofString "b", L + 1)]) (fun i y => y.mapIdx fun j z => z + (N.getD i []).getD j 0) Cx.mono (fun _ => RatRow.mono) (fun _ => RatRow.mono) r.hh (by rw [sizeLine_eq]; omega) (by with_unfolding_all rfl) rfl (by decide)
    (ev_var u rfl RatMat.mono hu) (fun h g' c k => sees_built (B.mono c.2) k n_enumerate boot_enumerate (by decide) rfl rfl rfl) rfl (fun C => ⟨.inr ⟨rfl, _, rfl, rfl⟩, .inl rfl⟩) rfl (fun _ => rfl) ?_)
  intro C i y vi vy val hy mI
  refine comp_enum (R := RatV) (cl := [(Str.ofString "row", C + 1), (Str.ofString "b", L + 1)]) (fun j z => z + (N.getD i []).getD j 0) mI (fun _ => RatV.mono) (fun _ => RatV.mono) r.hh (by have := hMr y (List.mem_of_getElem? hy); rw [sizeLine_eq]; omega) (by with_unfolding_all rfl) rfl (by decide)
    (ev_name vy (fun h g' c k => c.2.2.sees (.inl rfl) (by simp [upd])) (fun h g' c => c.2.1.2) (by rfl) (by decide)) (fun h g' c k => sees_built (B.mono c.1.2) k n_enumerate boot_enumerate (by decide) rfl rfl rfl) rfl (fun C => ⟨.inl rfl, .inl rfl⟩) rfl (fun _ => rfl) ?_
  intro C' j z vj vz val' hz mI'
  have hiM : i < M.length := (List.getElem?_eq_some_iff.mp hy).1
  have hjy : j < y.length := (List.getElem?_eq_some_iff.mp hz).1
  have hjy' := hMr y (List.mem_of_getElem? hy)
  have e1 : N[i]? = some (N.getD i []) := by rw [List.getD_eq_getElem?_getD, List.getElem?_eq_getElem (by omega)]; rfl
  have e2 : (N.getD i [])[j]? = some ((N.getD i []).getD j 0) := by rw [List.getD_eq_getElem?_getD (l := N.getD i []), List.getElem?_eq_getElem (by rw [hf i y hy]; exact hjy)]; rfl
  refine ev_callG (Ps := [RatV z, RatV ((N.getD i []).getD j 0)]) mI' (fun h g' c => B.mono c.1.1.2) n_radd k_radd (evs_cons mI' RatV.mono (ev_name vz (fun h g' c k => c.2.2.sees (.inl rfl) (by simp [upd])) (fun h g' c => c.2.1.2) (by rfl) (by decide)) (evs_cons mI' RatV.mono ?_ evs_nil)) (cv_args2 fun u v => radd_v (r.deeper _) u v)
  refine ev_subscript (R := RatV) (k := (j : Int)) (fun _ => RatV.mono) mI' (by omega) (by omega) (by simpa using e2) (fun _ _ => by with_unfolding_all rfl) (ev_subscript (R := fun r => RatRow r) (k := (i : Int)) (fun _ => RatRow.mono) mI' (by omega) (by omega) (by simpa using e1) (fun _ _ => by with_unfolding_all rfl) ?_ ?_) ?_
  · exact ev_name v (fun h g' c k => sees_up c.1.1.1 rfl rfl rfl rfl rfl) (fun h g' c => RatMat.mono _ _ _ c.1.1.2 hv) (by rfl) (by decide)
  · exact ev_name vi (fun h g' c k => sees_up c.1.2.2 rfl rfl rfl rfl rfl) (fun h g' c => c.1.2.1.1) (by rfl) (by decide)
  · exact ev_name vj (fun h g' c k => c.2.2.sees (.inl rfl) rfl) (fun h g' c => c.2.1.1) (by rfl) (by decide)
end


section
variable {w : World}
theorem n_sum : nsIn (hd.heap_39 w.params) mainGlobals (Str.ofString "sum") = some none := by k_is
theorem n_unit_rows : nsIn (hd.heap_39 w.params) mainGlobals (Str.ofString "unit_rows") = some (some (.ref 172)) := by k_is
theorem k_unit_rows : keepIn (hd.heap_39 w.params) (.ref 172) = true := by k_is
theorem n_whole_mul : nsIn (hd.heap_39 w.params) mainGlobals (Str.ofString "whole_mul") = some (some (.ref 177)) := by k_is
theorem k_whole_mul : keepIn (hd.heap_39 w.params) (.ref 177) = true := by k_is
end

section
variable {prog : Program} {w : World} {A : Around} {env : Env} {I : Heap → Heap → Prop}

theorem cv_sum1 {xs : List Int} {v : Value} (hh : A.handled = none) : Cv (model prog w) A (.builtin "sum") [v] (IntRow xs v) (IntV xs.sum) := by
  intro E s g i k
  obtain ⟨a, its, e, hl, hsz, hit⟩ := i
  subst e
  have hl₁ := isList_mono k hl
  have hne : a ≠ s.heap.objs.size := by obtain ⟨o, ho, _⟩ := hl₁; exact Nat.ne_of_lt (Heap.lt_size ho)
  refine PySem.call_sum_walkG (wpAny_pyIter_list hl₁ ?_)
  refine ⟨s.heap.objs.size, [s.heap.objs.size, a], [s.heap.objs.size], its.size, _, _, fun i => xs.getD i 0, rfl, Walks.list (A := A.in1) hh s.heap.objs.size a hne its, ⟨⟨_, get_push_new rfl, rfl, rfl⟩, isList_mono stays_push hl₁⟩, ?_, ?_, ?_⟩
  · intro b hb
    show b < (s.heap.push _).objs.size
    rw [Heap.size_push]
    rcases List.mem_cons.mp hb with rfl | hb
    · exact Nat.lt_succ_self _
    · rw [List.mem_singleton.mp hb]; obtain ⟨o, ho, _⟩ := hl₁; exact Nat.lt_succ_of_lt (Heap.lt_size ho)
  · intro i v hv
    have hlt : i < its.size := (Array.getElem?_eq_some_iff.mp hv).1
    have hx : xs[i]? = some (xs.getD i 0) := by rw [List.getD_eq_getElem?_getD, List.getElem?_eq_getElem (by rw [← hsz]; exact hlt)]; rfl
    obtain ⟨u, hu, t, e⟩ := hit i _ hx
    rw [hv] at hu; cases hu
    exact ⟨t, e⟩
  · intro h' tk t' kk
    have st : s.heap.StaysIn h' := fun b o e => kk b o (fun hb => by rw [List.mem_singleton.mp hb, get_size] at e; cases e) (Heap.get?_push_of_some _ e)
    refine ⟨g, ⟨t', ?_⟩, .refl _ _, stays_trans k st, h', tk, rfl, st⟩
    rw [PyProof.Rows.preSum_getD, hsz, List.take_length]

theorem cv_sum {xs : List Int} (hh : A.handled = none) (vs : List Value) : Cv (model prog w) A (.builtin "sum") vs (AllV [IntRow xs] vs) (IntV xs.sum) := by
  intro E s g i k
  obtain ⟨v, rfl, h⟩ := allV1 i
  exact cv_sum1 hh E s g h k

theorem unit_rows_v {n : Nat} (r : Room A 1) (hn : n < 1000) (u : Value) : Cv (model prog w) A (.ref 172) [u] (fun g => Bs w g ∧ IntV n u g) (IntMat (unitM n)) := by
  refine cv_def (n := 0) (binds := [(Str.ofString "n", u)]) r (fun g i => i.1) (by k_is) (by k_is) rfl rfl (by decide) rfl rfl rfl ?_
  intro L g env he ap i
  subst he
  obtain ⟨B, hu⟩ := i
  have hz : n ≤ sizeLine := by rw [sizeLine_eq]; omega
  have h0 : (-(2 ^ 62) : Int) ≤ 0 := by decide
  have h0' : (0 : Int) < 2 ^ 62 := by decide
  have hn1 : (-(2 ^ 62) : Int) ≤ n := by omega
  have hn2 : (n : Int) < 2 ^ 62 := by omega
  have hn3 : (n : Int) = if (0 : Int) < n then (n : Int) - 0 else 0 := by split <;> omega
  refine bx_ret (comp_range (cl := [(Str.ofString "n", L + 1)]) (fun x => (List.range n).map fun (j : Nat) => if x == (0 + (j : Int)) then (1 : Int) else 0) Cx.mono (fun _ => IntRow.mono) r.hh hz h0 h0' hn1 hn2 hn3 (by with_unfolding_all rfl) rfl (by decide) (fun _ => rfl)
    (ev_range1 Cx.mono (fun h g' c => B.mono c.2) (ev_var u rfl IntV.mono hu (.inr ⟨rfl, _, rfl, rfl⟩))) (fun C => .inr ⟨rfl, _, rfl, rfl⟩) ?_)
  intro C i t val hi mI
  refine comp_range (cl := [(Str.ofString "row", C + 1)]) (fun y => if (0 + (i : Int)) == y then (1 : Int) else 0) mI (fun _ => IntV.mono) r.hh hz h0 h0' hn1 hn2 hn3 (by with_unfolding_all rfl) rfl (by decide) (fun _ => rfl)
    (ev_range1 mI (fun h g' c => B.mono c.1.2) (ev_name u (fun h g' c k => sees_up c.1.1 rfl rfl rfl rfl rfl) (fun h g' c => hu) (by rfl) (by decide))) (fun C => .inl rfl) ?_
  intro C' j t' val' hj mI'
  refine ev_ifexp mI' (ev_eq (a := 0 + (i : Int)) (b := 0 + (j : Int)) mI' (ev_name (.int (0 + (i : Int)) t) (fun h g' c k => sees_up c.1.2.2 rfl rfl rfl rfl rfl) (fun h g' c => ⟨t, rfl⟩) (by rfl) (by decide)) (ev_name (.int (0 + (j : Int)) t') (fun h g' c k => c.2.2.sees (.inl rfl) rfl) (fun h g' c => ⟨t', rfl⟩) (by rfl) (by decide))) (fun e => ?_) (fun e => ?_)
  · rw [e]; exact ev_int
  · rw [e]; exact ev_int

noncomputable def mulZ (M N : List (List Int)) : List (List Int) :=
  M.map fun y => (List.range (wide N)).map fun (c : Nat) => ((List.range N.length).map fun (a : Nat) => y.getD (0 + (a : Int)).toNat 0 * (N.getD (0 + (a : Int)).toNat []).getD (0 + (c : Int)).toNat 0).sum

theorem whole_mul_v {M N : List (List Int)} (r : Room A 2) (hM : M.length < 1000) (hN : N.length < 1000) (hMr : ∀ y ∈ M, y.length = N.length) (hNr : ∀ y ∈ N, y.length < 1000) (hNw : ∀ y ∈ N, wide N ≤ y.length) (hm : ∀ y ∈ M, ∀ z ∈ y, ∀ t, IntMulOk z t) (u v : Value) :
    Cv (model prog w) A (.ref 177) [u, v] (fun g => Bs w g ∧ IntMat M u g ∧ IntMat N v g) (IntMat (mulZ M N)) := by
  refine cv_def (n := 1) (binds := [(Str.ofString "a", u), (Str.ofString "b", v)]) r (fun g i => i.1) (by k_is) (by k_is) rfl rfl (by decide) rfl rfl rfl ?_
  intro L g env he ap i
  subst he
  obtain ⟨B, hu, hv⟩ := i
  have hwd : wide N < 1000 := by
    cases N with
    | nil => decide
    | cons x N => exact hNr x (.head _)
  refine bx_cons (sx_assign (P := IntV (wide N)) rfl ap (.inr ⟨rfl, _, rfl, rfl⟩) (ev_ifexp (b := decide ((0 : Int) < N.length)) Cx.mono (ev_gt Cx.mono (ev_len (fun _ => IntRow.mono) Cx.mono (fun h g' c => B.mono c.2) (by omega) (ev_var v rfl IntMat.mono hv (.inr ⟨rfl, _, rfl, rfl⟩))) ev_int) (fun e => ?_) (fun e => ?_)) rfl) ?_
  · cases N with
    | nil => simp at e
    | cons x N =>
      have := hNr x (.head _)
      exact ev_len (xs := x) (fun _ => IntV.mono) Cx.mono (fun h g' c => B.mono c.2) (by omega) (ev_subscript (R := fun r => IntRow r) (fun _ => IntRow.mono) (k := 0) Cx.mono (by decide) (by decide) rfl (fun _ _ => by with_unfolding_all rfl) (ev_var v rfl IntMat.mono hv (.inr ⟨rfl, _, rfl, rfl⟩)) ev_int)
  · cases N with
    | nil => exact ev_int
    | cons x N => simp at e
  rintro val₁ g₁ k₁ ⟨wv, rfl, hwv⟩
  have B₁ := B.mono k₁
  have hu₁ := IntMat.mono _ _ _ k₁ hu
  have hv₁ := IntMat.mono _ _ _ k₁ hv
  have h0 : (-(2 ^ 62) : Int) ≤ 0 := by decide
  have h0' : (0 : Int) < 2 ^ 62 := by decide
  refine bx_ret (comp_list (R := fun r => IntRow r) (cl := [(Str.ofString "width", L + 2), (Str.ofString "b", L + 1)]) (fun y => (List.range (wide N)).map fun (c : Nat) => ((List.range N.length).map fun (a : Nat) => y.getD (0 + (a : Int)).toNat 0 * (N.getD (0 + (a : Int)).toNat []).getD (0 + (c : Int)).toNat 0).sum) Cx.mono (fun _ => IntRow.mono) (fun _ => IntRow.mono) r.hh (by rw [sizeLine_eq]; omega) (by with_unfolding_all rfl) rfl (by decide) (fun _ => rfl)
    (ev_var u rfl IntMat.mono hu₁) (fun C => .inr ⟨rfl, _, rfl, rfl⟩) ?_)
  intro C y vy val hy mI
  have hyl := hMr y hy
  refine comp_range (a := 0) (b := wide N) (n := wide N) (cl := [(Str.ofString "row", C + 1), (Str.ofString "b", L + 1)]) (fun c => ((List.range N.length).map fun (a : Nat) => y.getD (0 + (a : Int)).toNat 0 * (N.getD (0 + (a : Int)).toNat []).getD c.toNat 0).sum) mI (fun _ => IntV.mono) r.hh (by rw [sizeLine_eq]; omega) h0 h0' (by omega) (by omega) (by split <;> omega) (by with_unfolding_all rfl) rfl (by decide) (fun _ => rfl)
    (ev_range1 mI (fun h g' c => B₁.mono c.1.2) (ev_name wv (fun h g' c k => sees_up c.1.1 rfl rfl rfl rfl rfl) (fun h g' c => hwv) (by rfl) (by decide))) (fun C => .inr ⟨rfl, _, rfl, rfl⟩) ?_
  intro C' c tc val' hc mI'
  refine ev_callBG (Ps := [IntRow ((List.range N.length).map fun (a : Nat) => y.getD (0 + (a : Int)).toNat 0 * (N.getD (0 + (a : Int)).toNat []).getD (0 + (c : Int)).toNat 0)]) mI' (fun h g' c => B₁.mono c.1.1.2) n_sum boot_sum (evs_cons mI' IntRow.mono ?_ evs_nil) (cv_sum r.hh)
  refine comp_range (a := 0) (b := N.length) (n := N.length) (cl := [(Str.ofString "row", C + 1), (Str.ofString "column", C' + 1), (Str.ofString "b", L + 1)]) (fun a => y.getD a.toNat 0 * (N.getD a.toNat []).getD (0 + (c : Int)).toNat 0) mI' (fun _ => IntV.mono) r.hh (by rw [sizeLine_eq]; omega) h0 h0' (by omega) (by omega) (by split <;> omega) (by with_unfolding_all rfl) rfl (by decide) (fun _ => rfl)
    (ev_range1 mI' (fun h g' c => B₁.mono c.1.1.2) (ev_len (fun _ => IntRow.mono) mI' (fun h g' c => B₁.mono c.1.1.2) (by omega) (ev_name v (fun h g' c k => sees_up c.1.1.1 rfl rfl rfl rfl rfl) (fun h g' c => IntMat.mono _ _ _ c.1.1.2 hv₁) (by rfl) (by decide)))) (fun C => .inl rfl) ?_
  intro C'' a ta val'' ha mI''
  have ea : (0 + (a : Int)).toNat = a := by omega
  have ec : (0 + (c : Int)).toNat = c := by omega
  have e1 : y[a]? = some (y.getD a 0) := by rw [List.getD_eq_getElem?_getD, List.getElem?_eq_getElem (by omega)]; rfl
  have e2 : N[a]? = some (N.getD a []) := by rw [List.getD_eq_getElem?_getD, List.getElem?_eq_getElem (by omega)]; rfl
  have hcl : c < (N.getD a []).length := Nat.lt_of_lt_of_le hc (hNw _ (List.mem_of_getElem? e2))
  have e3 : (N.getD a [])[c]? = some ((N.getD a []).getD c 0) := by rw [List.getD_eq_getElem?_getD (l := N.getD a []), List.getElem?_eq_getElem hcl]; rfl
  refine ev_mul mI'' (by rw [ea]; exact hm y hy _ (List.mem_of_getElem? e1) _) ?_ ?_
  · exact ev_subscript (R := IntV) (k := 0 + (a : Int)) (fun _ => IntV.mono) mI'' (by omega) (by omega) (by rw [ea]; exact e1) (fun _ _ => by with_unfolding_all rfl) (ev_name vy (fun h g' c k => sees_up c.1.1.2.2 rfl rfl rfl rfl rfl) (fun h g' c => c.1.1.2.1) (by rfl) (by decide)) (ev_name (.int (0 + (a : Int)) ta) (fun h g' c k => c.2.2.sees (.inl rfl) rfl) (fun h g' c => ⟨ta, rfl⟩) (by rfl) (by decide))
  · exact ev_subscript (R := IntV) (k := 0 + (c : Int)) (fun _ => IntV.mono) mI'' (by omega) (by omega) (by rw [ea, ec]; exact e3) (fun _ _ => by with_unfolding_all rfl) (ev_subscript (R := fun r => IntRow r) (k := 0 + (a : Int)) (fun _ => IntRow.mono) mI'' (by omega) (by omega) (by rw [ea]; exact e2) (fun _ _ => by with_unfolding_all rfl) (ev_name v (fun h g' c k => sees_up c.1.1.1.1 rfl rfl rfl rfl rfl) (fun h g' c => IntMat.mono _ _ _ c.1.1.1.2 hv₁) (by rfl) (by decide)) (ev_name (.int (0 + (a : Int)) ta) (fun h g' c k => c.2.2.sees (.inl rfl) rfl) (fun h g' c => ⟨ta, rfl⟩) (by rfl) (by decide))) (ev_name (.int (0 + (c : Int)) tc) (fun h g' c k => sees_up c.1.2.2 rfl rfl rfl rfl rfl) (fun h g' c => ⟨tc, rfl⟩) (by rfl) (by decide))
end


/-! ## square matrices and their bounds -/
structure Sq (k : Nat) (M : List (List Int)) : Prop where
  rows : M.length = k
  cols : ∀ y ∈ M, y.length = k
noncomputable def Bd (b : Nat) (M : List (List Int)) : Prop := ∀ y ∈ M, ∀ z ∈ y, z.natAbs ≤ b
theorem Bd.mono {a b : Nat} {M : List (List Int)} (h : Bd a M) (k : a ≤ b) : Bd b M := fun y hy z hz => Nat.le_trans (h y hy z hz) k
theorem Sq.wide {k : Nat} {M : List (List Int)} (h : Sq k M) : wide M = k := by
  cases M with
  | nil => exact h.rows
  | cons x M => exact h.cols x (.head _)
theorem mulZ_sq {k : Nat} {M N : List (List Int)} (h : Sq k M) (h' : Sq k N) : Sq k (mulZ M N) := by
  refine ⟨by unfold mulZ; rw [List.length_map]; exact h.rows, fun y hy => ?_⟩
  obtain ⟨x, _, rfl⟩ := List.mem_map.mp hy
  rw [List.length_map, List.length_range, h'.wide]
theorem unitM_sq (k : Nat) : Sq k (unitM k) := by
  refine ⟨by unfold unitM; rw [List.length_map, List.length_range], fun y hy => ?_⟩
  obtain ⟨x, _, rfl⟩ := List.mem_map.mp hy
  rw [List.length_map, List.length_range]
theorem unitM_bd (k : Nat) : Bd 1 (unitM k) := by
  intro y hy z hz
  obtain ⟨x, _, rfl⟩ := List.mem_map.mp hy
  obtain ⟨x', _, rfl⟩ := List.mem_map.mp hz
  split <;> decide
theorem sum_bd (c : Nat) : ∀ l : List Int, (∀ x ∈ l, x.natAbs ≤ c) → l.sum.natAbs ≤ l.length * c
  | [], _ => by simp
  | x :: l, h => by
    have h1 := h x (.head _)
    have h2 := sum_bd c l fun y hy => h y (.tail _ hy)
    rw [List.sum_cons, List.length_cons, Nat.succ_mul]
    have := Int.natAbs_add_le x l.sum
    omega
theorem getD_bd {b : Nat} {l : List Int} (h : ∀ z ∈ l, z.natAbs ≤ b) (i : Nat) : (l.getD i 0).natAbs ≤ b := by
  rw [List.getD_eq_getElem?_getD]
  cases e : l[i]? with
  | none => exact Nat.zero_le _
  | some z => exact h z (List.mem_of_getElem? e)
theorem getD_bd2 {b : Nat} {M : List (List Int)} (h : Bd b M) (i j : Nat) : ((M.getD i []).getD j 0).natAbs ≤ b := by
  refine getD_bd ?_ j
  rw [List.getD_eq_getElem?_getD]
  cases e : M[i]? with
  | none => intro z hz; cases hz
  | some y => exact h y (List.mem_of_getElem? e)
theorem mulZ_bd {k a b : Nat} {M N : List (List Int)} (h' : Sq k N) (hk : k ≤ 3) (ha : Bd a M) (hb : Bd b N) : Bd (3 * (a * b)) (mulZ M N) := by
  intro y hy z hz
  obtain ⟨x, hx, rfl⟩ := List.mem_map.mp hy
  obtain ⟨c, _, rfl⟩ := List.mem_map.mp hz
  refine Nat.le_trans (sum_bd (a * b) _ fun t ht => ?_) ?_
  · obtain ⟨i, _, rfl⟩ := List.mem_map.mp ht
    rw [Int.natAbs_mul]
    exact Nat.mul_le_mul (getD_bd (ha x hx) _) (getD_bd2 hb _ _)
  · rw [List.length_map, List.length_range, h'.rows]
    exact Nat.mul_le_mul_right _ hk
theorem mulOk_bd {b : Nat} {M : List (List Int)} (h : Bd b M) (hb : b < 2 ^ 64) : ∀ y ∈ M, ∀ z ∈ y, ∀ t, IntMulOk z t := fun y hy z hz t => by
  have := h y hy z hz
  exact .of_left (intBits_le_64 (by omega) (by omega))

/-- repeated squaring -/
noncomputable def raiseZ : Nat → List (List Int) → List (List Int) → Nat → List (List Int)
  | 0, F, _, _ => F
  | k + 1, F, S, m => if m = 0 then F else raiseZ k (if m % 2 = 1 then mulZ F S else F) (if 0 < m / 2 then mulZ S S else S) (m / 2)
theorem raiseZ_zero (k : Nat) (F S : List (List Int)) : raiseZ k F S 0 = F := by cases k <;> rfl
noncomputable def bS : Nat → Nat
  | 3 => 2 | 2 => 12 | 1 => 432 | _ => 559872
noncomputable def bF : Nat → Nat
  | 3 => 1 | 2 => 6 | 1 => 216 | _ => 279936

theorem bS_step : ∀ j : Nat, j < 3 → 3 * (bF (j + 1) * bS (j + 1)) ≤ bF j ∧ bF (j + 1) ≤ bF j ∧ 3 * (bS (j + 1) * bS (j + 1)) ≤ bS j ∧ bS (j + 1) ≤ bS j ∧ bS (j + 1) < 2 ^ 64 ∧ bF (j + 1) < 2 ^ 64 := by decide
theorem bF_all : ∀ j : Nat, j < 4 → bF j ≤ 279936 := by decide
section
variable {prog : Program} {w : World} {A : Around} {env : Env} {I : Heap → Heap → Prop}
theorem matrix_raised_v {k n : Nat} {M : List (List Int)} (r : Room A 3) (hk : k ≤ 3) (hS : Sq k M) (hB : Bd 2 M) (hn : n < 8) (u v : Value) :
    Cv (model prog w) A (.ref 184) [u, v] (fun g => Bs w g ∧ IntMat M u g ∧ IntV n v g) (fun x g => IntMat (raiseZ 3 (unitM k) M n) x g ∧ Sq k (raiseZ 3 (unitM k) M n) ∧ Bd 279936 (raiseZ 3 (unitM k) M n)) := by
  refine cv_def (n := 2) (binds := [(Str.ofString "a", u), (Str.ofString "n", v)]) r (fun g i => i.1) (by k_is) (by k_is) rfl rfl (by decide) rfl rfl rfl ?_
  intro L g env he ap i
  subst he
  obtain ⟨B, hu, hv⟩ := i
  generalize hT : raiseZ 3 (unitM k) M n = T
  refine bx_cons (sx_assign2 (P₁ := IntMat (unitM k)) (P₂ := IntMat M) r.hh rfl ap (.inl rfl) (.inl rfl) (ev_pairV Cx.mono IntMat.mono IntMat.mono ?_ (ev_var u rfl IntMat.mono hu)) rfl rfl) ?_
  · refine ev_callG (Ps := [IntV k]) Cx.mono (fun h g' c => B.mono c.2) n_unit_rows k_unit_rows (evs_cons Cx.mono IntV.mono ?_ evs_nil) (cv_args1 fun u => unit_rows_v (r.deeper _ |>.less (by decide)) (by omega) u)
    rw [← hS.rows]
    exact ev_len (fun _ => IntRow.mono) Cx.mono (fun h g' c => B.mono c.2) (by rw [hS.rows]; omega) (ev_var u rfl IntMat.mono hu)
  rintro val₁ g₁ k₁ ⟨f, q, rfl, hf, hq⟩
  have B₁ := B.mono k₁
  refine bx_cons (sx_while (n := 3) (Qn := fun val g => ∃ f, val (Str.ofString "found") = some f ∧ IntMat T f g ∧ Sq k T ∧ Bd 279936 T)
    (fun j val g => ∃ (f s x : Value) (F S : List (List Int)) (m : Nat), val (Str.ofString "found") = some f ∧ val (Str.ofString "square") = some s ∧ val (Str.ofString "n") = some x ∧ IntMat F f g ∧ IntMat S s g ∧ IntV m x g ∧ j ≤ 3 ∧ m < 2 ^ j ∧ raiseZ j F S m = T ∧ Sq k F ∧ Sq k S ∧ Bd (bF j) F ∧ Bd (bS j) S)
    ⟨f, q, v, unitM k, M, n, rfl, rfl, rfl, hf, hq, hv, by omega, hn, hT, unitM_sq k, hS, unitM_bd k, hB⟩ ?_) ?_
  · rintro j val' g' kg ⟨f', s', x', F, S, m, ef, es, ex, hF, hSq, hm, hj, hmj, hR, sF, sS, bdF, bdS⟩
    have B' := B₁.mono kg
    refine ⟨decide ((0 : Int) < m), ev_gt Cx.mono (ev_var x' ex IntV.mono hm) ev_int, fun e g₂ kg₂ => ?_, fun e g₂ kg₂ => ?_⟩
    · have hm0 : 0 < m := by simpa using e
      obtain ⟨j, rfl⟩ : ∃ i, j = i + 1 := by
        cases j with
        | zero => exfalso; have : m < 1 := hmj; omega
        | succ j => exact ⟨j, rfl⟩
      have B₂ := B'.mono kg₂
      have hF₂ := IntMat.mono _ _ _ kg₂ hF
      have hS₂ := IntMat.mono _ _ _ kg₂ hSq
      have hj := Nat.lt_of_succ_le hj
      have bS64 : bS (j + 1) < 2 ^ 64 := (bS_step j hj).2.2.2.2.1
      have bF64 : bF (j + 1) < 2 ^ 64 := (bS_step j hj).2.2.2.2.2
      have em : Int.fmod (m : Int) 2 = ((m % 2 : Nat) : Int) := (Int.fmod_eq_emod_of_nonneg _ (by decide)).trans (by omega)
      have ed : Int.fdiv (m : Int) 2 = ((m / 2 : Nat) : Int) := (Int.fdiv_eq_ediv_of_nonneg _ (by decide)).trans (by omega)
      -- found
      refine bx_cons (Qm := fun v' g' => ∃ f₃, v' (Str.ofString "found") = some f₃ ∧ v' (Str.ofString "square") = some s' ∧ v' (Str.ofString "n") = some x' ∧ IntMat (if m % 2 = 1 then mulZ F S else F) f₃ g') (sx_if (b := ((m % 2 : Nat) : Int) == 1) (by rw [← em]; exact ev_eq Cx.mono (ev_mod Cx.mono (by decide) (ev_var x' ex IntV.mono hm) ev_int) ev_int) fun g₃ k₃ => ?_) ?_
      · by_cases h1 : m % 2 = 1
        · rw [show (((m % 2 : Nat) : Int) == 1) = true by rw [h1]; rfl, if_pos rfl, if_pos h1]
          refine bx_cons (sx_assign (P := IntMat (mulZ F S)) rfl ap (.inl rfl) (ev_callG (Ps := [IntMat F, IntMat S]) Cx.mono (fun h g' c => (B₂.mono k₃).mono c.2) n_whole_mul k_whole_mul (evs_cons Cx.mono IntMat.mono (ev_var f' ef IntMat.mono (IntMat.mono _ _ _ k₃ hF₂)) (evs_cons Cx.mono IntMat.mono (ev_var s' es IntMat.mono (IntMat.mono _ _ _ k₃ hS₂)) evs_nil))
            (cv_args2 fun u v => whole_mul_v (r.deeper _) (by rw [sF.rows]; omega) (by rw [sS.rows]; omega) (fun y hy => by rw [sF.cols y hy, sS.rows]) (fun y hy => by rw [sS.cols y hy]; omega) (fun y hy => by rw [sS.wide, sS.cols y hy]; exact Nat.le_refl _) (mulOk_bd bdF bF64) u v)) rfl) ?_
          rintro v₄ g₄ k₄ ⟨f₄, rfl, h₄⟩
          exact bx_nil ⟨f₄, rfl, es, ex, h₄⟩
        · rw [show (((m % 2 : Nat) : Int) == 1) = false by rw [show m % 2 = 0 by omega]; rfl, if_neg (by decide), if_neg h1]
          exact bx_nil ⟨f', ef, es, ex, IntMat.mono _ _ _ k₃ hF₂⟩
      rintro v₃ g₃ k₃ ⟨f₃, ef₃, es₃, ex₃, hF₃⟩
      -- n
      refine bx_cons (sx_assign (P := IntV ((m / 2 : Nat) : Int)) rfl ap (.inl rfl) (by rw [← ed]; exact ev_fdiv Cx.mono r.hh (by decide) (PyProof.noPylong_small (by decide)) (ev_var x' ex₃ IntV.mono hm) ev_int) rfl) ?_
      rintro v₄ g₄ k₄ ⟨x₄, rfl, hx₄⟩
      have hS₄ := IntMat.mono _ _ _ k₄ (IntMat.mono _ _ _ k₃ hS₂)
      -- square
      refine bx_cons (sx_assign (P := IntMat (if 0 < m / 2 then mulZ S S else S)) rfl ap (.inl rfl) (ev_ifexp (b := decide ((0 : Int) < ((m / 2 : Nat) : Int))) Cx.mono (ev_gt Cx.mono (ev_var x₄ rfl IntV.mono hx₄) ev_int) (fun e => ?_) (fun e => ?_)) rfl) ?_
      · rw [show (if 0 < m / 2 then mulZ S S else S) = mulZ S S from if_pos (by have := of_decide_eq_true e; omega)]
        exact ev_callG (Ps := [IntMat S, IntMat S]) Cx.mono (fun h g' c => ((B₂.mono k₃).mono k₄).mono c.2) n_whole_mul k_whole_mul (evs_cons Cx.mono IntMat.mono (ev_var s' es₃ IntMat.mono hS₄) (evs_cons Cx.mono IntMat.mono (ev_var s' es₃ IntMat.mono hS₄) evs_nil))
            (cv_args2 fun u v => whole_mul_v (r.deeper _) (by rw [sS.rows]; omega) (by rw [sS.rows]; omega) (fun y hy => by rw [sS.cols y hy, sS.rows]) (fun y hy => by rw [sS.cols y hy]; omega) (fun y hy => by rw [sS.wide, sS.cols y hy]; exact Nat.le_refl _) (mulOk_bd bdS bS64) u v)
      · rw [show (if 0 < m / 2 then mulZ S S else S) = S from if_neg (by have := of_decide_eq_false e; omega)]
        exact ev_var s' es₃ IntMat.mono hS₄
      rintro v₅ g₅ k₅ ⟨s₅, rfl, hs₅⟩
      have hR' : raiseZ j (if m % 2 = 1 then mulZ F S else F) (if 0 < m / 2 then mulZ S S else S) (m / 2) = T := by
        rw [← hR]
        show _ = (if m = 0 then F else _)
        rw [if_neg (show ¬ m = 0 by omega)]
      refine bx_nil ⟨j, Nat.lt_succ_self j, f₃, s₅, x₄, _, _, m / 2, ef₃, rfl, rfl, IntMat.mono _ _ _ (stays_trans k₄ k₅) hF₃, hs₅, hx₄, Nat.le_of_lt hj, ?_, hR', ?_, ?_, ?_, ?_⟩
      · rw [Nat.pow_succ] at hmj; omega
      · split
        · exact mulZ_sq sF sS
        · exact sF
      · split
        · exact mulZ_sq sS sS
        · exact sS
      · have hb := mulZ_bd (M := F) sS hk bdF bdS
        split
        · exact hb.mono (bS_step j hj).1
        · exact bdF.mono (bS_step j hj).2.1
      · have hb := mulZ_bd (M := S) sS hk bdS bdS
        split
        · exact hb.mono (bS_step j hj).2.2.1
        · exact bdS.mono (bS_step j hj).2.2.2.1
    · have hm0 : m = 0 := by have := of_decide_eq_false e; omega
      subst hm0
      rw [raiseZ_zero] at hR
      subst hR
      exact ⟨f', ef, IntMat.mono _ _ _ kg₂ hF, sF, bdF.mono (bF_all j (Nat.lt_succ_of_le hj))⟩
  · rintro val₂ g₂ k₂ ⟨f₂, e₂, h₂, s₂, b₂⟩
    exact bx_ret ((ev_var f₂ e₂ IntMat.mono h₂).conseq fun v g h => ⟨h, s₂, b₂⟩)
end


/-! ## a frame with a list of its own that is changed -/
structure FmD (env : Env) (D : Addr) (val : Str → Option Value) (g : Heap) (ys : Array Value) (s : Shared) : Prop where
  fm : Fm env val g s
  li : s.heap.PlainList D ys
  off : g.get? D = none
  nd : D ∉ ownA env env.cells
structure StepD (env : Env) (D : Addr) (s : Shared) (g g' : Heap) (s' : Shared) : Prop where
  gr : Grow g s.heap g'
  st : g'.StaysIn s'.heap
  same : ∃ h tk, s' = { s with heap := h, toks := tk }
  kb : ∀ b o, b ≠ D → b ∉ ownA env env.cells → s.heap.get? b = some o → s'.heap.get? b = some o
  dm : Dom s.heap s'.heap
theorem StepD.refl {env : Env} {D : Addr} {s : Shared} {g : Heap} (k : g.StaysIn s.heap) : StepD env D s g g s := ⟨.refl _ _, k, ⟨s.heap, s.toks, rfl⟩, fun _ _ _ _ e => e, Dom.refl _⟩
theorem StepD.trans {env : Env} {D : Addr} {s s₁ s₂ : Shared} {g g₁ g₂ : Heap} (a : StepD env D s g g₁ s₁) (b : StepD env D s₁ g₁ g₂ s₂) : StepD env D s g g₂ s₂ :=
  ⟨a.gr.trans' a.dm b.gr, b.st, by
    obtain ⟨h, tk, rfl⟩ := a.same
    obtain ⟨h', tk', rfl⟩ := b.same
    exact ⟨h', tk', rfl⟩, fun x o m n e => b.kb x o m n (a.kb x o m n e), a.dm.trans b.dm⟩
theorem Step.toD {env : Env} {D : Addr} {s s' : Shared} {g g' : Heap} (a : Step env s g g' s') : StepD env D s g g' s' := ⟨a.gr, a.st, a.same, fun b o _ n e => a.kb b o n e, a.dm⟩
theorem FmD.step {env : Env} {D : Addr} {val val' : Str → Option Value} {g g' : Heap} {ys : Array Value} {s s' : Shared} (F : FmD env D val g ys s) (F' : Fm env val' g' s') (S : Step env s g g' s') : FmD env D val' g' ys s' := by
  obtain ⟨n, e⟩ := F.li
  exact ⟨F', ⟨n, S.kb _ _ F.nd e⟩, S.gr.off e F.off, F.nd⟩

noncomputable def FlowD (env : Env) (D : Addr) (s : Shared) (g : Heap) (Qn : (Str → Option Value) → Heap → Array Value → Prop) (Qr : Value → Heap → Array Value → Prop) : Flow → Shared → Prop
  | .next, s' => ∃ val' g' ys', FmD env D val' g' ys' s' ∧ StepD env D s g g' s' ∧ Qn val' g' ys'
  | .ret v, s' => ∃ g' ys', StepD env D s g g' s' ∧ s'.heap.PlainList D ys' ∧ g'.get? D = none ∧ Qr v g' ys'
  | _, _ => False
noncomputable def SxD (M : Model) (A : Around) (env : Env) (D : Addr) (st : Stmt) (val : Str → Option Value) (g : Heap) (ys : Array Value) (Qn : (Str → Option Value) → Heap → Array Value → Prop) (Qr : Value → Heap → Array Value → Prop) : Prop :=
  ∀ (E : Value → Shared → Prop) (s : Shared), FmD env D val g ys s → wpAny M A (exec st env) (FlowD env D s g Qn Qr) E s
noncomputable def BxD (M : Model) (A : Around) (env : Env) (D : Addr) (b : List Stmt) (val : Str → Option Value) (g : Heap) (ys : Array Value) (Qn : (Str → Option Value) → Heap → Array Value → Prop) (Qr : Value → Heap → Array Value → Prop) : Prop :=
  ∀ (E : Value → Shared → Prop) (s : Shared), FmD env D val g ys s → wpAny M A (execs b env) (FlowD env D s g Qn Qr) E s

section
variable {M : Model} {A : Around} {env : Env} {D : Addr} {val : Str → Option Value} {g : Heap} {ys : Array Value} {Qn Qm : (Str → Option Value) → Heap → Array Value → Prop} {Qr : Value → Heap → Array Value → Prop}
theorem FlowD.after {s s₁ : Shared} {g₁ : Heap} {f : Flow} {s' : Shared} (a : StepD env D s g g₁ s₁) (x : FlowD env D s₁ g₁ Qn Qr f s') : FlowD env D s g Qn Qr f s' := by
  cases f with
  | next => obtain ⟨p, q, r, c, d, e⟩ := x; exact ⟨p, q, r, c, a.trans d, e⟩
  | ret v => obtain ⟨p, r, b, c⟩ := x; exact ⟨p, r, a.trans b, c⟩
  | brk => exact x
  | cont => exact x
theorem bxd_nil (h : Qn val g ys) : BxD M A env D [] val g ys Qn Qr := fun E s F => wpAny_execs_nil ⟨val, g, ys, F, .refl F.fm.st, h⟩
theorem bxd_cons {st : Stmt} {rest : List Stmt} (h₁ : SxD M A env D st val g ys Qm Qr) (h₂ : ∀ val' g' ys', g.StaysIn g' → Qm val' g' ys' → BxD M A env D rest val' g' ys' Qn Qr) : BxD M A env D (st :: rest) val g ys Qn Qr := by
  intro E s F
  refine wpAny_execs_cons (wpAny_mono (h₁ E s F) (fun f s₁ q => ?_) fun _ _ e => e)
  cases f with
  | next =>
    obtain ⟨val', g', ys', F', S, q⟩ := q
    exact wpAny_mono (h₂ val' g' ys' S.gr.up q E s₁ F') (fun f s' x => x.after S) fun _ _ e => e
  | ret v => exact q
  | brk => exact q.elim
  | cont => exact q.elim
theorem flowD_lift {s s' : Shared} {f : Flow} {Qn' : (Str → Option Value) → Heap → Prop} {Qr' : Value → Heap → Prop} (F : FmD env D val g ys s) (x : FlowQ env s g Qn' Qr' f s') (hn : ∀ v g', Qn' v g' → Qn v g' ys) (hr : ∀ v g', Qr' v g' → Qr v g' ys) : FlowD env D s g Qn Qr f s' := by
  cases f with
  | next => obtain ⟨a, b, c, d, e⟩ := x; exact ⟨a, b, ys, F.step c d, d.toD, hn _ _ e⟩
  | ret v =>
    obtain ⟨a, b, c⟩ := x
    obtain ⟨n, e⟩ := F.li
    exact ⟨a, ys, b.toD, ⟨n, b.kb _ _ F.nd e⟩, b.gr.off e F.off, hr _ _ c⟩
  | brk => exact x
  | cont => exact x
/-- a statement that leaves the list alone -/
theorem sxd_lift {st : Stmt} {Qn' : (Str → Option Value) → Heap → Prop} {Qr' : Value → Heap → Prop} (h : Sx M A env st val g Qn' Qr') (hn : ∀ v g', Qn' v g' → Qn v g' ys) (hr : ∀ v g', Qr' v g' → Qr v g' ys) : SxD M A env D st val g ys Qn Qr :=
  fun E s F => wpAny_mono (h E s F.fm) (fun f s' q => flowD_lift F q hn hr) fun _ _ e => e
theorem bxd_let {st : Stmt} {rest : List Stmt} {Qm' : (Str → Option Value) → Heap → Prop} (h₁ : Sx M A env st val g Qm' (fun _ _ => False)) (h₂ : ∀ val' g', g.StaysIn g' → Qm' val' g' → BxD M A env D rest val' g' ys Qn Qr) : BxD M A env D (st :: rest) val g ys Qn Qr :=
  bxd_cons (Qm := fun v g' ys' => ys' = ys ∧ Qm' v g') (sxd_lift h₁ (fun v g' q => ⟨rfl, q⟩) fun _ _ q => q.elim) fun val' g' ys' k ⟨e, q⟩ => e ▸ h₂ val' g' k q
end

section
variable {prog : Program} {w : World} {A : Around} {env : Env} {D : Addr} {val : Str → Option Value} {g : Heap} {ys : Array Value} {Qn Qm : (Str → Option Value) → Heap → Array Value → Prop} {Qr : Value → Heap → Array Value → Prop}
theorem fmd_change {s : Shared} {zs : Array Value} {h' : Heap} {tk : Nat} (F : FmD env D val g ys s) (hl : h'.PlainList D zs) (hs : Heap.SameBut D s.heap h') : FmD env D val g zs { s with heap := h', toks := tk } ∧ StepD env D s g g { s with heap := h', toks := tk } := by
  have kk : ∀ b o, b ≠ D → s.heap.get? b = some o → h'.get? b = some o := fun b o n e => hs.extBut b o n e
  have ne : ∀ b ∈ ownA env env.cells, b ≠ D := fun b hb q => F.nd (q ▸ hb)
  have kg : g.StaysIn h' := fun b o e => kk b o (fun q => by rw [q, F.off] at e; cases e) (F.fm.st b o e)
  refine ⟨⟨⟨F.fm.lc.ext fun b o hb e => kk b o (ne b hb) e, kg, fun b hb => ⟨(F.fm.off b hb).1, ?_⟩⟩, hl, F.off, F.nd⟩, ⟨.refl _ _, kg, ⟨_, _, rfl⟩, fun b o n _ e => kk b o n e, fun b e => ?_⟩⟩
  · obtain ⟨o, ho⟩ := Option.isSome_iff_exists.mp (F.fm.off b hb).2
    show (h'.get? b).isSome
    rw [kk b o (ne b hb) ho]; rfl
  · by_cases q : b = D
    · obtain ⟨n, e'⟩ := hl; show (h'.get? b).isSome; rw [q, e']; rfl
    · obtain ⟨o, ho⟩ := Option.isSome_iff_exists.mp e
      show (h'.get? b).isSome
      rw [kk b o q ho]; rfl

theorem sxd_append {x : Str} {p1 apos cpos epos : Pos} {e : Expr} {P : Value → Heap → Prop} (ox : Own env env.cells x) (hk : env.scope.kind = .function) (hdb : (x == ("__debug__" : Str)) = false) (hv : val x = some (.ref D)) (he : Ev (model prog w) A env e (Cx env val g) P)
    (hsz : ys.size ≤ sizeLine) (hbase : attributeBase (.Name x p1) (Str.ofString "append") env (eval (.Name x p1) env) = eval (.Name x p1) env)
    (hse : starEach [e] env = [(false, eval e env)]) (hline : (apos.endLine == cpos.line) = true) (hi : interactive env = false)
    (hsw : swapsWith (.Call (.Attribute (.Name x p1) (Str.ofString "append") apos) [e] [] cpos) none epos.line env = pure false)
    (hq : ∀ v g', g.StaysIn g' → P v g' → Qn val g' (ys.push v)) :
    SxD (model prog w) A env D (.Expr (.Call (.Attribute (.Name x p1) (Str.ofString "append") apos) [e] [] cpos) epos) val g ys Qn Qr := by
  intro E s F
  refine wpAny_Expr (wpAny_Call_method hbase (by rw [hse]; rfl) hline PySem.F.plainAttrs_list slot_list_append type_list_append (sees_eval (F.fm.lc.sees ox hv) hk hdb ⟨F.li.isList.typeIs, fun a q => ?_, ?_⟩)) hi hsw
  · cases q; obtain ⟨n, e⟩ := F.li; exact ⟨_, e, rfl⟩
  rw [hse]
  refine Calls.callWith_builtin rfl (Calls.evalArgs_plain (Calls.spliced_cons (he.run F.fm fun v g₁ s₁ hp F₁ S₁ => Calls.spliced_nil ?_)))
  have FD := F.step F₁ S₁
  refine wpAny_list_append_plain FD.li (fun h' hl hs => ?_) hsz
  obtain ⟨F₂, S₂⟩ := fmd_change (tk := s₁.toks) FD hl hs
  exact ⟨val, g₁, _, F₂, S₁.toD.trans S₂, hq v g₁ S₁.gr.up hp⟩

theorem sxd_reverse {x : Str} {p1 apos cpos epos : Pos} (ox : Own env env.cells x) (hk : env.scope.kind = .function) (hdb : (x == ("__debug__" : Str)) = false) (hv : val x = some (.ref D))
    (hsz : ys.size ≤ sizeLine) (hbase : attributeBase (.Name x p1) (Str.ofString "reverse") env (eval (.Name x p1) env) = eval (.Name x p1) env)
    (hline : (apos.endLine == cpos.line) = true) (hi : interactive env = false)
    (hsw : swapsWith (.Call (.Attribute (.Name x p1) (Str.ofString "reverse") apos) [] [] cpos) none epos.line env = pure false)
    (hq : Qn val g ys.toList.reverse.toArray) :
    SxD (model prog w) A env D (.Expr (.Call (.Attribute (.Name x p1) (Str.ofString "reverse") apos) [] [] cpos) epos) val g ys Qn Qr := by
  intro E s F
  refine wpAny_Expr (wpAny_Call_method hbase rfl hline PySem.F.plainAttrs_list PySem.F.slot_list_reverse PySem.F.type_list_reverse (sees_eval (F.fm.lc.sees ox hv) hk hdb ⟨F.li.isList.typeIs, fun a q => ?_, ?_⟩)) hi hsw
  · cases q; obtain ⟨n, e⟩ := F.li; exact ⟨_, e, rfl⟩
  refine Calls.callWith_builtin rfl (PyProof.Rows.evalArgs_none ?_)
  obtain ⟨n, ho⟩ := id F.li
  have fin : ∀ h', h'.PlainList D ys.toList.reverse.toArray → Heap.SameBut D s.heap h' → FlowD env D s g Qn Qr .next { s with heap := h' } := fun h' hl hs => by
    obtain ⟨F₂, S₂⟩ := fmd_change (tk := s.toks) F hl hs
    exact ⟨val, g, _, F₂, S₂, hq⟩
  refine call_meets PySem.F.slot_list_reverse ⟨_, ho, rfl⟩ PySem.F.entry_list_reverse (PySem.F.args_list_reverse_1 _) (AutoSeq1.list_reverse_list_0 D ys n hsz) ⟨ho, ?_⟩
  refine fin _ ⟨n, ?_⟩ (Heap.SameBut.update ..)
  rw [Heap.get?_update_self _ ho (by rw [mapSeq_reverse]; rfl), mapSeq_reverse]

/-- a list made, and then changed till the end -/
theorem bx_consD {x y : Str} {px py tp lp pos' pos : Pos} {kd kd' : Nat} {es : List Expr} {e₂ : Expr} {rest : List Stmt} {Ps : List (Value → Heap → Prop)} {P₂ : Value → Heap → Prop} {Qn₀ : (Str → Option Value) → Heap → Prop} {Qr₀ : Value → Heap → Prop} (QrD : Addr → Value → Heap → Array Value → Prop)
    (hh : A.handled = none) (hk : env.scope.kind = .function) (ap : Apart env env.cells) (ox : Own env env.cells x) (oy : Own env env.cells y)
    (hes : Evs (model prog w) A env es (Cx env val g) Ps) (h₂ : Ev (model prog w) A env e₂ (Cx env val g) P₂) (mPs : ∀ vs (g g' : Heap), g.StaysIn g' → AllV Ps vs g → AllV Ps vs g') (hlen : ∀ vs g, AllV Ps vs g → vs.length ≤ sizeLine)
    (hs : swapsWithSole [.Tuple [.Name x px, .Name y py] kd tp] (.Tuple [.List es lp, e₂] kd' pos') pos.line env = pure false) (hw : swappedStores [.Tuple [.Name x px, .Name y py] kd tp] (.Tuple [.List es lp, e₂] kd' pos') env = pure (some [x, y]))
    (he₁ : starEach [.List es lp, e₂] env = (false, eval (.List es lp) env) :: starEach [e₂] env) (he₂ : starEach [e₂] env = (false, eval e₂ env) :: starEach [] env)
    (hrest : ∀ D vs v g', g.StaysIn g' → AllV Ps vs g' → P₂ v g' → BxD (model prog w) A env D rest (upd (upd val y v) x (.ref D)) g' vs.toArray (fun _ _ _ => False) (QrD D))
    (hfin : ∀ D v g' ys g'', QrD D v g' ys → g'.StaysIn g'' → g''.IsList D ys → Qr₀ v g'') :
    Bx (model prog w) A env (.Assign [.Tuple [.Name x px, .Name y py] kd tp] (.Tuple [.List es lp, e₂] kd' pos') pos :: rest) val g Qn₀ Qr₀ := by
  intro E s F
  refine wpAny_execs_cons (Assign_Tuple_swapped (Tuple_ ?_) hs hw)
  rw [he₁, he₂]
  refine Calls.spliced_cons (List_ (wpAny_mono (hes lp E s g ⟨F.lc, stays_refl _⟩ F.st) (fun vs s₁ q => ?_) fun _ _ q => q))
  obtain ⟨g₁, hvs, gr₁, k₁, K₁⟩ := q
  refine wpAny_newObj_type ?_ (by show vs.toArray.size ≤ sizeLine; rw [List.size_toArray]; exact hlen _ _ hvs)
  generalize hD : s₁.heap.objs.size = D
  have hDn : s₁.heap.get? D = none := by rw [← hD]; exact get_size _
  have hDs : s.heap.get? D = none := none_of_stays (keeps_stays K₁) hDn
  have hg₁D : g₁.get? D = none := none_of_stays k₁ hDn
  -- after the list
  generalize hh₂ : s₁.heap.push { cls := .type "list", data := .seq vs.toArray } = h₂'
  have k₂ : s₁.heap.StaysIn h₂' := by rw [← hh₂]; exact stays_push
  have e₂D : h₂'.get? D = some { cls := .type "list", data := .seq vs.toArray } := by rw [← hh₂, ← hD]; exact get_push_new rfl
  have KA : Keeps s { s₁ with heap := h₂' } := keeps_trans K₁ (keeps_of k₂)
  have KA' : s.heap.StaysIn h₂' := keeps_stays KA
  refine Calls.spliced_cons (wpAny_mono (h₂ E { s₁ with heap := h₂' } g₁ ⟨F.lc.mono KA', gr₁.up⟩ (stays_trans k₁ k₂)) (fun v s₃ q => ?_) fun _ _ q => q)
  obtain ⟨g₃, hv, gr₃, k₃, K₃⟩ := q
  have hg₃D : g₃.get? D = none := gr₃.off e₂D hg₁D
  have e₃D := keeps_stays K₃ D _ e₂D
  refine Calls.spliced_nil ?_
  refine wpAny_newObj_type ?_ (by show (2 : Nat) ≤ sizeLine; decide)
  generalize hh₄ : s₃.heap.push { cls := .type "tuple", data := .seq [Value.ref D, v].toArray } = h₄
  have k₄ : s₃.heap.StaysIn h₄ := by rw [← hh₄]; exact stays_push
  have e₄ : h₄.get? s₃.heap.objs.size = some { cls := .type "tuple", data := .seq [Value.ref D, v].toArray } := by rw [← hh₄]; exact get_push_new rfl
  refine unpackItems_tuple (items := #[.ref D, v]) hh ⟨_, e₄, rfl, _, rfl⟩ fun h₅ he₅ => ?_
  have k₅ : h₄.StaysIn h₅ := fun b o e => he₅ b o (Nat.ne_of_lt (Heap.lt_size e)) e
  have kall : s.heap.StaysIn h₅ := stays_trans KA' (stays_trans (keeps_stays K₃) (stays_trans k₄ k₅))
  have e₅D := k₅ _ _ (k₄ _ _ e₃D)
  have st₅ : g₃.StaysIn h₅ := stays_trans k₃ (stays_trans k₄ k₅)
  have gr : Grow g s.heap g₃ := gr₁.trans KA' gr₃
  have nD : D ∉ ownA env env.cells := fun hb => by
    have := (F.off D hb).2; rw [hDs] at this; cases this
  refine assignInOrder_cons (bindName_ (store_own hk ap (F.lc.mono kall) oy fun h₆ tk₆ lc₆ kk₆ mm₆ => ?_))
  refine assignInOrder_cons (bindName_ (store_own hk ap lc₆ ox fun h₇ tk₇ lc₇ kk₇ mm₇ => assignInOrder_nil ?_))
  have off : ∀ b ∈ ownA env env.cells, g₃.get? b = none := fun b hb => by
    obtain ⟨o, ho⟩ := Option.isSome_iff_exists.mp (F.off b hb).2
    exact gr.off ho (F.off b hb).1
  have kg : g₃.StaysIn h₇ := fun b o e => by
    have nb : b ∉ ownA env env.cells := fun hb => by rw [off b hb] at e; cases e
    exact kk₇ b o nb (kk₆ b o nb (st₅ b o e))
  have al : ∀ b ∈ ownA env env.cells, (s.heap.get? b).isSome → (h₇.get? b).isSome := fun b hb e => mm₇ b hb (mm₆ b hb (Dom.stays kall b e))
  have kb : ∀ b o, b ∉ ownA env env.cells → s.heap.get? b = some o → h₇.get? b = some o := fun b o nb e => kk₇ b o nb (kk₆ b o nb (kall b o e))
  have e₇D := kk₇ _ _ nD (kk₆ _ _ nD e₅D)
  obtain ⟨h₁', tk₁', rfl, _⟩ := K₁
  obtain ⟨h₃', tk₃', rfl, _⟩ := K₃
  have FD : FmD env D (upd (upd val y v) x (.ref D)) g₃ vs.toArray { s with heap := h₇, toks := tk₇ } :=
    ⟨⟨lc₇, kg, fun b hb => ⟨off b hb, al b hb (F.off b hb).2⟩⟩, ⟨_, e₇D⟩, hg₃D, nD⟩
  have mono₁ := mPs _ _ _ gr₃.up hvs
  refine wpAny_mono (hrest D vs v g₃ gr.up mono₁ hv E _ FD) (fun f s' q => ?_) fun _ _ q => q
  cases f with
  | next => obtain ⟨_, _, _, _, _, q⟩ := q; exact q.elim
  | brk => exact q.elim
  | cont => exact q.elim
  | ret u =>
    obtain ⟨g₈, ys, S₈, l₈, o₈, hr⟩ := q
    obtain ⟨n, e₈⟩ := l₈
    have dm : Dom s.heap h₇ := .but kb al
    have gr₈ : Grow g s.heap g₈ := gr.trans' dm S₈.gr
    obtain ⟨g₉, gr₉, k₉, e₉⟩ := grow_one (g := g₈) (h := s.heap) (h' := s'.heap) S₈.st hDs e₈
    refine ⟨g₉, ⟨⟨stays_trans gr₈.up gr₉.up, fun b o e => (gr₉.new b o e).elim (fun e' => gr₈.new b o e') .inr⟩, k₉, ?_, fun b o nb e => S₈.kb b o (fun q => by rw [q, hDs] at e; cases e) nb (kb b o nb e), dm.trans S₈.dm⟩, hfin D u g₈ ys g₉ hr gr₉.up ⟨_, e₉, rfl, n, rfl⟩⟩
    obtain ⟨h₈, tk₈, rfl⟩ := S₈.same
    exact ⟨h₈, tk₈, rfl⟩
/-- a for: J holds between the turns; a turn may leave -/
theorem sxd_for {target iter : Expr} {body : List Stmt} {pos : Pos} {n : Nat} {Pn : Nat → List (Str × Value) → Heap → Prop} (J : Nat → (Str → Option Value) → Heap → Array Value → Prop)
    (hk : env.scope.kind = .function) (ap : Apart env env.cells) (hs : ∀ x, foldedSetIterable iter env x = pure x)
    (hsrc : Source prog w A env iter target (Cx env val g) n Pn) (mJ : ∀ i v (g g' : Heap) ys, g.StaysIn g' → J i v g ys → J i v g' ys)
    (hown : ∀ i bs g, Pn i bs g → ∀ x ∈ bs, Own env env.cells x.1)
    (h0 : ∀ g', g.StaysIn g' → J 0 val g' ys)
    (turn : ∀ i val' g' ys' bs, i < n → g.StaysIn g' → J i val' g' ys' → Pn i bs g' → BxD (model prog w) A env D body (updAll val' bs) g' ys' (J (i + 1)) Qr)
    (hend : ∀ val' g' ys', g.StaysIn g' → J n val' g' ys' → Qn val' g' ys') :
    SxD (model prog w) A env D (.For target iter body [] pos) val g ys Qn Qr := by
  intro E s FD
  have F := FD.fm
  obtain ⟨nD, eD⟩ := FD.li
  refine wpAny_For (hsrc E s g _ ⟨F.lc, stays_refl _⟩ F.st ?_) hs
  intro it own h₁ g₁ tk₁ St hT st₁ gr₁ k₁ kk₁ hown₁
  have T := hT env
  have hoo : ∀ b ∈ ownA env env.cells, b ∉ own := fun b hb hb' => by
    have := (F.off b hb).2; rw [(hown₁ b hb').2.1] at this; cases this
  have eD₁ : h₁.get? D = _ := kk₁ D _ eD
  have nDo : D ∉ own := fun hb => by rw [(hown₁ D hb).2.1] at eD; cases eD
  have g₁D : g₁.get? D = none := gr₁.off eD FD.off
  have F₁ : Fm env val g₁ { s with heap := h₁, toks := tk₁ } := ⟨F.lc.mono kk₁, k₁, fun b hb => by
    obtain ⟨o, ho⟩ := Option.isSome_iff_exists.mp (F.off b hb).2
    exact ⟨gr₁.off ho (F.off b hb).1, by show (h₁.get? b).isSome; rw [kk₁ b o ho]; rfl⟩⟩
  -- what holds between the turns
  refine codeAny_forLoop_any (fun m s' => ∃ i val' g' ys', i ≤ n ∧ m = n + 1 - i ∧ St i s'.heap g' ∧ FmD env D val' g' ys' s' ∧ J i val' g' ys' ∧ Grow g₁ h₁ g' ∧ (∃ h tk, s' = { s with heap := h, toks := tk }) ∧
      (∀ b o, b ≠ D → b ∉ own → b ∉ ownA env env.cells → h₁.get? b = some o → s'.heap.get? b = some o) ∧ Dom h₁ s'.heap) ?_ (n + 1)
    ⟨0, val, g₁, ys, Nat.zero_le _, rfl, st₁, ⟨F₁, ⟨_, eD₁⟩, g₁D, FD.nd⟩, h0 g₁ gr₁.up, .refl _ _, ⟨h₁, tk₁, rfl⟩, fun _ _ _ _ _ e => e, Dom.refl _⟩
  rintro m s' ⟨i, val', g', ys', hi, rfl, st, FD', hJ, gr, ⟨h', tk, rfl⟩, kb, dm⟩
  have F' := FD'.fm
  obtain ⟨nD', eD'⟩ := FD'.li
  have off : ∀ b ∈ own, g'.get? b = none := fun b hb => by
    obtain ⟨o, ho⟩ := Option.isSome_iff_exists.mp (hown₁ b hb).2.2
    exact gr.off ho (hown₁ b hb).1
  have finish : ∀ {g₂ : Heap} {s₂ : Shared}, Grow g₁ h₁ g₂ → g₂.StaysIn s₂.heap → (∃ h tk, s₂ = { s with heap := h, toks := tk }) → (∀ b o, b ≠ D → b ∉ own → b ∉ ownA env env.cells → h₁.get? b = some o → s₂.heap.get? b = some o) → Dom h₁ s₂.heap → StepD env D s g g₂ s₂ :=
    fun gr₂ k₂ sm kb₂ dm₂ => ⟨gr₁.trans kk₁ gr₂, k₂, sm, fun b o nd nb e => kb₂ b o nd (fun hb => by rw [(hown₁ b hb).2.1] at e; cases e) nb (kk₁ b o e), (Dom.stays kk₁).trans dm₂⟩
  by_cases hlt : i < n
  · refine wpAny_mono (T.turn i { s with heap := h', toks := tk } g' (fun _ s₂ => wpAny (model prog w) A (execs body env) (fun f s₃ => match f with
            | .next | .cont => ∃ m, m < n + 1 - i ∧ ∃ i val' g' ys₃, i ≤ n ∧ m = n + 1 - i ∧ St i s₃.heap g' ∧ FmD env D val' g' ys₃ s₃ ∧ J i val' g' ys₃ ∧ Grow g₁ h₁ g' ∧ (∃ h tk, s₃ = { s with heap := h, toks := tk }) ∧
      (∀ b o, b ≠ D → b ∉ own → b ∉ ownA env env.cells → h₁.get? b = some o → s₃.heap.get? b = some o) ∧ Dom h₁ s₃.heap
            | .brk => FlowD env D s g Qn Qr .next s₃
            | .ret v => FlowD env D s g Qn Qr (.ret v) s₃) (notedBy (model prog w) A env fun e s' => cameBackBy (model prog w) A env E e s') s₂) (notedBy (model prog w) A env fun e s' => cameBackBy (model prog w) A env E e s') hlt st F'.st off ?_) (fun r s₁ q => ?_) fun _ _ e => e
    rotate_left
    · match r, q with
      | some v, q => exact q
    intro bs h₄ g₄ tk₄ hp st₄ gr₄ kg₄ kk₄ ho₄
    have dm₄ : Dom h' h₄ := .but kk₄ fun b hb _ => ho₄ b hb
    have lc₄ : Lc env env.cells val' h₄ := F'.lc.ext fun b o hb e => kk₄ b o (hoo b hb) e
    have offC₄ : ∀ b ∈ ownA env env.cells, g₄.get? b = none ∧ (h₄.get? b).isSome := fun b hb => by
      obtain ⟨o, ho⟩ := Option.isSome_iff_exists.mp (F'.off b hb).2
      exact ⟨gr₄.off ho (F'.off b hb).1, by rw [kk₄ b o (hoo b hb) ho]; rfl⟩
    refine storeAll_own hk ap bs val' _ lc₄ (hown i bs g₄ hp) fun h₅ tk₅ lc₅ kk₅ ho₅ => ?_
    have kg₅ : g₄.StaysIn h₅ := fun b o e => kk₅ b o (fun hb => by rw [(offC₄ b hb).1] at e; cases e) (kg₄ b o e)
    have dm₅ : Dom h₄ h₅ := .but kk₅ ho₅
    have st₅ : St (i + 1) h₅ g₄ := T.frame _ _ _ _ _ st₄ (fun b o hb e => kk₅ b o (fun hb' => hoo b hb' hb) e) (stays_refl _) kg₅
    have eD₅ : h₅.get? D = _ := kk₅ D _ FD.nd (kk₄ D _ nDo eD')
    have g₄D : g₄.get? D = none := gr₄.off eD' FD'.off
    have F₅ : Fm env (updAll val' bs) g₄ { s with heap := h₅, toks := tk₅ } := ⟨lc₅, kg₅, fun b hb => ⟨(offC₄ b hb).1, ho₅ b hb (offC₄ b hb).2⟩⟩
    refine wpAny_mono (turn i val' g₄ ys' bs hlt (stays_trans gr₁.up (stays_trans gr.up gr₄.up)) (mJ _ _ _ _ _ gr₄.up hJ) hp _ _ ⟨F₅, ⟨_, eD₅⟩, g₄D, FD.nd⟩) (fun f s₆ q => ?_) fun _ _ e => e
    have grA : Grow g₁ h₁ g₄ := gr.trans' dm gr₄
    have dmA : Dom h₁ h₅ := dm.trans (dm₄.trans dm₅)
    have kbA : ∀ b o, b ≠ D → b ∉ own → b ∉ ownA env env.cells → h₁.get? b = some o → h₅.get? b = some o := fun b o n0 n1 n2 e => kk₅ b o n2 (kk₄ b o n1 (kb b o n0 n1 n2 e))
    cases f with
    | next =>
      obtain ⟨val₆, g₆, ys₆, F₆, S₆, hJ₆⟩ := q
      refine ⟨n + 1 - (i + 1), by omega, i + 1, val₆, g₆, ys₆, hlt, rfl, ?_, F₆, hJ₆, grA.trans' dmA S₆.gr, ?_, fun b o n0 n1 n2 e => S₆.kb b o n0 n2 (kbA b o n0 n1 n2 e), dmA.trans S₆.dm⟩
      · exact T.frame _ _ _ _ _ st₅ (fun b o hb e => S₆.kb b o (fun q => nDo (q ▸ hb)) (fun hb' => hoo b hb' hb) e) S₆.gr.up F₆.fm.st
      · obtain ⟨h₆, tk₆, rfl⟩ := S₆.same; exact ⟨h₆, tk₆, rfl⟩
    | ret v =>
      obtain ⟨g₆, ys₆, S₆, l₆, o₆, hr⟩ := q
      refine ⟨g₆, ys₆, finish (grA.trans' dmA S₆.gr) S₆.st ?_ (fun b o n0 n1 n2 e => S₆.kb b o n0 n2 (kbA b o n0 n1 n2 e)) (dmA.trans S₆.dm), l₆, o₆, hr⟩
      obtain ⟨h₆, tk₆, rfl⟩ := S₆.same; exact ⟨h₆, tk₆, rfl⟩
    | brk => exact q.elim
    | cont => exact q.elim
  · have hin : i = n := by omega
    subst hin
    refine T.done { s with heap := h', toks := tk } g' _ _ st F'.st off fun h₄ tk₄ kg₄ kk₄ => ?_
    have F₄ : Fm env val' g' { s with heap := h₄, toks := tk₄ } := ⟨F'.lc.ext fun b o hb e => kk₄ b o (hoo b hb) e, kg₄, fun b hb => by
      obtain ⟨o, ho⟩ := Option.isSome_iff_exists.mp (F'.off b hb).2
      exact ⟨(F'.off b hb).1, by show (h₄.get? b).isSome; rw [kk₄ b o (hoo b hb) ho]; rfl⟩⟩
    refine wpAny_execs_nil ⟨val', g', ys', ⟨F₄, ⟨_, kk₄ D _ nDo eD'⟩, FD'.off, FD.nd⟩, ⟨gr₁.trans kk₁ gr, kg₄, ⟨h₄, tk₄, rfl⟩, fun b o nd nb e => kk₄ b o (fun hb => by rw [(hown₁ b hb).2.1] at e; cases e) (kb b o nd (fun hb => by rw [(hown₁ b hb).2.1] at e; cases e) nb (kk₁ b o e)), ?_⟩, hend _ _ _ (stays_trans gr₁.up gr.up) hJ⟩
    intro b e
    obtain ⟨o, ho⟩ := Option.isSome_iff_exists.mp e
    obtain ⟨o', ho'⟩ := Option.isSome_iff_exists.mp (dm b (by rw [kk₁ b o ho]; rfl))
    show (h₄.get? b).isSome
    rw [kk₄ b o' (fun hb => by rw [(hown₁ b hb).2.1] at ho; cases ho) ho']; rfl

theorem sxd_while {test : Expr} {body : List Stmt} {pos : Pos} (J : Nat → (Str → Option Value) → Heap → Array Value → Prop) {n : Nat} (h0 : J n val g ys)
    (turn : ∀ k val' g' ys', g.StaysIn g' → J k val' g' ys' → ∃ b, Tv (model prog w) A env test (Cx env val' g') b ∧
      (b = true → ∀ g'', g'.StaysIn g'' → BxD (model prog w) A env D body val' g'' ys' (fun v h zs => ∃ m, m < k ∧ J m v h zs) Qr) ∧ (b = false → ∀ g'', g'.StaysIn g'' → Qn val' g'' ys')) :
    SxD (model prog w) A env D (.While test body [] pos) val g ys Qn Qr := by
  intro E s F
  refine wpAny_While (codeAny_whileLoop (fun k s' => ∃ val' g' ys', FmD env D val' g' ys' s' ∧ StepD env D s g g' s' ∧ J k val' g' ys') ?_ n ⟨val, g, ys, F, .refl F.fm.st, h0⟩)
  rintro k s' ⟨val', g', ys', F', S', hJ⟩
  obtain ⟨b, ht, h₁, h₂⟩ := turn k val' g' ys' S'.gr.up hJ
  refine ht.run F'.fm fun g₁ s₁ F₁ S₁ => ?_
  have S₂ := S'.trans S₁.toD
  have F₂ := F'.step F₁ S₁
  cases b with
  | true =>
    simp only [if_true]
    refine wpAny_mono (h₁ rfl g₁ S₁.gr.up _ s₁ F₂) (fun f s₃ q => ?_) fun _ _ e => e
    cases f with
    | next => obtain ⟨val₃, g₃, ys₃, F₃, S₃, m, hm, hJ₃⟩ := q; exact ⟨m, hm, val₃, g₃, ys₃, F₃, S₂.trans S₃, hJ₃⟩
    | ret v => obtain ⟨g₃, ys₃, S₃, l₃, o₃, hr⟩ := q; exact ⟨g₃, ys₃, S₂.trans S₃, l₃, o₃, hr⟩
    | brk => exact q.elim
    | cont => exact q.elim
  | false =>
    simp only [Bool.false_eq_true, if_false]
    exact wpAny_execs_nil ⟨val', g₁, ys', F₂, S₂, h₂ rfl g₁ S₁.gr.up⟩
end


/-! ## what a list that is changed holds -/
noncomputable def LD {α : Type} (R : α → Value → Heap → Prop) (xs : List α) (ys : Array Value) (g : Heap) : Prop :=
  ys.size = xs.length ∧ ∀ (i : Nat) (x : α), xs[i]? = some x → ∃ u, ys[i]? = some u ∧ R x u g
theorem LD.mono {α : Type} {R : α → Value → Heap → Prop} (m : ∀ x, MonoV (R x)) {xs : List α} {ys : Array Value} {g g' : Heap} (k : g.StaysIn g') (h : LD R xs ys g) : LD R xs ys g' :=
  ⟨h.1, fun i x e => let ⟨u, a, b⟩ := h.2 i x e; ⟨u, a, m _ _ _ _ k b⟩⟩
theorem LD.push {α : Type} {R : α → Value → Heap → Prop} {xs : List α} {ys : Array Value} {g : Heap} {x : α} {v : Value} (h : LD R xs ys g) (hv : R x v g) : LD R (xs ++ [x]) (ys.push v) g := by
  refine ⟨by rw [Array.size_push, h.1, List.length_append]; rfl, fun i y e => ?_⟩
  by_cases hi : i < xs.length
  · rw [List.getElem?_append_left hi] at e
    obtain ⟨u, a, b⟩ := h.2 i y e
    exact ⟨u, by rw [Array.getElem?_push, if_neg (by rw [h.1]; omega)]; exact a, b⟩
  · rw [List.getElem?_append_right (by omega)] at e
    by_cases hq : i = xs.length
    · subst hq
      rw [Nat.sub_self] at e
      cases e
      exact ⟨v, by rw [Array.getElem?_push, if_pos h.1.symm], hv⟩
    · rw [List.getElem?_eq_none (by simp; omega)] at e; cases e
theorem LD.reverse {α : Type} {R : α → Value → Heap → Prop} {xs : List α} {ys : Array Value} {g : Heap} (h : LD R xs ys g) : LD R xs.reverse ys.toList.reverse.toArray g := by
  have hl : ys.toList.length = xs.length := by rw [Array.length_toList]; exact h.1
  refine ⟨by rw [List.size_toArray, List.length_reverse, List.length_reverse, hl], fun i x e => ?_⟩
  obtain ⟨hi, _⟩ := List.getElem?_eq_some_iff.mp e
  rw [List.length_reverse] at hi
  rw [List.getElem?_reverse hi] at e
  obtain ⟨u, a, b⟩ := h.2 _ _ e
  refine ⟨u, ?_, b⟩
  rw [List.getElem?_toArray, List.getElem?_reverse (by omega), hl, Array.getElem?_toList]
  exact a
theorem LD.lst {α : Type} {R : α → Value → Heap → Prop} {xs : List α} {ys : Array Value} {g : Heap} {D : Addr} (h : LD R xs ys g) (hl : g.IsList D ys) : LstV R xs (.ref D) g := ⟨D, ys, rfl, hl, h.1, h.2⟩

theorem allV1_mono {P : Value → Heap → Prop} (m : MonoV P) (vs : List Value) (g g' : Heap) (k : g.StaysIn g') (h : AllV [P] vs g) : AllV [P] vs g' := by
  obtain ⟨u, rfl, a⟩ := allV1 h
  exact ⟨m _ _ _ k a, trivial⟩
theorem allV1_len {P : Value → Heap → Prop} (vs : List Value) (g : Heap) (h : AllV [P] vs g) : vs.length ≤ sizeLine := by
  obtain ⟨u, rfl, a⟩ := allV1 h
  exact (by decide : (1:Nat) ≤ 2 ^ 24)
theorem allV1_ld {α : Type} {R : α → Value → Heap → Prop} {x : α} {vs : List Value} {g : Heap} (h : AllV [R x] vs g) : LD R [x] vs.toArray g := by
  obtain ⟨v, rfl, a⟩ := allV1 h
  refine ⟨rfl, fun i y e => ?_⟩
  cases i with
  | zero => cases e; exact ⟨v, rfl, a⟩
  | succ i => cases e

/-! ## charpoly -/
noncomputable def mulR (M N : List (List Int)) : List (List Int) := M.map fun y => (transM N).map fun c => dotZ y c y.length
noncomputable def scaleR (M : List (List Int)) (x : Int) : List (List Int) := M.map fun y => y.map fun z => z * x
noncomputable def addR (M N : List (List Int)) : List (List Int) := M.mapIdx fun i y => y.mapIdx fun j z => z + (N.getD i []).getD j 0
theorem mulR_sq {k : Nat} {M N : List (List Int)} (h : Sq k M) (h' : Sq k N) : Sq k (mulR M N) := by
  refine ⟨by unfold mulR; rw [List.length_map]; exact h.rows, fun y hy => ?_⟩
  obtain ⟨x, _, rfl⟩ := List.mem_map.mp hy
  rw [List.length_map]; unfold transM; rw [List.length_map, List.length_range, h'.wide]
theorem scaleR_sq {k : Nat} {M : List (List Int)} {x : Int} (h : Sq k M) : Sq k (scaleR M x) := by
  refine ⟨by unfold scaleR; rw [List.length_map]; exact h.rows, fun y hy => ?_⟩
  obtain ⟨z, hz, rfl⟩ := List.mem_map.mp hy
  rw [List.length_map]; exact h.cols z hz
theorem addR_sq {k : Nat} {M N : List (List Int)} (h : Sq k M) : Sq k (addR M N) := by
  refine ⟨by unfold addR; rw [List.length_mapIdx]; exact h.rows, fun y hy => ?_⟩
  unfold addR at hy
  rw [List.mem_mapIdx] at hy
  obtain ⟨i, hi, rfl⟩ := hy
  rw [List.length_mapIdx]; exact h.cols _ (List.getElem_mem _)
noncomputable def cpP (M : List (List Int)) (k : Nat) : Nat → List (List Int)
  | 0 => unitM k
  | i + 1 => addR (mulR M (cpP M k i)) (scaleR (unitM k) (-(traceZ (mulR M (cpP M k i)) k / ((i + 1 : Nat) : Int))))
noncomputable def cpT (M : List (List Int)) (k i : Nat) : Int := traceZ (mulR M (cpP M k i)) k
noncomputable def cpC (M : List (List Int)) (k i : Nat) : Int := -(cpT M k i / ((i + 1 : Nat) : Int))
noncomputable def cpL (M : List (List Int)) (k i : Nat) : List Int := 1 :: (List.range i).map (cpC M k)
theorem cpP_sq {M : List (List Int)} {k : Nat} (h : Sq k M) : ∀ i, Sq k (cpP M k i)
  | 0 => unitM_sq k
  | i + 1 => addR_sq (mulR_sq h (cpP_sq h i))

section
variable {prog : Program} {w : World} {A : Around} {env : Env} {I : Heap → Heap → Prop}
theorem n_mat_mul : nsIn (hd.heap_39 w.params) mainGlobals (Str.ofString "mat_mul") = some (some (.ref 148)) := by k_is
theorem k_mat_mul : keepIn (hd.heap_39 w.params) (.ref 148) = true := by k_is
theorem n_mat_add : nsIn (hd.heap_39 w.params) mainGlobals (Str.ofString "mat_add") = some (some (.ref 138)) := by k_is
theorem k_mat_add : keepIn (hd.heap_39 w.params) (.ref 138) = true := by k_is
theorem n_mat_scale : nsIn (hd.heap_39 w.params) mainGlobals (Str.ofString "mat_scale") = some (some (.ref 143)) := by k_is
theorem k_mat_scale : keepIn (hd.heap_39 w.params) (.ref 143) = true := by k_is
theorem n_unit_matrix : nsIn (hd.heap_39 w.params) mainGlobals (Str.ofString "unit_matrix") = some (some (.ref 121)) := by k_is
theorem k_unit_matrix : keepIn (hd.heap_39 w.params) (.ref 121) = true := by k_is
theorem n_trace : nsIn (hd.heap_39 w.params) mainGlobals (Str.ofString "trace") = some (some (.ref 155)) := by k_is
theorem k_trace : keepIn (hd.heap_39 w.params) (.ref 155) = true := by k_is
theorem n_rneg : nsIn (hd.heap_39 w.params) mainGlobals (Str.ofString "rneg") = some (some (.ref 97)) := by k_is
theorem k_rneg : keepIn (hd.heap_39 w.params) (.ref 97) = true := by k_is
theorem n_rdiv : nsIn (hd.heap_39 w.params) mainGlobals (Str.ofString "rdiv") = some (some (.ref 90)) := by k_is
theorem k_rdiv : keepIn (hd.heap_39 w.params) (.ref 90) = true := by k_is

theorem trace_sq {k : Nat} {M : List (List Int)} (r : Room A 4) (hk : k < 1000) (h : Sq k M) (u : Value) : Cv (model prog w) A (.ref 155) [u] (fun g => Bs w g ∧ RatMat M u g) (RatV (traceZ M k)) := by
  have := trace_v (prog := prog) (w := w) (M := M) r (by rw [h.rows]; omega) (fun x hx => by rw [h.cols x hx, h.rows]) u
  rw [h.rows] at this
  exact this
theorem charpoly_v {k b : Nat} {M : List (List Int)} (r : Room A 6) (hk : k < 900) (hS : Sq k M) (hB : Bd b M) (hb : b < 2 ^ 64) (hdv : ∀ i, i < k → cpT M k i % ((i + 1 : Nat) : Int) = 0) (u : Value) :
    Cv (model prog w) A (.ref 162) [u] (fun g => Bs w g ∧ RatMat M u g) (RatRow (cpL M k k).reverse) := by
  refine cv_def (n := 5) (binds := [(Str.ofString "a", u)]) r (fun g i => i.1) (by k_is) (by k_is) rfl rfl (by decide) rfl rfl rfl ?_
  intro L g env he ap i
  subst he
  obtain ⟨B, hu⟩ := i
  refine bx_cons (sx_assign (P := IntV k) rfl ap (.inl rfl) (by rw [← hS.rows]; exact ev_len (fun _ => RatRow.mono) Cx.mono (fun h g' c => B.mono c.2) (by rw [hS.rows]; omega) (ev_var u rfl RatMat.mono hu)) rfl) ?_
  rintro val₁ g₁ k₁ ⟨vn, rfl, hn⟩
  have B₁ := B.mono k₁
  have hu₁ := RatMat.mono _ _ _ k₁ hu
  refine bx_cons (sx_need (r.deeper _ |>.less (by decide)) B₁ ?_) ?_
  · exact ev_eqI (a := (k : Int)) (b := (wide M : Int)) Cx.mono (by rw [hS.wide]; simp) (ev_var vn rfl IntV.mono hn) (ev_snd (ev_shape (r.deeper _ |>.less (by decide)) (by rw [hS.rows]; omega) (fun x hx => by rw [hS.cols x hx]; omega) Cx.mono (fun h g' c => B₁.mono c.2) (ev_var u rfl RatMat.mono hu₁)))
  rintro val₂ g₂ k₂ rfl
  have B₂ := B₁.mono k₂
  have hu₂ := RatMat.mono _ _ _ k₂ hu₁
  have hn₂ := IntV.mono _ _ _ k₂ hn
  refine bx_consD (Ps := [RatV 1]) (P₂ := RatMat (unitM k)) (fun D v g ys => v = .ref D ∧ LD RatV (cpL M k k).reverse ys g) r.hh rfl ap (.inl rfl) (.inl rfl)
    (evs_cons Cx.mono RatV.mono (ev_R1 (fun h g' c => B₂.mono c.2)) evs_nil)
    (ev_callG (Ps := [IntV k]) Cx.mono (fun h g' c => B₂.mono c.2) n_unit_matrix k_unit_matrix (evs_cons Cx.mono IntV.mono (ev_var vn rfl IntV.mono hn₂) evs_nil) (cv_args1 fun u => unit_matrix_v (r.deeper _ |>.less (by decide)) (by omega) u))
    (allV1_mono RatV.mono) allV1_len
    rfl rfl rfl rfl ?_ ?_
  rotate_left
  · rintro D v g' ys g'' ⟨rfl, hl⟩ kg hD
    exact (hl.mono (fun _ => RatV.mono) kg).lst hD
  intro D vs p g₃ k₃ hvs hp
  have hLD : LD RatV (cpL M k 0) vs.toArray g₃ := by
    exact allV1_ld hvs
  have B₃ := B₂.mono k₃
  have hu₃ := RatMat.mono _ _ _ k₃ hu₂
  have hn₃ := IntV.mono _ _ _ k₃ hn₂
  refine bxd_cons (sxd_for (n := k) (Qn := fun val g ys => val (Str.ofString "found") = some (.ref D) ∧ LD RatV (cpL M k k) ys g)
    (fun i val g ys => ∃ p, val (Str.ofString "power") = some p ∧ RatMat (cpP M k i) p g ∧ LD RatV (cpL M k i) ys g ∧ val (Str.ofString "a") = some u ∧ val (Str.ofString "n") = some vn ∧ val (Str.ofString "found") = some (.ref D))
    rfl ap (fun _ => rfl) (source_range (a := 1) (b := (k : Int) + 1) (n := k) r.hh Cx.mono (by decide) (by decide) (by omega) (by omega) (by split <;> omega)
      (ev_range2 Cx.mono (fun h g' c => B₃.mono c.2) ev_int (ev_add Cx.mono (ev_var vn rfl IntV.mono hn₃) ev_int))) ?_ ?_ ?_ ?_ ?_) ?_
  · rintro i val g g' ys kk ⟨p, e, h, hl, r⟩
    exact ⟨p, e, RatMat.mono _ _ _ kk h, hl.mono (fun _ => RatV.mono) kk, r⟩
  · rintro i bs g ⟨t, _, rfl⟩ z hz
    rw [List.mem_singleton.mp hz]; exact .inl rfl
  · intro g' kk
    exact ⟨p, rfl, RatMat.mono _ _ _ kk hp, hLD.mono (fun _ => RatV.mono) kk, rfl, rfl, rfl⟩
  · rintro i val' g' ys bs hi kg ⟨p', ep, hp', hl, ea, en, ef⟩ ⟨t, _, rfl⟩
    have hu' := RatMat.mono _ _ _ kg hu₃
    have hn' := IntV.mono _ _ _ kg hn₃
    have B' := B₃.mono kg
    have sP := cpP_sq hS i
    have sM := mulR_sq hS sP
    -- power
    refine bxd_let (sx_assign (P := RatMat (mulR M (cpP M k i))) rfl ap (.inl rfl) (ev_callG (Ps := [RatMat M, RatMat (cpP M k i)]) Cx.mono (fun h g' c => B'.mono c.2) n_mat_mul k_mat_mul (evs_cons Cx.mono RatMat.mono (ev_var u ea RatMat.mono hu') (evs_cons Cx.mono RatMat.mono (ev_var p' ep RatMat.mono hp') evs_nil))
      (cv_args2 fun u v => mat_mul_v (r.deeper _) (by rw [hS.rows]; omega) (by rw [sP.rows]; omega) (fun y hy => by rw [hS.cols y hy, sP.rows]) (by rw [hS.wide, sP.rows]) (fun y hy => by rw [sP.cols y hy]; omega) (fun y hy => by rw [sP.wide, sP.cols y hy]; exact Nat.le_refl _) (mulOk_bd hB hb) u v)) rfl) ?_
    rintro v₄ g₄ k₄ ⟨p₄, rfl, hp₄⟩
    have B₄ := B'.mono k₄
    have hn₄ := IntV.mono _ _ _ k₄ hn'
    -- number
    refine bxd_let (sx_assign (P := RatV (cpC M k i)) rfl ap (.inl rfl) (ev_callG (Ps := [RatV (cpT M k i / ((i + 1 : Nat) : Int))]) Cx.mono (fun h g' c => B₄.mono c.2) n_rneg k_rneg (evs_cons Cx.mono RatV.mono
      (ev_callG (Ps := [RatV (cpT M k i), RatV ((i + 1 : Nat) : Int)]) Cx.mono (fun h g' c => B₄.mono c.2) n_rdiv k_rdiv (evs_cons Cx.mono RatV.mono
        (ev_callG (Ps := [RatMat (mulR M (cpP M k i))]) Cx.mono (fun h g' c => B₄.mono c.2) n_trace k_trace (evs_cons Cx.mono RatMat.mono (ev_var p₄ rfl RatMat.mono hp₄) evs_nil)
          (cv_args1 fun u => trace_sq (r.deeper _ |>.less (by decide)) (by omega) sM u))
        (evs_cons Cx.mono RatV.mono (ev_ratpair Cx.mono (ev_var (.int (1 + (i : Int)) t) rfl IntV.mono ⟨t, by rw [show ((i + 1 : Nat) : Int) = 1 + (i : Int) by omega]⟩) ev_int) evs_nil))
        (cv_args2 fun u v => rdiv_v (r.deeper _ |>.less (by decide)) (by omega) (by omega) (hdv i hi) u v)) evs_nil)
      (cv_args1 fun u => rneg_v (r.deeper _ |>.less (by decide)) u)) rfl) ?_
    rintro v₅ g₅ k₅ ⟨c₅, rfl, hc₅⟩
    have hl₅ := (hl.mono (fun _ => RatV.mono) k₄).mono (fun _ => RatV.mono) k₅
    have hsz : ys.size ≤ sizeLine := by rw [hl.1, sizeLine_eq]; unfold cpL; rw [List.length_cons, List.length_map, List.length_range]; omega
    -- found.append(number)
    refine bxd_cons (sxd_append (Qn := fun v g ys' => v = _ ∧ LD RatV (cpL M k (i + 1)) ys' g) (.inl rfl) rfl (by decide) ef (ev_var c₅ rfl RatV.mono hc₅) hsz rfl rfl rfl rfl rfl (fun v g₆ k₆ hv => ⟨rfl, ?_⟩)) ?_
    · have := (hl₅.mono (fun _ => RatV.mono) k₆).push hv
      rw [show cpL M k (i + 1) = cpL M k i ++ [cpC M k i] by unfold cpL; rw [List.range_succ, List.map_append]; rfl]
      exact this
    rintro v₆ g₆ ys₆ k₆ ⟨rfl, hl₆⟩
    have B₆ := (B₄.mono k₅).mono k₆
    have hp₆ := RatMat.mono _ _ _ k₆ (RatMat.mono _ _ _ k₅ hp₄)
    have hc₆ := RatV.mono _ _ _ k₆ hc₅
    have hn₆ := IntV.mono _ _ _ k₆ (IntV.mono _ _ _ k₅ hn₄)
    have sU := unitM_sq k
    have sC := scaleR_sq (x := cpC M k i) sU
    refine bxd_let (sx_assign (P := RatMat (cpP M k (i + 1))) rfl ap (.inl rfl) (ev_callG (Ps := [RatMat (mulR M (cpP M k i)), RatMat (scaleR (unitM k) (cpC M k i))]) Cx.mono (fun h g' c => B₆.mono c.2) n_mat_add k_mat_add
      (evs_cons Cx.mono RatMat.mono (ev_var p₄ rfl RatMat.mono hp₆) (evs_cons Cx.mono RatMat.mono
        (ev_callG (Ps := [RatMat (unitM k), RatV (cpC M k i)]) Cx.mono (fun h g' c => B₆.mono c.2) n_mat_scale k_mat_scale
          (evs_cons Cx.mono RatMat.mono (ev_callG (Ps := [IntV k]) Cx.mono (fun h g' c => B₆.mono c.2) n_unit_matrix k_unit_matrix (evs_cons Cx.mono IntV.mono (ev_var vn en IntV.mono hn₆) evs_nil) (cv_args1 fun u => unit_matrix_v (r.deeper _ |>.less (by decide)) (by omega) u))
            (evs_cons Cx.mono RatV.mono (ev_var c₅ rfl RatV.mono hc₆) evs_nil))
          (cv_args2 fun u v => mat_scale_v (r.deeper _ |>.less (by decide)) (by rw [sU.rows]; omega) (fun y hy => by rw [sU.cols y hy]; omega) (fun y hy z hz => mulOk_bd (unitM_bd k) (by decide) y hy z hz _) u v)) evs_nil))
      (cv_args2 fun u v => mat_add_v (r.deeper _ |>.less (by decide)) (by rw [sM.rows]; omega) (by rw [sC.rows, sM.rows]) (by rw [sM.wide, sC.wide]) (fun y hy => by rw [sM.cols y hy]; omega) (fun y hy => by rw [sC.cols y hy]; omega) (fun j y e => ?_) u v)) rfl) ?_
    · have hj : j < k := by
        have := (List.getElem?_eq_some_iff.mp e).1
        rw [sM.rows] at this; exact this
      rw [sM.cols y (List.mem_of_getElem? e)]
      rw [List.getD_eq_getElem?_getD, List.getElem?_eq_getElem (by rw [sC.rows]; exact hj)]
      exact sC.cols _ (List.getElem_mem _)
    rintro v₇ g₇ k₇ ⟨p₇, rfl, hp₇⟩
    exact bxd_nil ⟨p₇, rfl, hp₇, hl₆.mono (fun _ => RatV.mono) k₇, ea, en, ef⟩
  · rintro val' g' ys' kg ⟨p', ep, hp', hl, ea, en, ef⟩
    exact ⟨ef, hl⟩
  rintro val₄ g₄ ys₄ k₄ ⟨ef, hl₄⟩
  have hsz : ys₄.size ≤ sizeLine := by rw [hl₄.1, sizeLine_eq]; unfold cpL; rw [List.length_cons, List.length_map, List.length_range]; omega
  refine bxd_cons (sxd_reverse (Qn := fun v g ys' => v = val₄ ∧ LD RatV (cpL M k k).reverse ys' g) (.inl rfl) rfl (by decide) ef hsz rfl rfl rfl rfl ⟨rfl, hl₄.reverse⟩) ?_
  rintro val₅ g₅ ys₅ k₅ ⟨rfl, hl₅⟩
  refine bxd_cons (Qm := fun _ _ _ => False) (sxd_lift (Qn' := fun _ _ => False) (Qr' := fun v g => v = .ref D ∧ LD RatV (cpL M k k).reverse ys₅ g) (sx_return (ev_name (.ref D) (fun h g' c k => c.1.sees (.inl rfl) ef) (fun h g' c => ⟨rfl, hl₅.mono (fun _ => RatV.mono) c.2⟩) (by rfl) (by decide))) (fun _ _ q => q) fun v g q => q) fun _ _ _ _ q => q.elim
end


/-! ## plain maths: matrices of three rows -/
noncomputable abbrev mk3 (a b c d e f g h i : Int) : List (List Int) := [[a, b, c], [d, e, f], [g, h, i]]
noncomputable abbrev tr3 (a b c d e f g h i : Int) : Int := a + e + i
noncomputable abbrev mi3 (a b c d e f g h i : Int) : Int := a * e - b * d + (a * i - c * g) + (e * i - f * h)
noncomputable abbrev de3 (a b c d e f g h i : Int) : Int := a * (e * i - f * h) - b * (d * i - f * g) + c * (d * h - e * g)
theorem cons_of {α : Type} {l : List α} {n : Nat} (h : l.length = n + 1) : ∃ x r, l = x :: r ∧ r.length = n := by
  cases l with
  | nil => cases h
  | cons x r => exact ⟨x, r, rfl, Nat.succ.inj h⟩
theorem list1 {α : Type} {l : List α} (h : l.length = 1) : ∃ a, l = [a] := by
  obtain ⟨a, r, rfl, h'⟩ := cons_of h
  exact ⟨a, by rw [List.length_eq_zero_iff.mp h']⟩
theorem list2 {α : Type} {l : List α} (h : l.length = 2) : ∃ a b, l = [a, b] := by
  obtain ⟨a, r, rfl, h'⟩ := cons_of h
  obtain ⟨b, rfl⟩ := list1 h'
  exact ⟨a, b, rfl⟩
theorem list3 {α : Type} {l : List α} (h : l.length = 3) : ∃ a b c, l = [a, b, c] := by
  obtain ⟨a, r, rfl, h'⟩ := cons_of h
  obtain ⟨b, c, rfl⟩ := list2 h'
  exact ⟨a, b, c, rfl⟩
theorem sq3 {M : List (List Int)} (h : Sq 3 M) : ∃ a b c d e f g h i, M = mk3 a b c d e f g h i := by
  obtain ⟨x, y, z, rfl⟩ := list3 h.rows
  obtain ⟨a, b, c, rfl⟩ := list3 (h.cols x (.head _))
  obtain ⟨d, e, f, rfl⟩ := list3 (h.cols y (.tail _ (.head _)))
  obtain ⟨g, q, i, rfl⟩ := list3 (h.cols z (.tail _ (.tail _ (.head _))))
  exact ⟨a, b, c, d, e, f, g, q, i, rfl⟩
theorem mulZ3 (a b c d e f g h i a' b' c' d' e' f' g' h' i' : Int) : mulZ (mk3 a b c d e f g h i) (mk3 a' b' c' d' e' f' g' h' i') =
    mk3 (a*a'+(b*d'+(c*g'+0))) (a*b'+(b*e'+(c*h'+0))) (a*c'+(b*f'+(c*i'+0))) (d*a'+(e*d'+(f*g'+0))) (d*b'+(e*e'+(f*h'+0))) (d*c'+(e*f'+(f*i'+0))) (g*a'+(h*d'+(i*g'+0))) (g*b'+(h*e'+(i*h'+0))) (g*c'+(h*f'+(i*i'+0))) := rfl
theorem mulR3 (a b c d e f g h i a' b' c' d' e' f' g' h' i' : Int) : mulR (mk3 a b c d e f g h i) (mk3 a' b' c' d' e' f' g' h' i') =
    mk3 (0+a*a'+b*d'+c*g') (0+a*b'+b*e'+c*h') (0+a*c'+b*f'+c*i') (0+d*a'+e*d'+f*g') (0+d*b'+e*e'+f*h') (0+d*c'+e*f'+f*i') (0+g*a'+h*d'+i*g') (0+g*b'+h*e'+i*h') (0+g*c'+h*f'+i*i') := rfl
theorem unit3 : unitM 3 = mk3 1 0 0 0 1 0 0 0 1 := rfl
theorem scale3 (a b c d e f g h i x : Int) : scaleR (mk3 a b c d e f g h i) x = mk3 (a*x) (b*x) (c*x) (d*x) (e*x) (f*x) (g*x) (h*x) (i*x) := rfl
theorem add3 (a b c d e f g h i a' b' c' d' e' f' g' h' i' : Int) : addR (mk3 a b c d e f g h i) (mk3 a' b' c' d' e' f' g' h' i') = mk3 (a+a') (b+b') (c+c') (d+d') (e+e') (f+f') (g+g') (h+h') (i+i') := rfl
theorem trace3 (a b c d e f g h i : Int) : traceZ (mk3 a b c d e f g h i) 3 = 0 + a + e + i := rfl
theorem one3 (a b c d e f g h i : Int) : mulZ (mk3 1 0 0 0 1 0 0 0 1) (mk3 a b c d e f g h i) = mk3 a b c d e f g h i := by
  rw [mulZ3]
  simp
theorem oneR3 (a b c d e f g h i : Int) : mulR (mk3 a b c d e f g h i) (mk3 1 0 0 0 1 0 0 0 1) = mk3 a b c d e f g h i := by
  rw [mulR3]
  simp

/-- the numbers of a matrix -/
theorem cp3 (a b c d e f g h i : Int) : cpT (mk3 a b c d e f g h i) 3 0 = tr3 a b c d e f g h i ∧ cpT (mk3 a b c d e f g h i) 3 1 = 2 * -(mi3 a b c d e f g h i) ∧ cpT (mk3 a b c d e f g h i) 3 2 = 3 * de3 a b c d e f g h i := by
  have h0 : cpT (mk3 a b c d e f g h i) 3 0 = tr3 a b c d e f g h i := by
    unfold cpT cpP
    rw [unit3, oneR3, trace3]
    grind
  have p1 : cpP (mk3 a b c d e f g h i) 3 1 = mk3 (a - tr3 a b c d e f g h i) b c d (e - tr3 a b c d e f g h i) f g h (i - tr3 a b c d e f g h i) := by
    show addR (mulR _ (cpP _ 3 0)) (scaleR (unitM 3) (-(cpT (mk3 a b c d e f g h i) 3 0 / 1))) = _
    rw [h0, Int.ediv_one]
    show addR (mulR _ (unitM 3)) _ = _
    rw [unit3, oneR3, scale3, add3]
    simp [Int.sub_eq_add_neg]
  have h1 : cpT (mk3 a b c d e f g h i) 3 1 = 2 * -(mi3 a b c d e f g h i) := by
    unfold cpT
    rw [p1, mulR3, trace3]
    grind
  have p2 : cpP (mk3 a b c d e f g h i) 3 2 = addR (mulR (mk3 a b c d e f g h i) (cpP (mk3 a b c d e f g h i) 3 1)) (mk3 (mi3 a b c d e f g h i) 0 0 0 (mi3 a b c d e f g h i) 0 0 0 (mi3 a b c d e f g h i)) := by
    show addR _ (scaleR (unitM 3) (-(cpT (mk3 a b c d e f g h i) 3 1 / 2))) = _
    rw [h1, Int.mul_ediv_cancel_left _ (by decide), unit3, scale3]
    simp
  refine ⟨h0, h1, ?_⟩
  unfold cpT
  rw [p2, p1, mulR3, add3, mulR3, trace3]
  grind

/-- the traces of the powers -/
noncomputable def tq (e1 e2 e3 : Int) : Nat → Int
  | 0 => 3
  | 1 => e1
  | 2 => e1 * e1 - 2 * e2
  | n + 3 => e1 * tq e1 e2 e3 (n + 2) - e2 * tq e1 e2 e3 (n + 1) + e3 * tq e1 e2 e3 n
noncomputable def trS (M : List (List Int)) (k : Nat) : Int := ((List.range k).map fun (i : Nat) => (M.getD i []).getD i 0).sum
theorem trS3 (a b c d e f g h i : Int) : trS (mk3 a b c d e f g h i) 3 = a + (e + (i + 0)) := rfl
set_option maxHeartbeats 2000000 in
theorem pw3_2 (a b c d e f g h i : Int) : trS (mulZ (mk3 a b c d e f g h i) (mk3 a b c d e f g h i)) 3 = tq (tr3 a b c d e f g h i) (mi3 a b c d e f g h i) (de3 a b c d e f g h i) 2 := by
  rw [mulZ3, trS3]
  simp only [tq]
  grind
set_option maxHeartbeats 2000000 in
theorem pw3_3 (a b c d e f g h i : Int) : trS (mulZ (mk3 a b c d e f g h i) (mulZ (mk3 a b c d e f g h i) (mk3 a b c d e f g h i))) 3 = tq (tr3 a b c d e f g h i) (mi3 a b c d e f g h i) (de3 a b c d e f g h i) 3 := by
  rw [mulZ3, mulZ3, trS3]
  simp only [tq]
  grind
set_option maxHeartbeats 2000000 in
theorem pw3_4 (a b c d e f g h i : Int) : trS (mulZ (mulZ (mk3 a b c d e f g h i) (mk3 a b c d e f g h i)) (mulZ (mk3 a b c d e f g h i) (mk3 a b c d e f g h i))) 3 = tq (tr3 a b c d e f g h i) (mi3 a b c d e f g h i) (de3 a b c d e f g h i) 4 := by
  rw [mulZ3, mulZ3, trS3]
  simp only [tq]
  grind
set_option maxHeartbeats 2000000 in
theorem pw3_5 (a b c d e f g h i : Int) : trS (mulZ (mk3 a b c d e f g h i) (mulZ (mulZ (mk3 a b c d e f g h i) (mk3 a b c d e f g h i)) (mulZ (mk3 a b c d e f g h i) (mk3 a b c d e f g h i)))) 3 = tq (tr3 a b c d e f g h i) (mi3 a b c d e f g h i) (de3 a b c d e f g h i) 5 := by
  rw [mulZ3, mulZ3, mulZ3, trS3]
  simp only [tq]
  grind
set_option maxHeartbeats 2000000 in
theorem pw3_6 (a b c d e f g h i : Int) : trS (mulZ (mulZ (mk3 a b c d e f g h i) (mk3 a b c d e f g h i)) (mulZ (mulZ (mk3 a b c d e f g h i) (mk3 a b c d e f g h i)) (mulZ (mk3 a b c d e f g h i) (mk3 a b c d e f g h i)))) 3 = tq (tr3 a b c d e f g h i) (mi3 a b c d e f g h i) (de3 a b c d e f g h i) 6 := by
  rw [mulZ3, mulZ3, mulZ3, trS3]
  simp only [tq]
  grind

/-! ## the powers -/
noncomputable def pw (M : List (List Int)) (k j : Nat) : List (List Int) := raiseZ 3 (unitM k) M j
theorem pw_is {M : List (List Int)} {k : Nat} (one : ∀ X, Sq k X → mulZ (unitM k) X = X) (h : Sq k M) :
    pw M k 1 = M ∧ pw M k 2 = mulZ M M ∧ pw M k 3 = mulZ M (mulZ M M) ∧ pw M k 4 = mulZ (mulZ M M) (mulZ M M) ∧ pw M k 5 = mulZ M (mulZ (mulZ M M) (mulZ M M)) ∧ pw M k 6 = mulZ (mulZ M M) (mulZ (mulZ M M) (mulZ M M)) := by
  have h2 := mulZ_sq h h
  have h4 := mulZ_sq h2 h2
  refine ⟨?_, ?_, ?_, ?_, ?_, ?_⟩
  · show mulZ (unitM k) M = M
    exact one M h
  · show mulZ (unitM k) (mulZ M M) = _
    exact one _ h2
  · show mulZ (mulZ (unitM k) M) (mulZ M M) = _
    rw [one M h]
  · show mulZ (unitM k) _ = _
    exact one _ h4
  · show mulZ (mulZ (unitM k) M) (mulZ (mulZ M M) (mulZ M M)) = _
    rw [one M h]
  · show mulZ (mulZ (unitM k) (mulZ M M)) (mulZ (mulZ M M) (mulZ M M)) = _
    rw [one _ h2]
/-! ### three rows -/
noncomputable def at2 (M : List (List Int)) (i j : Nat) : Int := (M.getD i []).getD j 0
noncomputable def det3 (M : List (List Int)) : Int := de3 (at2 M 0 0) (at2 M 0 1) (at2 M 0 2) (at2 M 1 0) (at2 M 1 1) (at2 M 1 2) (at2 M 2 0) (at2 M 2 1) (at2 M 2 2)
noncomputable def com9 (a b c d e f g h i : Int) : List (List Int) := mk3 (a*e-b*d) (a*f-c*d) (b*f-c*e) (a*h-b*g) (a*i-c*g) (b*i-c*h) (d*h-e*g) (d*i-f*g) (e*i-f*h)
noncomputable def com3 (M : List (List Int)) : List (List Int) := com9 (at2 M 0 0) (at2 M 0 1) (at2 M 0 2) (at2 M 1 0) (at2 M 1 1) (at2 M 1 2) (at2 M 2 0) (at2 M 2 1) (at2 M 2 2)
theorem det3_mk (a b c d e f g h i : Int) : det3 (mk3 a b c d e f g h i) = de3 a b c d e f g h i := rfl
theorem com3_mk (a b c d e f g h i : Int) : com3 (mk3 a b c d e f g h i) = mk3 (a*e-b*d) (a*f-c*d) (b*f-c*e) (a*h-b*g) (a*i-c*g) (b*i-c*h) (d*h-e*g) (d*i-f*g) (e*i-f*h) := rfl
theorem one3' (X : List (List Int)) (h : Sq 3 X) : mulZ (unitM 3) X = X := by
  obtain ⟨a, b, c, d, e, f, g, h', i, rfl⟩ := sq3 h
  rw [unit3]; exact one3 ..
theorem det3_mul {X Y : List (List Int)} (hX : Sq 3 X) (hY : Sq 3 Y) : det3 (mulZ X Y) = det3 X * det3 Y := by
  obtain ⟨a, b, c, d, e, f, g, h, i, rfl⟩ := sq3 hX
  obtain ⟨a', b', c', d', e', f', g', h', i', rfl⟩ := sq3 hY
  rw [mulZ3, det3_mk, det3_mk, det3_mk]
  grind
theorem com3_sq {X : List (List Int)} (hX : Sq 3 X) : Sq 3 (com3 X) := by
  obtain ⟨a, b, c, d, e, f, g, h, i, rfl⟩ := sq3 hX
  refine ⟨rfl, fun y hy => ?_⟩
  rw [com3_mk] at hy
  rcases List.mem_cons.mp hy with rfl | hy
  · rfl
  rcases List.mem_cons.mp hy with rfl | hy
  · rfl
  rcases List.mem_cons.mp hy with rfl | hy
  · rfl
  cases hy
theorem com3_mul {X Y : List (List Int)} (hX : Sq 3 X) (hY : Sq 3 Y) : com3 (mulZ X Y) = mulZ (com3 X) (com3 Y) := by
  obtain ⟨a, b, c, d, e, f, g, h, i, rfl⟩ := sq3 hX
  obtain ⟨a', b', c', d', e', f', g', h', i', rfl⟩ := sq3 hY
  rw [mulZ3, com3_mk, com3_mk, com3_mk, mulZ3]
  simp only [List.cons.injEq, and_true]
  refine ⟨⟨?_, ?_, ?_⟩, ⟨?_, ?_, ?_⟩, ?_, ?_, ?_⟩ <;> grind
/-- what is said of a matrix by its three numbers -/
structure Nums (M : List (List Int)) (k : Nat) (e1 e2 e3 : Int) : Prop where
  t0 : 0 < k → cpT M k 0 = e1
  t1 : 1 < k → cpT M k 1 = 2 * -e2
  t2 : 2 < k → cpT M k 2 = 3 * e3
theorem nums3 {M : List (List Int)} (h : Sq 3 M) : Nums M 3 (trS M 3) (trS (com3 M) 3) (det3 M) := by
  obtain ⟨a, b, c, d, e, f, g, q, i, rfl⟩ := sq3 h
  obtain ⟨h0, h1, h2⟩ := cp3 a b c d e f g q i
  refine ⟨fun _ => h0.trans ?_, fun _ => h1.trans ?_, fun _ => h2⟩
  · rw [trS3]; grind
  · rw [com3_mk, trS3]; grind
theorem trp3 {M : List (List Int)} (h : Sq 3 M) (j : Nat) (h1 : 1 ≤ j) (h6 : j ≤ 6) : trS (pw M 3 j) 3 = tq (trS M 3) (trS (com3 M) 3) (det3 M) j := by
  obtain ⟨p1, p2, p3, p4, p5, p6⟩ := pw_is one3' h
  obtain ⟨a, b, c, d, e, f, g, q, i, rfl⟩ := sq3 h
  have e1 : trS (mk3 a b c d e f g q i) 3 = tr3 a b c d e f g q i := by rw [trS3]; grind
  have e2 : trS (com3 (mk3 a b c d e f g q i)) 3 = mi3 a b c d e f g q i := by rw [com3_mk, trS3]; grind
  rw [e2]
  match j, h1, h6 with
  | 1, _, _ => rw [p1]; rfl
  | 2, _, _ => rw [p2, e1]; exact pw3_2 ..
  | 3, _, _ => rw [p3, e1]; exact pw3_3 ..
  | 4, _, _ => rw [p4, e1]; exact pw3_4 ..
  | 5, _, _ => rw [p5, e1]; exact pw3_5 ..
  | 6, _, _ => rw [p6, e1]; exact pw3_6 ..
theorem com3_pw {M : List (List Int)} (h : Sq 3 M) (j : Nat) (h1 : 1 ≤ j) (h6 : j ≤ 6) : com3 (pw M 3 j) = pw (com3 M) 3 j := by
  obtain ⟨p1, p2, p3, p4, p5, p6⟩ := pw_is one3' h
  obtain ⟨q1, q2, q3, q4, q5, q6⟩ := pw_is one3' (com3_sq h)
  have h2 := mulZ_sq h h
  have h4 := mulZ_sq h2 h2
  match j, h1, h6 with
  | 1, _, _ => rw [p1, q1]
  | 2, _, _ => rw [p2, q2, com3_mul h h]
  | 3, _, _ => rw [p3, q3, com3_mul h h2, com3_mul h h]
  | 4, _, _ => rw [p4, q4, com3_mul h2 h2, com3_mul h h]
  | 5, _, _ => rw [p5, q5, com3_mul h h4, com3_mul h2 h2, com3_mul h h]
  | 6, _, _ => rw [p6, q6, com3_mul h2 h4, com3_mul h2 h2, com3_mul h h]
theorem com3_nums {M : List (List Int)} (h : Sq 3 M) : trS (com3 (com3 M)) 3 = trS M 3 * det3 M ∧ det3 (com3 M) = det3 M * det3 M := by
  obtain ⟨a, b, c, d, e, f, g, q, i, rfl⟩ := sq3 h
  constructor
  · rw [com3_mk, com3_mk, trS3, trS3, det3_mk]; grind
  · rw [com3_mk, det3_mk, det3_mk]; grind
theorem pw_sq {M : List (List Int)} {k : Nat} (one : ∀ X, Sq k X → mulZ (unitM k) X = X) (h : Sq k M) (j : Nat) (h1 : 1 ≤ j) (h6 : j ≤ 6) : Sq k (pw M k j) := by
  obtain ⟨p1, p2, p3, p4, p5, p6⟩ := pw_is one h
  have h2 := mulZ_sq h h
  have h4 := mulZ_sq h2 h2
  match j, h1, h6 with
  | 1, _, _ => rw [p1]; exact h
  | 2, _, _ => rw [p2]; exact h2
  | 3, _, _ => rw [p3]; exact mulZ_sq h h2
  | 4, _, _ => rw [p4]; exact h4
  | 5, _, _ => rw [p5]; exact mulZ_sq h h4
  | 6, _, _ => rw [p6]; exact mulZ_sq h2 h4
theorem det3_pw {M : List (List Int)} (h : Sq 3 M) (p : Nat) (hp : p = 2 ∨ p = 3 ∨ p = 5) : det3 (pw M 3 p) = det3 M ^ p := by
  obtain ⟨p1, p2, p3, p4, p5, p6⟩ := pw_is one3' h
  have h2 := mulZ_sq h h
  have h4 := mulZ_sq h2 h2
  rcases hp with rfl | rfl | rfl
  · rw [p2, det3_mul h h]; grind
  · rw [p3, det3_mul h h2, det3_mul h h]; grind
  · rw [p5, det3_mul h h4, det3_mul h2 h2, det3_mul h h]; grind
/-- the power's numbers -/
theorem raised3 {M : List (List Int)} (h : Sq 3 M) (p : Nat) (hp : p = 2 ∨ p = 3 ∨ p = 5) :
    Nums (pw M 3 p) 3 (tq (trS M 3) (trS (com3 M) 3) (det3 M) p) (tq (trS (com3 M) 3) (trS M 3 * det3 M) (det3 M * det3 M) p) (det3 M ^ p) := by
  have h1 : 1 ≤ p := by omega
  have h6 : p ≤ 6 := by omega
  have := nums3 (pw_sq one3' h p h1 h6)
  rw [trp3 h p h1 h6, com3_pw h p h1 h6, trp3 (com3_sq h) p h1 h6, (com3_nums h).1, (com3_nums h).2, det3_pw h p hp] at this
  exact this

/-! ### two rows and one -/
noncomputable abbrev mk2 (a b c d : Int) : List (List Int) := [[a, b], [c, d]]
theorem sq2 {M : List (List Int)} (h : Sq 2 M) : ∃ a b c d, M = mk2 a b c d := by
  obtain ⟨x, y, rfl⟩ := list2 h.rows
  obtain ⟨a, b, rfl⟩ := list2 (h.cols x (.head _))
  obtain ⟨c, d, rfl⟩ := list2 (h.cols y (.tail _ (.head _)))
  exact ⟨a, b, c, d, rfl⟩
theorem sq1 {M : List (List Int)} (h : Sq 1 M) : ∃ a, M = [[a]] := by
  obtain ⟨x, rfl⟩ := list1 h.rows
  obtain ⟨a, rfl⟩ := list1 (h.cols x (.head _))
  exact ⟨a, rfl⟩
noncomputable def det2 (M : List (List Int)) : Int := at2 M 0 0 * at2 M 1 1 - at2 M 0 1 * at2 M 1 0
theorem det2_mk (a b c d : Int) : det2 (mk2 a b c d) = a * d - b * c := rfl
theorem mulZ2 (a b c d a' b' c' d' : Int) : mulZ (mk2 a b c d) (mk2 a' b' c' d') = mk2 (a*a'+(b*c'+0)) (a*b'+(b*d'+0)) (c*a'+(d*c'+0)) (c*b'+(d*d'+0)) := rfl
theorem mulR2 (a b c d a' b' c' d' : Int) : mulR (mk2 a b c d) (mk2 a' b' c' d') = mk2 (0+a*a'+b*c') (0+a*b'+b*d') (0+c*a'+d*c') (0+c*b'+d*d') := rfl
theorem unit2 : unitM 2 = mk2 1 0 0 1 := rfl
theorem trS2 (a b c d : Int) : trS (mk2 a b c d) 2 = a + (d + 0) := rfl
theorem trace2 (a b c d : Int) : traceZ (mk2 a b c d) 2 = 0 + a + d := rfl
theorem one2' (X : List (List Int)) (h : Sq 2 X) : mulZ (unitM 2) X = X := by
  obtain ⟨a, b, c, d, rfl⟩ := sq2 h
  rw [unit2, mulZ2]; simp
theorem one1' (X : List (List Int)) (h : Sq 1 X) : mulZ (unitM 1) X = X := by
  obtain ⟨a, rfl⟩ := sq1 h
  show [[1 * a + 0]] = _
  simp
theorem nums2 {M : List (List Int)} (h : Sq 2 M) : Nums M 2 (trS M 2) (det2 M) 0 := by
  obtain ⟨a, b, c, d, rfl⟩ := sq2 h
  have h0 : cpT (mk2 a b c d) 2 0 = a + d := by
    unfold cpT cpP
    rw [unit2, mulR2, trace2]
    grind
  have p1 : cpP (mk2 a b c d) 2 1 = mk2 (-d) b c (-a) := by
    show addR (mulR _ (cpP _ 2 0)) (scaleR (unitM 2) (-(cpT (mk2 a b c d) 2 0 / 1))) = _
    rw [h0, Int.ediv_one]
    show mk2 ((0+a*1+b*0) + 1 * -(a+d)) ((0+a*0+b*1) + 0 * -(a+d)) ((0+c*1+d*0) + 0 * -(a+d)) ((0+c*0+d*1) + 1 * -(a+d)) = _
    simp only [mk2, List.cons.injEq, and_true]
    refine ⟨⟨?_, ?_⟩, ?_, ?_⟩ <;> grind
  refine ⟨fun _ => h0.trans ?_, fun _ => ?_, fun h => absurd h (by decide)⟩
  · rw [trS2]; grind
  · unfold cpT
    rw [p1, mulR2, trace2, det2_mk]
    grind
theorem det2_mul {X Y : List (List Int)} (hX : Sq 2 X) (hY : Sq 2 Y) : det2 (mulZ X Y) = det2 X * det2 Y := by
  obtain ⟨a, b, c, d, rfl⟩ := sq2 hX
  obtain ⟨a', b', c', d', rfl⟩ := sq2 hY
  rw [mulZ2, det2_mk, det2_mk, det2_mk]
  grind
theorem det2_pw {M : List (List Int)} (h : Sq 2 M) (p : Nat) (hp : p = 2 ∨ p = 3 ∨ p = 5) : det2 (pw M 2 p) = det2 M ^ p := by
  obtain ⟨p1, p2, p3, p4, p5, p6⟩ := pw_is one2' h
  have h2 := mulZ_sq h h
  have h4 := mulZ_sq h2 h2
  rcases hp with rfl | rfl | rfl
  · rw [p2, det2_mul h h]; grind
  · rw [p3, det2_mul h h2, det2_mul h h]; grind
  · rw [p5, det2_mul h h4, det2_mul h2 h2, det2_mul h h]; grind
theorem trp2 {M : List (List Int)} (h : Sq 2 M) (j : Nat) (h1 : 1 ≤ j) (h6 : j ≤ 6) : trS (pw M 2 j) 2 = tq (trS M 2) (det2 M) 0 j := by
  obtain ⟨p1, p2, p3, p4, p5, p6⟩ := pw_is one2' h
  obtain ⟨a, b, c, d, rfl⟩ := sq2 h
  match j, h1, h6 with
  | 1, _, _ => rw [p1]; rfl
  | 2, _, _ => rw [p2]; simp only [mulZ2, trS2, det2_mk, tq]; grind
  | 3, _, _ => rw [p3]; simp only [mulZ2, trS2, det2_mk, tq]; grind
  | 4, _, _ => rw [p4]; simp only [mulZ2, trS2, det2_mk, tq]; grind
  | 5, _, _ => rw [p5]; simp only [mulZ2, trS2, det2_mk, tq]; grind
  | 6, _, _ => rw [p6]; simp only [mulZ2, trS2, det2_mk, tq]; grind
theorem raised2 {M : List (List Int)} (h : Sq 2 M) (p : Nat) (hp : p = 2 ∨ p = 3 ∨ p = 5) :
    Nums (pw M 2 p) 2 (tq (trS M 2) (det2 M) 0 p) (det2 M ^ p) 0 := by
  have h1 : 1 ≤ p := by omega
  have h6 : p ≤ 6 := by omega
  have := nums2 (pw_sq one2' h p h1 h6)
  rw [trp2 h p h1 h6, det2_pw h p hp] at this
  exact this
theorem nums1 {M : List (List Int)} (h : Sq 1 M) : Nums M 1 (trS M 1) 0 0 := by
  obtain ⟨a, rfl⟩ := sq1 h
  refine ⟨fun _ => ?_, fun h => absurd h (by decide), fun h => absurd h (by decide)⟩
  show (0 : Int) + (0 + a * 1) = a + 0
  grind
theorem trp1 {M : List (List Int)} (h : Sq 1 M) (j : Nat) (h1 : 1 ≤ j) (h6 : j ≤ 6) : trS (pw M 1 j) 1 = tq (trS M 1) 0 0 j := by
  obtain ⟨p1, p2, p3, p4, p5, p6⟩ := pw_is one1' h
  obtain ⟨a, rfl⟩ := sq1 h
  have m : ∀ x y : Int, mulZ [[x]] [[y]] = [[x * y + 0]] := fun _ _ => rfl
  have t : ∀ x : Int, trS [[x]] 1 = x + 0 := fun _ => rfl
  match j, h1, h6 with
  | 1, _, _ => rw [p1]; rfl
  | 2, _, _ => rw [p2]; simp only [m, t, tq]; grind
  | 3, _, _ => rw [p3]; simp only [m, t, tq]; grind
  | 4, _, _ => rw [p4]; simp only [m, t, tq]; grind
  | 5, _, _ => rw [p5]; simp only [m, t, tq]; grind
  | 6, _, _ => rw [p6]; simp only [m, t, tq]; grind
theorem raised1 {M : List (List Int)} (h : Sq 1 M) (p : Nat) (hp : p = 2 ∨ p = 3 ∨ p = 5) : Nums (pw M 1 p) 1 (tq (trS M 1) 0 0 p) 0 0 := by
  have h1 : 1 ≤ p := by omega
  have h6 : p ≤ 6 := by omega
  have := nums1 (pw_sq one1' h p h1 h6)
  rw [trp1 h p h1 h6] at this
  exact this

/-! ### the list that charpoly gives -/
noncomputable def toldL (k : Nat) (e1 e2 e3 : Int) : List Int := match k with
  | 1 => [-e1, 1]
  | 2 => [e2, -e1, 1]
  | _ => [-e3, e2, -e1, 1]
theorem Nums.told {M : List (List Int)} {k : Nat} {e1 e2 e3 : Int} (h : Nums M k e1 e2 e3) (h1 : 1 ≤ k) (h3 : k ≤ 3) :
    (∀ i, i < k → cpT M k i % ((i + 1 : Nat) : Int) = 0) ∧ (cpL M k k).reverse = toldL k e1 e2 e3 := by
  obtain ⟨t0, t1, t2⟩ := h
  have c0 : 0 < k → cpC M k 0 = -e1 := fun q => by unfold cpC; rw [t0 q]; simp
  have c1 : 1 < k → cpC M k 1 = e2 := fun q => by
    unfold cpC; rw [t1 q]
    show -((2 * -e2) / 2) = e2
    rw [Int.mul_ediv_cancel_left _ (by decide)]; omega
  have c2 : 2 < k → cpC M k 2 = -e3 := fun q => by
    unfold cpC; rw [t2 q]
    show -((3 * e3) / 3) = -e3
    rw [Int.mul_ediv_cancel_left _ (by decide)]
  refine ⟨fun i hi => ?_, ?_⟩
  · match i, hi with
    | 0, hi => show _ % (1 : Int) = 0; omega
    | 1, hi => rw [t1 hi]; show _ % (2 : Int) = 0; omega
    | 2, hi => rw [t2 hi]; show _ % (3 : Int) = 0; omega
    | i + 3, hi => omega
  · match k, h1, h3, c0, c1, c2 with
    | 1, _, _, c0, c1, c2 => show [cpC M 1 0, 1] = [-e1, 1]; rw [c0 (by decide)]
    | 2, _, _, c0, c1, c2 => show [cpC M 2 1, cpC M 2 0, 1] = [e2, -e1, 1]; rw [c0 (by decide), c1 (by decide)]
    | 3, _, _, c0, c1, c2 => show [cpC M 3 2, cpC M 3 1, cpC M 3 0, 1] = [-e3, e2, -e1, 1]; rw [c0 (by decide), c1 (by decide), c2 (by decide)]

/-! ### residues -/
theorem tq_mod (n e1 e2 e3 : Int) : ∀ j, tq (e1 % n) (e2 % n) (e3 % n) j % n = tq e1 e2 e3 j % n
  | 0 => rfl
  | 1 => by simp only [tq]; exact Int.emod_emod_of_dvd _ (Int.dvd_refl _)
  | 2 => by simp only [tq]; rw [Int.sub_emod, Int.mul_emod, Int.mul_emod 2]; simp only [Int.emod_emod_of_dvd _ (Int.dvd_refl n)]; rw [← Int.mul_emod, ← Int.mul_emod, ← Int.sub_emod]
  | j + 3 => by
    have a := tq_mod n e1 e2 e3 (j + 2)
    have b := tq_mod n e1 e2 e3 (j + 1)
    have c := tq_mod n e1 e2 e3 j
    simp only [tq]
    rw [Int.add_emod, Int.sub_emod, Int.mul_emod (e1 % n), Int.mul_emod (e2 % n), Int.mul_emod (e3 % n), a, b, c]
    simp only [Int.emod_emod_of_dvd _ (Int.dvd_refl n)]
    rw [← Int.mul_emod, ← Int.mul_emod, ← Int.mul_emod, ← Int.sub_emod, ← Int.add_emod]
noncomputable def mob : Nat → Int
  | 1 => 1 | 2 => -1 | 3 => -1 | 4 => 0 | 5 => -1 | 6 => 1 | _ => 0
noncomputable def divs : Nat → List Nat
  | 1 => [1] | 2 => [1, 2] | 3 => [1, 3] | 4 => [1, 2, 4] | 5 => [1, 5] | 6 => [1, 2, 3, 6] | _ => []
noncomputable def gs (e1 e2 e3 : Int) (m : Nat → Int) (l : List Nat) : Int := (l.map fun d => m d * tq e1 e2 e3 d).sum
theorem gs_mod (n e1 e2 e3 : Int) (m : Nat → Int) : ∀ l, gs (e1 % n) (e2 % n) (e3 % n) m l % n = gs e1 e2 e3 m l % n
  | [] => rfl
  | d :: l => by
    have ih := gs_mod n e1 e2 e3 m l
    unfold gs at ih ⊢
    rw [List.map_cons, List.map_cons, List.sum_cons, List.sum_cons, Int.add_emod, ih, Int.mul_emod, tq_mod, ← Int.mul_emod, ← Int.add_emod]
theorem fin_of {n : Nat} (hn : 0 < n) (e : Int) : ∃ r : Fin n, e % (n : Int) = (r.val : Int) :=
  ⟨⟨(e % (n : Int)).toNat, by have := Int.emod_lt_of_pos e (b := (n : Int)) (by omega); have := Int.emod_nonneg e (b := (n : Int)) (by omega); omega⟩, by have := Int.emod_nonneg e (b := (n : Int)) (by omega); show _ = (((e % (n : Int)).toNat : Nat) : Int); omega⟩
theorem gs_all {n : Nat} (hn : 0 < n) (m : Nat → Int) (l : List Nat) (h : ∀ r1 r2 r3 : Fin n, gs r1.val r2.val r3.val m l % (n : Int) = 0) (e1 e2 e3 : Int) : gs e1 e2 e3 m l % (n : Int) = 0 := by
  rw [← gs_mod]
  obtain ⟨r1, q1⟩ := fin_of hn e1
  obtain ⟨r2, q2⟩ := fin_of hn e2
  obtain ⟨r3, q3⟩ := fin_of hn e3
  rw [q1, q2, q3]
  exact h r1 r2 r3
theorem gauss {n : Nat} (h1 : 1 ≤ n) (h6 : n ≤ 6) (e1 e2 e3 : Int) : ((divs n).map fun d => mob (n / d) * tq e1 e2 e3 d).sum % (n : Int) = 0 := by
  match n, h1, h6 with
  | 1, _, _ => exact gs_all (by decide) (fun d => mob (1 / d)) (divs 1) (by decide +kernel) e1 e2 e3
  | 2, _, _ => exact gs_all (by decide) (fun d => mob (2 / d)) (divs 2) (by decide +kernel) e1 e2 e3
  | 3, _, _ => exact gs_all (by decide) (fun d => mob (3 / d)) (divs 3) (by decide +kernel) e1 e2 e3
  | 4, _, _ => exact gs_all (by decide) (fun d => mob (4 / d)) (divs 4) (by decide +kernel) e1 e2 e3
  | 5, _, _ => exact gs_all (by decide) (fun d => mob (5 / d)) (divs 5) (by decide +kernel) e1 e2 e3
  | 6, _, _ => exact gs_all (by decide) (fun d => mob (6 / d)) (divs 6) (by decide +kernel) e1 e2 e3
theorem tq_p (p : Nat) (hp : p = 2 ∨ p = 3 ∨ p = 5) (e1 e2 e3 : Int) : (tq e1 e2 e3 p - e1) % (p : Int) = 0 := by
  have h : gs e1 e2 e3 (fun d => if d = 1 then -1 else 1) [p, 1] % (p : Int) = 0 := by
    rcases hp with rfl | rfl | rfl
    · exact gs_all (by decide) _ _ (by decide +kernel) e1 e2 e3
    · exact gs_all (by decide) _ _ (by decide +kernel) e1 e2 e3
    · exact gs_all (by decide) _ _ (by decide +kernel) e1 e2 e3
  have e : gs e1 e2 e3 (fun d => if d = 1 then -1 else 1) [p, 1] = tq e1 e2 e3 p - e1 := by
    unfold gs
    simp only [List.map_cons, List.map_nil, List.sum_cons, List.sum_nil, tq, if_true]
    rw [if_neg (by omega)]
    grind
  rw [e] at h; exact h
theorem tq_pow (e : Int) (p : Nat) (hp : p = 2 ∨ p = 3 ∨ p = 5) : tq e 0 0 p = e ^ p := by
  rcases hp with rfl | rfl | rfl <;> simp only [tq] <;> grind
theorem fermat (p : Nat) (hp : p = 2 ∨ p = 3 ∨ p = 5) (e : Int) : (e ^ p - e) % (p : Int) = 0 := by
  rw [← tq_pow e p hp]; exact tq_p p hp e 0 0

/-- all that the law asks -/
structure Plain (M : List (List Int)) (k : Nat) (e1 e2 e3 : Int) : Prop where
  dv : ∀ i, i < k → cpT M k i % ((i + 1 : Nat) : Int) = 0
  told : (cpL M k k).reverse = toldL k e1 e2 e3
  z3 : k ≤ 2 → e3 = 0
  z2 : k ≤ 1 → e2 = 0
  tr : ∀ j, 1 ≤ j → j ≤ 6 → trS (pw M k j) k = tq e1 e2 e3 j
  up : ∀ p, p = 2 ∨ p = 3 ∨ p = 5 → Sq k (pw M k p) ∧ ∃ f1 f2 f3, (∀ i, i < k → cpT (pw M k p) k i % ((i + 1 : Nat) : Int) = 0) ∧ (cpL (pw M k p) k k).reverse = toldL k f1 f2 f3 ∧
    (f1 - e1) % (p : Int) = 0 ∧ (f2 - e2) % (p : Int) = 0 ∧ (f3 - e3) % (p : Int) = 0
theorem plain {M : List (List Int)} {k : Nat} (h1 : 1 ≤ k) (h3 : k ≤ 3) (h : Sq k M) : ∃ e1 e2 e3, Plain M k e1 e2 e3 := by
  match k, h1, h3, h with
  | 1, _, _, h =>
    obtain ⟨a, b⟩ := (nums1 h).told (by decide) (by decide)
    refine ⟨_, 0, 0, a, b, fun _ => rfl, fun _ => rfl, trp1 h, fun p hp => ?_⟩
    obtain ⟨c, d⟩ := (raised1 h p hp).told (by decide) (by decide)
    exact ⟨pw_sq one1' h p (by omega) (by omega), _, 0, 0, c, d, tq_p p hp _ _ _, by simp, by simp⟩
  | 2, _, _, h =>
    obtain ⟨a, b⟩ := (nums2 h).told (by decide) (by decide)
    refine ⟨_, _, 0, a, b, fun _ => rfl, fun h => absurd h (by decide), trp2 h, fun p hp => ?_⟩
    obtain ⟨c, d⟩ := (raised2 h p hp).told (by decide) (by decide)
    exact ⟨pw_sq one2' h p (by omega) (by omega), _, _, 0, c, d, tq_p p hp _ _ _, fermat p hp _, by simp⟩
  | 3, _, _, h =>
    obtain ⟨a, b⟩ := (nums3 h).told (by decide) (by decide)
    refine ⟨_, _, _, a, b, fun h => absurd h (by decide), fun h => absurd h (by decide), trp3 h, fun p hp => ?_⟩
    obtain ⟨c, d⟩ := (raised3 h p hp).told (by decide) (by decide)
    exact ⟨pw_sq one3' h p (by omega) (by omega), _, _, _, c, d, tq_p p hp _ _ _, tq_p p hp _ _ _, fermat p hp _⟩

/-! ### Newton -/
/-- the sum that the law builds, turn by turn -/
noncomputable def newtZ (told tr : List Int) (size kk : Nat) : Nat → Int
  | 0 => tr.getD (kk - 1) 0
  | b + 1 => newtZ told tr size kk b + told.getD (size - (b + 1)) 0 * tr.getD (kk - (b + 1) - 1) 0
noncomputable def trL (e1 e2 e3 : Int) : List Int := [tq e1 e2 e3 1, tq e1 e2 e3 2, tq e1 e2 e3 3, tq e1 e2 e3 4, tq e1 e2 e3 5, tq e1 e2 e3 6]
theorem newton {k : Nat} (h1 : 1 ≤ k) (h3 : k ≤ 3) (e1 e2 e3 : Int) (z3 : k ≤ 2 → e3 = 0) (z2 : k ≤ 1 → e2 = 0) (kk : Nat) (g1 : 1 ≤ kk) (g6 : kk ≤ 6) :
    newtZ (toldL k e1 e2 e3) (trL e1 e2 e3) k kk (min k (kk - 1)) + (if kk ≤ k then (kk : Int) * (toldL k e1 e2 e3).getD (k - kk) 0 else 0) = 0 := by
  match k, h1, h3, z3, z2 with
  | 1, _, _, z3, z2 =>
    rw [z3 (by decide), z2 (by decide)]
    match kk, g1, g6 with
    | 1, _, _ => show tq e1 0 0 1 + 1 * (-e1) = 0; simp only [tq]; grind
    | 2, _, _ => show tq e1 0 0 2 + -e1 * tq e1 0 0 1 + 0 = 0; simp only [tq]; grind
    | 3, _, _ => show tq e1 0 0 3 + -e1 * tq e1 0 0 2 + 0 = 0; simp only [tq]; grind
    | 4, _, _ => show tq e1 0 0 4 + -e1 * tq e1 0 0 3 + 0 = 0; simp only [tq]; grind
    | 5, _, _ => show tq e1 0 0 5 + -e1 * tq e1 0 0 4 + 0 = 0; simp only [tq]; grind
    | 6, _, _ => show tq e1 0 0 6 + -e1 * tq e1 0 0 5 + 0 = 0; simp only [tq]; grind
  | 2, _, _, z3, z2 =>
    rw [z3 (by decide)]
    match kk, g1, g6 with
    | 1, _, _ => show tq e1 e2 0 1 + 1 * (-e1) = 0; simp only [tq]; grind
    | 2, _, _ => show tq e1 e2 0 2 + -e1 * tq e1 e2 0 1 + 2 * e2 = 0; simp only [tq]; grind
    | 3, _, _ => show tq e1 e2 0 3 + -e1 * tq e1 e2 0 2 + e2 * tq e1 e2 0 1 + 0 = 0; simp only [tq]; grind
    | 4, _, _ => show tq e1 e2 0 4 + -e1 * tq e1 e2 0 3 + e2 * tq e1 e2 0 2 + 0 = 0; simp only [tq]; grind
    | 5, _, _ => show tq e1 e2 0 5 + -e1 * tq e1 e2 0 4 + e2 * tq e1 e2 0 3 + 0 = 0; simp only [tq]; grind
    | 6, _, _ => show tq e1 e2 0 6 + -e1 * tq e1 e2 0 5 + e2 * tq e1 e2 0 4 + 0 = 0; simp only [tq]; grind
  | 3, _, _, z3, z2 =>
    match kk, g1, g6 with
    | 1, _, _ => show tq e1 e2 e3 1 + 1 * (-e1) = 0; simp only [tq]; grind
    | 2, _, _ => show tq e1 e2 e3 2 + -e1 * tq e1 e2 e3 1 + 2 * e2 = 0; simp only [tq]; grind
    | 3, _, _ => show tq e1 e2 e3 3 + -e1 * tq e1 e2 e3 2 + e2 * tq e1 e2 e3 1 + 3 * -e3 = 0; simp only [tq]; grind
    | 4, _, _ => show tq e1 e2 e3 4 + -e1 * tq e1 e2 e3 3 + e2 * tq e1 e2 e3 2 + -e3 * tq e1 e2 e3 1 + 0 = 0; simp only [tq]; grind
    | 5, _, _ => show tq e1 e2 e3 5 + -e1 * tq e1 e2 e3 4 + e2 * tq e1 e2 e3 3 + -e3 * tq e1 e2 e3 2 + 0 = 0; simp only [tq]; grind
    | 6, _, _ => show tq e1 e2 e3 6 + -e1 * tq e1 e2 e3 5 + e2 * tq e1 e2 e3 4 + -e3 * tq e1 e2 e3 3 + 0 = 0; simp only [tq]; grind


section
variable {prog : Program} {w : World} {A : Around} {env : Env} {I : Heap → Heap → Prop}
theorem n_min : nsIn (hd.heap_39 w.params) mainGlobals (Str.ofString "min") = some none := by k_is
theorem cv_min {a b : Int} (hh : A.handled = none) (vs : List Value) : Cv (model prog w) A (.builtin "min") vs (AllV [IntV a, IntV b] vs) (IntV (if b < a then b else a)) := by
  intro E s g i k
  obtain ⟨v, u, rfl, ⟨t, e⟩, t', e'⟩ := allV2 i
  · subst e; subst e'
    refine min_two_ints hh fun h' tk kk => .same ?_ k (keeps_of kk)
    split
    · exact ⟨_, rfl⟩
    · exact ⟨_, rfl⟩
theorem ev_bool {c : Bool} {kd : Nat} {pos : Pos} : Ev (model prog w) A env (.Constant (.bool c) kd pos) I (BoolV c) :=
  fun _ s _ _ k => wpAny_Constant_bool (.same rfl k (keeps_refl s))
theorem ev_le {l r : Expr} {pos : Pos} {a b : Int} (hI : Mono2 I) (hl : Ev (model prog w) A env l I (IntV a)) (hr : Ev (model prog w) A env r I (IntV b)) (hm : behindInMarks .LtE r = false := by with_unfolding_all rfl) : Tv (model prog w) A env (.Compare l [.LtE] [r] pos) I (decide (a ≤ b)) :=
  tv_cmp hI (fun E Q s t u h => PyProof.Rows.le_int h) hl hr hm
theorem getD_some {l : List Int} {i : Nat} (h : i < l.length) : l[i]? = some (l.getD i 0) := by rw [List.getD_eq_getElem?_getD, List.getElem?_eq_getElem h]; rfl
theorem getD_mem {l : List Int} {i : Nat} (h : i < l.length) : l.getD i 0 ∈ l := List.mem_of_getElem? (getD_some h)
/-- an item at a computed place -/
theorem ev_at {value slice : Expr} {pos : Pos} {xs : List Int} {k : Int} {j : Nat} (hI : Mono2 I) (hkj : k = (j : Int)) (hj : j < xs.length) (hl : xs.length < 1000)
    (hs : ∀ o i, subscripted slice false (.ref o) (.int k i) = operate [.ref o, .int k i] (getItem (.ref o) (.int k i)))
    (hv : Ev (model prog w) A env value I (IntRow xs)) (hi : Ev (model prog w) A env slice I (IntV k)) : Ev (model prog w) A env (.Subscript value slice pos) I (IntV (xs.getD j 0)) :=
  ev_subscript (R := IntV) (k := k) (fun _ => IntV.mono) hI (by omega) (by omega) (by rw [show k.toNat = j by omega]; exact getD_some hj) hs hv hi

theorem newton_right_v {k n : Nat} {T R : List Int} (r : Room A 1) (hk : k < 900) (hT : T.length = k + 1) (hR : R.length = n) (hn : n < 900) (hm : ∀ x, ∀ z ∈ R, IntMulOk x z)
    (hN : ∀ kk, 1 ≤ kk → kk ≤ n → newtZ T R k kk (min k (kk - 1)) + (if kk ≤ k then (kk : Int) * T.getD (k - kk) 0 else 0) = 0) (u v x : Value) :
    Cv (model prog w) A (.ref 198) [u, v, x] (fun g => Bs w g ∧ IntRow T u g ∧ IntRow R v g ∧ IntV k x g) (BoolV true) := by
  refine cv_def (n := 0) (binds := [(Str.ofString "told", u), (Str.ofString "traces", v), (Str.ofString "size", x)]) r (fun g i => i.1) (by k_is) (by k_is) rfl rfl (by decide) rfl rfl rfl ?_
  intro L g env he ap i
  subst he
  obtain ⟨B, hu, hv, hx⟩ := i
  refine bx_cons (sx_for (n := n) (Qn := fun val g => True)
    (fun i val g => val (Str.ofString "told") = some u ∧ val (Str.ofString "traces") = some v ∧ val (Str.ofString "size") = some x)
    rfl ap (fun _ => rfl) (source_range (a := 1) (b := (n : Int) + 1) (n := n) r.hh Cx.mono (by decide) (by decide) (by omega) (by omega) (by split <;> omega)
      (ev_range2 Cx.mono (fun h g' c => B.mono c.2) ev_int (ev_add Cx.mono (by rw [← hR]; exact ev_len (fun _ => IntV.mono) Cx.mono (fun h g' c => B.mono c.2) (by omega) (ev_var v rfl IntRow.mono hv)) ev_int))) ?_ ?_ ?_ ?_ ?_) ?_
  · rintro i val g g' kk q
    exact q
  · rintro i bs g ⟨t, _, rfl⟩ z hz
    rw [List.mem_singleton.mp hz]; exact .inl rfl
  · intro g' kk
    exact ⟨rfl, rfl, rfl⟩
  · rintro i val' g₁ bs hi kg ⟨eu, ev, ex⟩ ⟨t, _, rfl⟩
    have B₁ := B.mono kg
    have hu₁ := IntRow.mono _ _ _ kg hu
    have hv₁ := IntRow.mono _ _ _ kg hv
    refine bx_cons (sx_assign (P := IntV (newtZ T R k (i + 1) 0)) rfl ap (.inl rfl) (ev_at (k := 1 + (i : Int) - 1) (j := i) Cx.mono (by omega) (by omega) (by omega) (fun _ _ => by with_unfolding_all rfl) (ev_var v ev IntRow.mono hv₁) (ev_sub Cx.mono (ev_var (.int (1 + (i : Int)) t) rfl IntV.mono ⟨t, rfl⟩) ev_int)) rfl) ?_
    rintro val₂ g₂ k₂ ⟨c₂, rfl, hc₂⟩
    have B₂ := B₁.mono k₂
    have hu₂ := IntRow.mono _ _ _ k₂ hu₁
    have hv₂ := IntRow.mono _ _ _ k₂ hv₁
    refine bx_cons (sx_for (n := min k i) (Qn := fun val g => ∃ c, val (Str.ofString "told") = some u ∧ val (Str.ofString "traces") = some v ∧ val (Str.ofString "size") = some x ∧ val (Str.ofString "k") = some (.int (1 + (i : Int)) t) ∧ val (Str.ofString "total") = some c ∧ IntV (newtZ T R k (i + 1) (min k i)) c g)
      (fun b val g => ∃ c, val (Str.ofString "told") = some u ∧ val (Str.ofString "traces") = some v ∧ val (Str.ofString "size") = some x ∧ val (Str.ofString "k") = some (.int (1 + (i : Int)) t) ∧ val (Str.ofString "total") = some c ∧ IntV (newtZ T R k (i + 1) b) c g)
      rfl ap (fun _ => rfl) (source_range (a := 1) (b := (if 1 + (i : Int) - 1 < (k : Int) then 1 + (i : Int) - 1 else k) + 1) (n := min k i) r.hh Cx.mono (by decide) (by decide) (by split <;> omega) (by split <;> omega) (by split <;> split <;> omega)
        (ev_range2 Cx.mono (fun h g' c => B₂.mono c.2) ev_int (ev_add Cx.mono (ev_callBG (Ps := [IntV k, IntV (1 + (i : Int) - 1)]) Cx.mono (fun h g' c => B₂.mono c.2) n_min boot_min
          (evs_cons Cx.mono IntV.mono (ev_var x ex IntV.mono hx) (evs_cons Cx.mono IntV.mono (ev_sub Cx.mono (ev_var (.int (1 + (i : Int)) t) rfl IntV.mono ⟨t, rfl⟩) ev_int) evs_nil)) (cv_min r.hh)) ev_int))) ?_ ?_ ?_ ?_ ?_) ?_
    · rintro b val g g' kk q
      exact q
    · rintro b bs g ⟨t, _, rfl⟩ z hz
      rw [List.mem_singleton.mp hz]; exact .inl rfl
    · intro g' kk
      exact ⟨c₂, eu, ev, ex, rfl, rfl, hc₂⟩
    · rintro b val₃ g₃ bs hb kg₃ ⟨c, eu, ev, ex, ek, et, hc⟩ ⟨t', _, rfl⟩
      have hb1 : b < k := by omega
      have hb2 : b < i := by omega
      clear hb
      have hu₃ := IntRow.mono _ _ _ kg₃ hu₂
      have hv₃ := IntRow.mono _ _ _ kg₃ hv₂
      refine bx_cons (sx_assign (P := IntV (newtZ T R k (i + 1) (b + 1))) rfl ap (.inl rfl) (ev_add Cx.mono (ev_var c et IntV.mono hc) (ev_mul Cx.mono (hm _ _ (getD_mem (by omega)))
        (ev_at (k := (k : Int) - (1 + (b : Int))) (j := k - (b + 1)) Cx.mono (by omega) (by omega) (by omega) (fun _ _ => by with_unfolding_all rfl) (ev_var u eu IntRow.mono hu₃) (ev_sub Cx.mono (ev_var x ex IntV.mono hx) (ev_var (.int (1 + (b : Int)) t') rfl IntV.mono ⟨t', rfl⟩)))
        (ev_at (k := 1 + (i : Int) - (1 + (b : Int)) - 1) (j := i + 1 - (b + 1) - 1) Cx.mono (by omega) (by omega) (by omega) (fun _ _ => by with_unfolding_all rfl) (ev_var v ev IntRow.mono hv₃) (ev_sub Cx.mono (ev_sub Cx.mono (ev_var (.int (1 + (i : Int)) t) ek IntV.mono ⟨t, rfl⟩) (ev_var (.int (1 + (b : Int)) t') rfl IntV.mono ⟨t', rfl⟩)) ev_int)))) rfl) ?_
      rintro val₄ g₄ k₄ ⟨c₄, rfl, hc₄⟩
      exact bx_nil ⟨c₄, eu, ev, ex, ek, rfl, hc₄⟩
    · rintro val₃ g₃ kg₃ q
      exact q
    rintro val₃ g₃ k₃ ⟨c, eu, ev, ex, ek, et, hc⟩
    have hu₃ := IntRow.mono _ _ _ k₃ hu₂
    refine bx_cons (sx_if_no (b := newtZ T R k (i + 1) (min k i) + (if i + 1 ≤ k then ((i + 1 : Nat) : Int) * T.getD (k - (i + 1)) 0 else 0) != 0) (ev_ne Cx.mono (ev_add Cx.mono (ev_var c et IntV.mono hc) (ev_ifexp (b := decide (1 + (i : Int) ≤ (k : Int))) Cx.mono (ev_le Cx.mono (ev_var (.int (1 + (i : Int)) t) ek IntV.mono ⟨t, rfl⟩) (ev_var x ex IntV.mono hx)) (fun e => ?_) (fun e => ?_))) ev_int) ?_) ?_
    · have hik : i + 1 ≤ k := by have := of_decide_eq_true e; omega
      rw [if_pos hik, show ((i + 1 : Nat) : Int) = 1 + (i : Int) by omega]
      exact ev_mul Cx.mono (.of_left (intBits_le_64 (by omega) (by omega))) (ev_var (.int (1 + (i : Int)) t) ek IntV.mono ⟨t, rfl⟩)
        (ev_at (k := (k : Int) - (1 + (i : Int))) (j := k - (i + 1)) Cx.mono (by omega) (by omega) (by omega) (fun _ _ => by with_unfolding_all rfl) (ev_var u eu IntRow.mono hu₃) (ev_sub Cx.mono (ev_var x ex IntV.mono hx) (ev_var (.int (1 + (i : Int)) t) ek IntV.mono ⟨t, rfl⟩)))
    · have hik : ¬ i + 1 ≤ k := by have := of_decide_eq_false e; omega
      rw [if_neg hik]
      exact ev_int
    · have := hN (i + 1) (by omega) (by omega)
      rw [show i + 1 - 1 = i by omega] at this
      rw [this]; rfl
    rintro val₄ g₄ k₄ rfl
    exact bx_nil ⟨eu, ev, ex⟩
  · rintro val' g' kg q
    trivial
  rintro val' g' kg _
  exact bx_ret ev_bool
end


section
variable {prog : Program} {w : World} {A : Around} {env : Env} {I : Heap → Heap → Prop} {z : XZ}
/-- a plain comprehension whose items are known only by a property -/
theorem gen_comp_ex {α : Type} {G : α → Prop} {R : α → Value → Heap → Prop} (mR : ∀ x, MonoV (R x)) {elt iter target : Expr} {scope : Scope} {pos : Pos} {cl : List (Str × Addr)} {n : Nat} {Pn : Nat → List (Str × Value) → Heap → Prop}
    (hI : MonoX z I) (hsz : n ≤ sizeLine) (hclos : closureFor scope env = pure cl) (hkind : scope.kind = .function)
    (hnames : ∀ y ∈ scope.names, y.2 = .local → scope.names.lookup y.1 = some .local) (hs : ∀ x, foldedSetIterable iter env x = pure x)
    (hsrc : Source prog w A env iter target I n Pn)
    (hown : ∀ C i bs g, Pn i bs g → ∀ x ∈ bs, Own (ccEnv scope cl C env) (ccOwn scope C) x.1)
    (helt : ∀ C i bs val, i < n → (∀ b ∈ z.X, b ∉ ownA (ccEnv scope cl C env) (ccOwn scope C)) → EvX (model prog w) A z (ccEnv scope cl C env) elt (Ct scope cl C env I (Pn i bs) (updAll val bs)) (fun v h => ∃ x, G x ∧ R x v h)) :
    GenComp (model prog w) A z env elt [⟨target, iter, [], 0⟩] scope pos I (fun its h => ∃ xs : List α, xs.length = n ∧ (∀ x ∈ xs, G x) ∧ LD R xs its h) := by
  have base := gen_compG (A := A) (prog := prog) (w := w) (pos := pos) (elt := elt) (ifs := []) (rest := []) (env := env) (z := z) (I := I)
    (fun D env E Q s => wpAny (model prog w) A (eval elt env) (fun x s₄ => wpAny (model prog w) A (call (.builtin "list.append") [.ref D, x]) (fun _ s₅ => Q s₅) E s₄) E s)
    emit_code
    hI hclos hkind hnames hs hsrc hown (fun i val ys g => ∃ xs : List α, xs.length = i ∧ (∀ x ∈ xs, G x) ∧ LD R xs ys g)
    (fun i v ys g g' k ⟨xs, a, b, c⟩ => ⟨xs, a, b, c.mono mR k⟩) (fun g => ⟨[], rfl, (fun _ h => nomatch h), rfl, (fun i x e => nomatch e)⟩)
    (fun C D i val g ys bs s ap nD xn hi ⟨xs, hl, hG, hL⟩ hp hIs F E Q hQ => by
      refine fmc_evx F nD xn (helt C i bs val hi (fun b hb => (xn b hb).2)) ⟨hIs _ _ (fun b o _ e => e) (stays_refl _), ⟨g, stays_refl _, hp⟩, F.lc⟩ fun v g₁ s₁ hv F₁ S₁ => ?_
      obtain ⟨x, hx, hv⟩ := hv
      refine fmc_append F₁ nD xn (by rw [hL.1, hl]; omega) fun s₂ F₂ S₂ => hQ _ _ _ _ F₂ (S₁.trans S₂) ⟨xs ++ [x], by rw [List.length_append, hl]; rfl, fun y hy => ?_, (hL.mono mR S₁.gr.up).push hv⟩
      rcases List.mem_append.mp hy with hy | hy
      · exact hG y hy
      · rw [List.mem_singleton.mp hy]; exact hx)
  exact base.imp fun ys g ⟨_, q⟩ => q
theorem evx_comp_ex {α : Type} {G : α → Prop} {R : α → Value → Heap → Prop} (mR : ∀ x, MonoV (R x)) {elt iter target : Expr} {scope : Scope} {pos : Pos} {cl : List (Str × Addr)} {n : Nat} {Pn : Nat → List (Str × Value) → Heap → Prop}
    (hI : MonoX z I) (hsz : n ≤ sizeLine) (hclos : closureFor scope env = pure cl) (hkind : scope.kind = .function)
    (hnames : ∀ y ∈ scope.names, y.2 = .local → scope.names.lookup y.1 = some .local) (hs : ∀ x, foldedSetIterable iter env x = pure x)
    (hsrc : Source prog w A env iter target I n Pn)
    (hown : ∀ C i bs g, Pn i bs g → ∀ x ∈ bs, Own (ccEnv scope cl C env) (ccOwn scope C) x.1)
    (helt : ∀ C i bs val, i < n → (∀ b ∈ z.X, b ∉ ownA (ccEnv scope cl C env) (ccOwn scope C)) → EvX (model prog w) A z (ccEnv scope cl C env) elt (Ct scope cl C env I (Pn i bs) (updAll val bs)) (fun v h => ∃ x, G x ∧ R x v h)) :
    EvX (model prog w) A z env (.ListComp elt [⟨target, iter, [], 0⟩] scope pos) I (fun v h => ∃ xs : List α, xs.length = n ∧ (∀ x ∈ xs, G x) ∧ LstV R xs v h) := by
  refine fun E s g i k hz hx => wpAny_mono ((gen_comp_ex mR hI hsz hclos hkind hnames hs hsrc hown helt).evx (fun ys g g' k ⟨xs, a, b, c⟩ => ⟨xs, a, b, c.mono mR k⟩) E s g i k hz hx) (fun v s' q => ?_) fun _ _ e => e
  obtain ⟨g', ⟨a, its, e, hl, xs, h1, h2, h3⟩, r⟩ := q
  exact ⟨g', ⟨xs, h1, h2, a, its, e, hl, h3.1, h3.2⟩, r⟩

/-- a comprehension whose test never holds -/
theorem ev_comp_none {elt iter target c : Expr} {scope : Scope} {pos : Pos} {cl : List (Str × Addr)} {n : Nat} {Pn : Nat → List (Str × Value) → Heap → Prop}
    (hI : Mono2 I) (hclos : closureFor scope env = pure cl) (hkind : scope.kind = .function)
    (hnames : ∀ y ∈ scope.names, y.2 = .local → scope.names.lookup y.1 = some .local) (hs : ∀ x, foldedSetIterable iter env x = pure x)
    (hsrc : Source prog w A env iter target I n Pn)
    (hown : ∀ C i bs g, Pn i bs g → ∀ x ∈ bs, Own (ccEnv scope cl C env) (ccOwn scope C) x.1)
    (htest : ∀ C i bs val, i < n → Tv (model prog w) A (ccEnv scope cl C env) c (Ct scope cl C env I (Pn i bs) (updAll val bs)) false) :
    Ev (model prog w) A env (.ListComp elt [⟨target, iter, [c], 0⟩] scope pos) I (fun v h => ∃ a, v = .ref a ∧ h.IsList a #[]) := by
  have base := gen_compG (A := A) (prog := prog) (w := w) (pos := pos) (elt := elt) (ifs := [c]) (rest := []) (env := env) (z := z0) (I := I)
    (fun D env E Q s => wpAny (model prog w) A (PySem.isTrue c env (eval c env)) (fun b s₅ => b = false ∧ Q s₅) E s)
    (fun D it env s E Rr h => by
      rw [compTurn_list]
      refine wpAny_bind (wpAny_standAt (wpAny_bind (wpAny_mono h (fun r s₁ h₁ => ?_) fun _ _ e => e)))
      match r, h₁ with
      | none, h₁ => exact wpAny_pure h₁
      | some v, h₁ =>
        refine wpAny_bind (wpAny_mono h₁ (fun _ s₁' h₁' => wpAny_bind (wpAny_mono h₁' (fun _ s₂ h₂ => ?_) fun _ _ e => e)) fun _ _ e => e)
        refine wpAny_bind (wpAny_tests_one (wpAny_mono h₂ (fun b s₃ q => ?_) fun _ _ e => e))
        obtain ⟨rfl, q⟩ := q
        exact wpAny_bind (wpAny_pure (wpAny_pure q)))
    (mono0 hI) hclos hkind hnames hs hsrc hown (fun i val ys g => ys = #[]) (fun i v ys g g' k e => e) (fun g => rfl)
    (fun C D i val g ys bs s ap nD xn hi hJ hp hIs F E Q hQ => by
      refine wpAny_mono (htest C i bs val hi E s g ⟨hIs _ _ (fun b o _ e => e) (stays_refl _), ⟨g, stays_refl _, hp⟩, F.lc⟩ F.st) (fun b s' q => ?_) fun _ _ e => e
      obtain ⟨rfl, g', gr, st, K⟩ := q
      refine ⟨rfl, ?_⟩
      have kk := keeps_stays K
      refine hQ (updAll val bs) g' ys s' ⟨F.lc.mono kk, st, fun b hb => ?_, F.li.at fun o e => kk D o e, ?_, trivial, fun _ h => nomatch h⟩ ⟨gr, by obtain ⟨h, tk, e, _⟩ := K; exact ⟨h, tk, e⟩, fun b o _ e => kk b o e, Dom.stays kk⟩ hJ
      · obtain ⟨o, ho⟩ := Option.isSome_iff_exists.mp (F.off b hb).2
        exact ⟨gr.off ho (F.off b hb).1, by rw [kk b o ho]; rfl⟩
      · obtain ⟨_, ho⟩ := F.li; exact gr.off ho F.offD)
  refine (EvX.plain ((base.imp (PJ' := fun ys _ => ys = #[]) fun ys g ⟨_, q⟩ => q).evx fun _ _ _ _ e => e)).conseq fun v h ⟨a, its, e, hl, q⟩ => ⟨a, e, q ▸ hl⟩
end


section
variable {prog : Program} {w : World} {A : Around} {env : Env} {I : Heap → Heap → Prop} {val : Str → Option Value} {g : Heap} {Qr : Value → Heap → Prop}
theorem n_least : nsIn (hd.heap_39 w.params) mainGlobals (Str.ofString "least_divisor") = some (some (.ref 48)) := by k_is
theorem k_least : keepIn (hd.heap_39 w.params) (.ref 48) = true := by k_is

/-- x += .. -/
theorem sx_iadd {x : Str} {npos pos : Pos} {e : Expr} {a b : Int} {u : Value} (hk : env.scope.kind = .function) (ap : Apart env env.cells) (hx : env.kindOf x = some .local) (hv : val x = some u) (hu : IntV a u g)
    (he : Ev (model prog w) A env e (Cx env val g) (IntV b)) : Sx (model prog w) A env (.AugAssign (.Name x npos) .Add e pos) val g (fun val' g' => ∃ v, val' = upd val x v ∧ IntV (a + b) v g') Qr := by
  intro E s F
  obtain ⟨m, hn, hm⟩ := F.lc.ns
  obtain ⟨t, rfl⟩ := hu
  refine wpAny_AugAssign_Name (wpAny_loadName_local hk hx hn ((hm x hx).trans hv) (he.run F fun v g₁ s₁ hp F₁ S₁ => ?_))
  obtain ⟨t', rfl⟩ := hp
  refine PyProof.Rows.iadd_int ?_
  refine store_own (s := { s₁ with toks := s₁.toks + 1 }) hk ap F₁.lc (.inl hx) fun h' tk lc' kk mm => ?_
  have kg : g₁.StaysIn h' := fun b o e => kk b o (fun hb => by rw [(F₁.off b hb).1] at e; cases e) (F₁.st b o e)
  refine ⟨_, g₁, ⟨lc', kg, fun b hb => ⟨(F₁.off b hb).1, mm b hb (F₁.off b hb).2⟩⟩, S₁.trans ⟨.refl _ _, kg, ⟨h', tk, rfl⟩, kk, .but kk mm⟩, _, rfl, _, rfl⟩

/-- the least divisor from 2 or 3 on -/
noncomputable def ldZ (n p : Nat) : Nat := if p = 2 ∧ n % 2 = 0 ∧ 4 ≤ n then 2 else n
theorem fmodN (a b : Nat) (h : 0 < b) : Int.fmod (a : Int) (b : Int) = ((a % b : Nat) : Int) := by
  rw [Int.fmod_eq_emod_of_nonneg _ (by omega)]; rfl
theorem fdivN (a b : Nat) (h : 0 < b) : Int.fdiv (a : Int) (b : Int) = ((a / b : Nat) : Int) := by
  rw [Int.fdiv_eq_ediv_of_nonneg _ (by omega)]; rfl
theorem beqN (a b : Nat) : (((a : Nat) : Int) == ((b : Nat) : Int)) = decide (a = b) := by
  by_cases h : a = b
  · subst h; simp
  · rw [decide_eq_false h, beq_eq_false_iff_ne]; omega

theorem least_divisor_v {n p : Nat} (r : Room A 1) (h2 : 2 ≤ n) (h6 : n ≤ 6) (hp : p = 2 ∨ p = 3) (u v : Value) :
    Cv (model prog w) A (.ref 48) [u, v] (fun g => Bs w g ∧ IntV n u g ∧ IntV p v g) (IntV (ldZ n p)) := by
  refine cv_def (n := 0) (binds := [(Str.ofString "n", u), (Str.ofString "begin", v)]) r (fun g i => i.1) (by k_is) (by k_is) rfl rfl (by decide) rfl rfl rfl ?_
  intro L g env he ap i
  subst he
  obtain ⟨B, hu, hv⟩ := i
  refine bx_cons (sx_assign (P := IntV p) rfl ap (.inl rfl) (ev_var v rfl IntV.mono hv) rfl) ?_
  rintro val₁ g₁ k₁ ⟨f₁, rfl, hf₁⟩
  refine bx_cons (sx_while (n := 2) (Qn := fun val g => ldZ n p = n ∧ val (Str.ofString "n") = some u)
    (fun j val g => ∃ f c, val (Str.ofString "found") = some f ∧ IntV (c : Nat) f g ∧ val (Str.ofString "n") = some u ∧ ((j = 2 ∧ c = p) ∨ (j = 1 ∧ c = 3 ∧ ldZ n p = n)))
    ⟨f₁, p, rfl, hf₁, rfl, .inl ⟨rfl, rfl⟩⟩ ?_) ?_
  · rintro j val' g' kg ⟨f, c, ef, hf, en, hc⟩
    have hc3 : c = 2 ∨ c = 3 := by omega
    refine ⟨decide (((c : Nat) : Int) * ((c : Nat) : Int) ≤ (n : Int)), ev_le Cx.mono (ev_mul Cx.mono (.of_left (intBits_le_64 (by omega) (by omega))) (ev_var f ef IntV.mono hf) (ev_var f ef IntV.mono hf)) (ev_var u en IntV.mono hu), fun e g₂ kg₂ => ?_, fun e g₂ kg₂ => ?_⟩
    · have e := of_decide_eq_true e
      have hc2 : c = 2 := by rcases hc3 with rfl | rfl <;> omega
      subst hc2
      have hp2 : p = 2 ∧ j = 2 := by omega
      obtain ⟨rfl, rfl⟩ := hp2
      have hn4 : 4 ≤ n := by omega
      refine bx_cons (Qm := fun v' _ => v' = val' ∧ n % 2 = 1) (sx_if (b := decide (n % 2 = 0)) (by rw [← beqN, ← fmodN n 2 (by decide)]; exact ev_eq Cx.mono (ev_mod Cx.mono (by decide) (ev_var u en IntV.mono hu) (ev_var f ef IntV.mono hf)) ev_int) fun g₃ k₃ => ?_) ?_
      · by_cases h0 : n % 2 = 0
        · rw [decide_eq_true h0, if_pos rfl]
          refine bx_ret (ev_var f ef (P := IntV (ldZ n 2)) IntV.mono ?_)
          rw [show ldZ n 2 = 2 from if_pos ⟨rfl, h0, hn4⟩]
          exact hf
        · rw [decide_eq_false h0]
          exact bx_nil ⟨rfl, by omega⟩
      rintro val₃ g₃ k₃ ⟨rfl, hodd⟩
      refine bx_cons (sx_iadd (a := 2) (b := 1) rfl ap rfl ef hf (ev_ifexp (b := true) Cx.mono (ev_eq (a := 2) (b := 2) Cx.mono (ev_var f ef IntV.mono hf) ev_int) (fun _ => ev_int) (fun e => by cases e))) ?_
      rintro val₄ g₄ k₄ ⟨f₄, rfl, hf₄⟩
      exact bx_nil ⟨1, by decide, f₄, 3, rfl, hf₄, en, .inr ⟨rfl, rfl, by unfold ldZ; rw [if_neg (by omega)]⟩⟩
    · have e := of_decide_eq_false e
      refine ⟨?_, en⟩
      rcases hc with ⟨_, rfl⟩ | ⟨_, _, h⟩
      · unfold ldZ
        rcases hp with rfl | rfl
        · rw [if_neg]; rintro ⟨_, _, h4⟩; exact e (by omega)
        · rw [if_neg (by omega)]
      · exact h
  rintro val₂ g₂ k₂ ⟨hl, en⟩
  refine bx_ret (ev_var u en (P := IntV (ldZ n p)) IntV.mono ?_)
  rw [hl]; exact hu
end


noncomputable def PrV (x : Int × Int) : Value → Heap → Prop := PairV (IntV x.1) (IntV x.2)
theorem PrV.mono (x : Int × Int) : MonoV (PrV x) := PairV.mono IntV.mono IntV.mono
noncomputable def pfL : Nat → List (Int × Int)
  | 2 => [(2, 1)] | 3 => [(3, 1)] | 4 => [(2, 2)] | 5 => [(5, 1)] | 6 => [(2, 1), (3, 1)] | _ => []
noncomputable def strip (q : Nat) : Nat → Nat → Nat → Nat × Nat
  | 0, m, c => (m, c)
  | k + 1, m, c => if m % q = 0 then strip q k (m / q) (c + 1) else (m, c)
noncomputable def St6 (N m p : Nat) (xs : List (Int × Int)) : Prop := (m = 1 ∧ xs = pfL N) ∨ (m = N ∧ 2 ≤ N ∧ p = 2 ∧ xs = []) ∨ (N = 6 ∧ m = 3 ∧ p = 3 ∧ xs = [(2, 1)])
theorem st6_next {N m p : Nat} {xs : List (Int × Int)} (h : St6 N m p xs) (h6 : N ≤ 6) (hm : 1 < m) : (p = 2 ∨ p = 3) ∧ m ≤ 6 ∧ 2 ≤ ldZ m p ∧ ldZ m p ≤ 6 ∧ (strip (ldZ m p) 3 m 0).1 < m ∧ (strip (ldZ m p) 3 m 0).1 < 1000 ∧ (strip (ldZ m p) 3 m 0).2 < 1000 ∧
    St6 N (strip (ldZ m p) 3 m 0).1 (if ldZ m p = 2 then 3 else ldZ m p + 2) (xs ++ [(((ldZ m p : Nat) : Int), (((strip (ldZ m p) 3 m 0).2 : Nat) : Int))]) := by
  rcases h with ⟨rfl, _⟩ | ⟨rfl, h2, rfl, rfl⟩ | ⟨rfl, rfl, rfl, rfl⟩
  · omega
  · match m, h2, h6 with
    | 2, _, _ => exact ⟨.inl rfl, by decide, by decide, by decide, by decide, by decide, by decide, .inl ⟨rfl, rfl⟩⟩
    | 3, _, _ => exact ⟨.inl rfl, by decide, by decide, by decide, by decide, by decide, by decide, .inl ⟨rfl, rfl⟩⟩
    | 4, _, _ => exact ⟨.inl rfl, by decide, by decide, by decide, by decide, by decide, by decide, .inl ⟨rfl, rfl⟩⟩
    | 5, _, _ => exact ⟨.inl rfl, by decide, by decide, by decide, by decide, by decide, by decide, .inl ⟨rfl, rfl⟩⟩
    | 6, _, _ => exact ⟨.inl rfl, by decide, by decide, by decide, by decide, by decide, by decide, .inr (.inr ⟨rfl, rfl, rfl, rfl⟩)⟩
  · exact ⟨.inr rfl, by decide, by decide, by decide, by decide, by decide, by decide, .inl ⟨rfl, rfl⟩⟩

section
variable {prog : Program} {w : World} {A : Around} {env : Env} {I : Heap → Heap → Prop} {val : Str → Option Value} {g : Heap} {Qr : Value → Heap → Prop}
theorem allV0_mono (vs : List Value) (g g' : Heap) (k : g.StaysIn g') (h : AllV [] vs g) : AllV [] vs g' := by rw [allV0 h]; trivial
theorem allV0_len (vs : List Value) (g : Heap) (h : AllV [] vs g) : vs.length ≤ sizeLine := by rw [allV0 h]; exact Nat.zero_le _
theorem allV0_ld {α : Type} {R : α → Value → Heap → Prop} {vs : List Value} {g : Heap} (h : AllV [] vs g) : LD R [] vs.toArray g := by rw [allV0 h]; exact ⟨rfl, fun i x e => by cases e⟩

theorem prime_factors_v {N : Nat} (r : Room A 2) (h1 : 1 ≤ N) (h6 : N ≤ 6) (u : Value) :
    Cv (model prog w) A (.ref 55) [u] (fun g => Bs w g ∧ IntV N u g) (LstV PrV (pfL N)) := by
  refine cv_def (n := 1) (binds := [(Str.ofString "n", u)]) r (fun g i => i.1) (by k_is) (by k_is) rfl rfl (by decide) rfl rfl rfl ?_
  intro L g env he ap i
  subst he
  obtain ⟨B, hu⟩ := i
  refine bx_consD (Ps := []) (P₂ := IntV (2 : Nat)) (fun D v g ys => v = .ref D ∧ LD PrV (pfL N) ys g) r.hh rfl ap (.inl rfl) (.inl rfl)
    evs_nil ev_int allV0_mono allV0_len rfl rfl rfl rfl ?_ ?_
  rotate_left
  · rintro D v g' ys g'' ⟨rfl, hl⟩ kg hD
    exact (hl.mono PrV.mono kg).lst hD
  intro D vs p g₁ k₁ hvs hp
  have hLD : LD PrV [] vs.toArray g₁ := allV0_ld hvs
  have B₁ := B.mono k₁
  have hu₁ := IntV.mono _ _ _ k₁ hu
  refine bxd_cons (sxd_while (n := N) (Qn := fun val g ys => val (Str.ofString "found") = some (.ref D) ∧ LD PrV (pfL N) ys g)
    (fun j val g ys => ∃ (fn fp : Value) (m p : Nat) (xs : List (Int × Int)), val (Str.ofString "n") = some fn ∧ val (Str.ofString "prime") = some fp ∧ val (Str.ofString "found") = some (.ref D) ∧ IntV m fn g ∧ IntV p fp g ∧ LD PrV xs ys g ∧ m = j ∧ m ≤ 6 ∧ 1 ≤ m ∧ St6 N m p xs ∧ xs.length ≤ 10 * (7 - m))
    ⟨u, p, N, 2, [], rfl, rfl, rfl, hu₁, hp, hLD, rfl, h6, h1, ?_, by simp⟩ ?_) ?_
  · by_cases h : N = 1
    · exact .inl ⟨h, by rw [h]; rfl⟩
    · exact .inr (.inl ⟨rfl, by omega, rfl, rfl⟩)
  · rintro j val' g' ys kg ⟨fn, fp, m, p, xs, en, ep, ef, hm, hp, hl, rfl, hm6, hm1, hst, hlen⟩
    have B' := B₁.mono kg
    refine ⟨decide ((1 : Int) < (m : Int)), ev_gt Cx.mono (ev_var fn en IntV.mono hm) ev_int, fun e g₂ kg₂ => ?_, fun e g₂ kg₂ => ?_⟩
    · have hm1' : 1 < m := by have := of_decide_eq_true e; omega
      obtain ⟨hp23, hm6', hq2, hq6, hlt, hb1, hb2, hnext⟩ := st6_next hst h6 hm1'
      have B₂ := B'.mono kg₂
      generalize hq : ldZ m p = q at *
      -- prime, many = least_divisor(n, prime), 0
      refine bxd_let (sx_assign2 (P₁ := IntV q) (P₂ := IntV (0 : Nat)) r.hh rfl ap (.inl rfl) (.inl rfl) (ev_pairV Cx.mono IntV.mono IntV.mono
        (ev_callG (Ps := [IntV m, IntV p]) Cx.mono (fun h g' c => B₂.mono c.2) n_least k_least (evs_cons Cx.mono IntV.mono (ev_var fn en IntV.mono hm) (evs_cons Cx.mono IntV.mono (ev_var fp ep IntV.mono hp) evs_nil)) (cv_args2 fun u v => by rw [← hq]; exact least_divisor_v (r.deeper _) (by omega) hm6 hp23 u v)) ev_int) rfl rfl) ?_
      rintro val₃ g₃ k₃ ⟨fq, fz, rfl, hfq, hfz⟩
      -- while n % prime == 0
      refine bxd_let (sx_while (n := 3) (Qn := fun val g => ∃ fn' fm', val (Str.ofString "n") = some fn' ∧ val (Str.ofString "many") = some fm' ∧ val (Str.ofString "prime") = some fq ∧ val (Str.ofString "found") = some (.ref D) ∧ IntV (strip q 3 m 0).1 fn' g ∧ IntV (strip q 3 m 0).2 fm' g)
        (fun j val g => ∃ (fn' fm' : Value) (m' c : Nat), val (Str.ofString "n") = some fn' ∧ val (Str.ofString "many") = some fm' ∧ val (Str.ofString "prime") = some fq ∧ val (Str.ofString "found") = some (.ref D) ∧ IntV m' fn' g ∧ IntV c fm' g ∧ strip q j m' c = strip q 3 m 0 ∧ 1 ≤ m' ∧ m' < 2 ^ j)
        ⟨fn, fz, m, 0, en, rfl, rfl, ef, hm, hfz, rfl, hm1, by omega⟩ ?_) ?_
      · rintro j val₄ g₄ kg₄ ⟨fn', fm', m', c, en', em', ep', ef', hn', hc', hs, hm1, hmj⟩
        refine ⟨decide (m' % q = 0), by rw [← beqN, ← fmodN m' q (by omega)]; exact ev_eq Cx.mono (ev_mod Cx.mono (by omega) (ev_var fn' en' IntV.mono hn') (ev_var fq ep' IntV.mono hfq)) ev_int, fun e g₅ kg₅ => ?_, fun e g₅ kg₅ => ?_⟩
        · have h0 := of_decide_eq_true e
          obtain ⟨j, rfl⟩ : ∃ i, j = i + 1 := by
            cases j with
            | zero => exfalso; have : m' < 1 := hmj; omega
            | succ j => exact ⟨j, rfl⟩
          refine bx_cons (sx_assign2 (P₁ := IntV ((m' / q : Nat) : Int)) (P₂ := IntV ((c : Int) + 1)) r.hh rfl ap (.inl rfl) (.inl rfl) (ev_pairV Cx.mono IntV.mono IntV.mono
            (by rw [← fdivN m' q (by omega)]; exact ev_fdiv Cx.mono r.hh (by omega) (PyProof.noPylong_small (by omega)) (ev_var fn' en' IntV.mono hn') (ev_var fq ep' IntV.mono hfq))
            (ev_add Cx.mono (ev_var fm' em' IntV.mono hc') ev_int)) rfl rfl) ?_
          rintro val₆ g₆ k₆ ⟨fa, fb, rfl, hfa, hfb⟩
          refine bx_nil ⟨j, by omega, fa, fb, m' / q, c + 1, rfl, rfl, ep', ef', hfa, hfb, ?_, ?_, ?_⟩
          · rw [← hs]
            show _ = (if m' % q = 0 then strip q j (m' / q) (c + 1) else (m', c))
            rw [if_pos h0]
          · exact Nat.div_pos (Nat.le_of_dvd (by omega) (Nat.dvd_of_mod_eq_zero h0)) (by omega)
          · rw [Nat.pow_succ] at hmj
            have : m' / q ≤ m' / 2 := Nat.div_le_div_left hq2 (by decide)
            omega
        · have h0 := of_decide_eq_false e
          have : strip q j m' c = (m', c) := by
            cases j with
            | zero => rfl
            | succ j => exact if_neg h0
          rw [this] at hs
          exact ⟨fn', fm', en', em', ep', ef', by rw [← hs]; exact hn', by rw [← hs]; exact hc'⟩
      rintro val₄ g₄ k₄ ⟨fn', fm', en', em', ep', ef', hn', hc'⟩
      have hl₄ := (((hl.mono PrV.mono kg₂).mono PrV.mono k₃).mono PrV.mono k₄)
      have hsz : ys.size ≤ sizeLine := by rw [hl.1, sizeLine_eq]; omega
      refine bxd_cons (sxd_append (Qn := fun v g ys' => v = _ ∧ LD PrV (xs ++ [((q : Int), ((strip q 3 m 0).2 : Int))]) ys' g) (.inl rfl) rfl (by decide) ef'
        (ev_pairV (P₁ := IntV q) (P₂ := IntV (strip q 3 m 0).2) Cx.mono IntV.mono IntV.mono (ev_var fq ep' IntV.mono hfq) (ev_var fm' em' IntV.mono hc')) hsz rfl rfl rfl rfl rfl (fun v g₆ k₆ hv => ⟨rfl, (hl₄.mono PrV.mono k₆).push hv⟩)) ?_
      rintro v₆ g₆ ys₆ k₆ ⟨rfl, hl₆⟩
      refine bxd_let (sx_assign (P := IntV ((if q = 2 then 3 else q + 2 : Nat) : Int)) rfl ap (.inl rfl) (ev_ifexp (b := decide (q = 2)) Cx.mono (by rw [← beqN]; exact ev_eq Cx.mono (ev_var fq ep' IntV.mono hfq) ev_int) (fun e => ?_) (fun e => ?_)) rfl) ?_
      · rw [if_pos (of_decide_eq_true e)]; exact ev_int
      · rw [if_neg (of_decide_eq_false e)]; exact (ev_add (a := (q : Int)) (b := 2) Cx.mono (ev_var fq ep' IntV.mono hfq) ev_int)
      rintro v₇ g₇ k₇ ⟨fp', rfl, hfp'⟩
      refine bxd_nil ⟨(strip q 3 m 0).1, hlt, fn', fp', _, _, _, en', rfl, ef', hn', hfp', hl₆.mono PrV.mono k₇, rfl, by omega, ?_, hnext, ?_⟩
      · rcases hnext with ⟨h, _⟩ | ⟨h, h2, _⟩ | ⟨_, h, _⟩ <;> omega
      · rw [List.length_append]
        show xs.length + 1 ≤ _
        omega
    · have hm1' : m = 1 := by have := of_decide_eq_false e; omega
      refine ⟨ef, ?_⟩
      rcases hst with ⟨_, rfl⟩ | ⟨rfl, h, _⟩ | ⟨_, h, _⟩
      · exact hl.mono PrV.mono kg₂
      · omega
      · omega
  rintro val₂ g₂ ys₂ k₂ ⟨ef, hl⟩
  refine bxd_cons (Qm := fun _ _ _ => False) (sxd_lift (Qn' := fun _ _ => False) (Qr' := fun v g => v = .ref D ∧ LD PrV (pfL N) ys₂ g) (sx_return (ev_name (.ref D) (fun h g' c k => c.1.sees (.inl rfl) ef) (fun h g' c => ⟨rfl, hl.mono PrV.mono c.2⟩) (by rfl) (by decide))) (fun _ _ q => q) fun v g q => q) fun _ _ _ _ q => q.elim
end

section
variable {prog : Program} {w : World} {A : Around} {env : Env} {I : Heap → Heap → Prop} {R : Result → Shared → Prop} {s : Shared}
theorem codeAny_compStart1 {elt : Expr} {g₁ : Comprehension} {target iter : Expr} {scope : Scope} {pos : Pos} {it acc : Value}
    (h0 : codeAny (model prog w) A (.compLoop (.ListComp elt [g₁, ⟨target, iter, [], 0⟩] scope pos) 1 it acc env) R s)
    (h : wpAny (model prog w) A (pyIter it) (fun it' s' => codeAny (model prog w) A (.compLoop (.ListComp elt [g₁, ⟨target, iter, [], 0⟩] scope pos) 1 it' acc env) R s')
      (notedBy (model prog w) A env fun x s' => R (.error x) s') s) :
    codeAny (model prog w) A (.compStart (.ListComp elt [g₁, ⟨target, iter, [], 0⟩] scope pos) 1 it acc env) R s := by
  refine codeAny_of_tree ?_
  show wpAny _ _ ((compStart (.ListComp elt [g₁, ⟨target, iter, [], 0⟩] scope pos) 1 it acc env).onRaise (fun x => do noteFrame x env; standAt theWindowsPlace)) _ _ s
  refine wpAny_notedAt ?_
  unfold compStart
  show wpAny _ _ (ask >>= _) _ _ s
  refine wpAny_bind (wpAny_askSetting (wpAny_ite ?_))
  split
  · first
      | exact wpAny_bind (wpAny_pure (wpAny_pure (And.intro rfl h0)))
      | exact wpAny_pure (And.intro rfl h0)
  · first
      | exact wpAny_bind (wpAny_rule (wpAny_bind (wpAny_standAt (wpAny_bind (wpAny_mono h (fun it' s' h' => wpAny_pure (And.intro rfl h')) fun _ _ x => x)))))
      | (refine wpAny_bind (wpAny_rule ?_); show wpAny _ _ (standAt iter.pos >>= _) _ _ s; exact wpAny_bind (wpAny_standAt (wpAny_bind (wpAny_mono h (fun it' s' h' => wpAny_pure (And.intro rfl h')) fun _ _ x => x))))

theorem compTurn_two0 (elt target iter target2 iter2 : Expr) (scope : Scope) (pos : Pos) (it acc : Value) (env : Env) :
    compTurn (.ListComp elt [⟨target, iter, [], 0⟩, ⟨target2, iter2, [], 0⟩] scope pos) 0 it acc env = (standAt iter.pos >>= fun _ => pyNext it >>= fun r => match r with
      | none => pure (.done .next)
      | some v => letOwnedTupleGo target it v >>= fun _ => assign target env v >>= fun _ =>
        (eval iter2 env >>= fun x => standAt iter2.pos >>= fun _ => foldedSetIterable iter2 env x >>= fun x => holding [x] (pyIter x) >>= fun it2 => runOwn (.compStart (.ListComp elt [⟨target, iter, [], 0⟩, ⟨target2, iter2, [], 0⟩] scope pos) 1 it2 acc env) env >>= fun _ =>
          again (.compLoop (.ListComp elt [⟨target, iter, [], 0⟩, ⟨target2, iter2, [], 0⟩] scope pos) 0 it acc env))) := by rfl
theorem compTurn_two1 (elt target iter target2 iter2 : Expr) (scope : Scope) (pos : Pos) (it acc : Value) (env : Env) :
    compTurn (.ListComp elt [⟨target, iter, [], 0⟩, ⟨target2, iter2, [], 0⟩] scope pos) 1 it acc env = (standAt iter2.pos >>= fun _ => pyNext it >>= fun r => match r with
      | none => pure (.done .next)
      | some v => letOwnedTupleGo target2 it v >>= fun _ => assign target2 env v >>= fun _ =>
        (eval elt env >>= fun x => call (.builtin "list.append") [acc, x] >>= fun _ => pure ()) >>= fun _ =>
          again (.compLoop (.ListComp elt [⟨target, iter, [], 0⟩, ⟨target2, iter2, [], 0⟩] scope pos) 1 it acc env)) := by rfl
end
section
variable {prog : Program} {w : World} {A : Around} {env : Env} {I : Heap → Heap → Prop}
theorem gen_comp2 {α β : Type} {R : α → Value → Heap → Prop} {R' : β → Value → Heap → Prop} (f : α → Nat → β) {elt iter iter2 target2 : Expr} {x : Str} {px : Pos} {scope : Scope} {pos : Pos} {cl : List (Str × Addr)} {xs : List α} {n2 : Nat} {Pn2 : Nat → List (Str × Value) → Heap → Prop}
    (hI : Mono2 I) (mR : ∀ x, MonoV (R x)) (mR' : ∀ x, MonoV (R' x)) (hh : A.handled = none) (hsz : xs.length * n2 + n2 ≤ sizeLine) (hclos : closureFor scope env = pure cl) (hkind : scope.kind = .function)
    (hnames : ∀ y ∈ scope.names, y.2 = .local → scope.names.lookup y.1 = some .local) (hs : ∀ x, foldedSetIterable iter env x = pure x) (hs2 : ∀ C x, foldedSetIterable iter2 (ccEnv scope cl C env) x = pure x)
    (hi : Ev (model prog w) A env iter I (LstV R xs)) (hown : ∀ C, Own (ccEnv scope cl C env) (ccOwn scope C) x)
    (hown2 : ∀ C i bs g, Pn2 i bs g → ∀ y ∈ bs, Own (ccEnv scope cl C env) (ccOwn scope C) y.1) (hkeep : ∀ i bs g val v, Pn2 i bs g → val x = some v → updAll val bs x = some v)
    (hsrc2 : ∀ C y v val, y ∈ xs → val x = some v → Source prog w A (ccEnv scope cl C env) iter2 target2 (Cc scope cl C env I (R y v) val) n2 Pn2)
    (helt : ∀ C y v k bs val, y ∈ xs → k < n2 → val x = some v → Mono2 (fun h g => I h g ∧ R y v g ∧ (∃ g₀ : Heap, g₀.StaysIn g ∧ Pn2 k bs g₀) ∧ Lc (ccEnv scope cl C env) (ccOwn scope C) (updAll val bs) h) → Ev (model prog w) A (ccEnv scope cl C env) elt (fun h g => I h g ∧ R y v g ∧ (∃ g₀ : Heap, g₀.StaysIn g ∧ Pn2 k bs g₀) ∧ Lc (ccEnv scope cl C env) (ccOwn scope C) (updAll val bs) h) (R' (f y k))) :
    GenComp (model prog w) A z0 env elt [⟨.Name x px, iter, [], 0⟩, ⟨target2, iter2, [], 0⟩] scope pos I (LD R' (xs.flatMap fun y => (List.range n2).map (f y))) := by
  have base := gen_compG (A := A) (prog := prog) (w := w) (pos := pos) (elt := elt) (ifs := []) (rest := [⟨target2, iter2, [], 0⟩]) (env := env) (z := z0) (I := I)
    (fun D env E Q s => wpAny (model prog w) A (eval iter2 env) (fun xv s₁ => wpAny (model prog w) A (foldedSetIterable iter2 env xv >>= fun xv => holding [xv] (pyIter xv)) (fun it' s₂ => codeAny (model prog w) A (.compStart (.ListComp elt [⟨.Name x px, iter, [], 0⟩, ⟨target2, iter2, [], 0⟩] scope pos) 1 it' (.ref D) env)
      (fun r s' => match r with | .ok _ => Q s' | .error xe => cameBackBy (model prog w) A env E xe s') s₂) E s₁) E s)
    (fun D it env s E Rr h => by
      rw [compTurn_two0]
      refine wpAny_bind (wpAny_standAt (wpAny_bind (wpAny_mono h (fun r s₁ h₁ => ?_) fun _ _ e => e)))
      match r, h₁ with
      | none, h₁ => exact wpAny_pure h₁
      | some v, h₁ =>
        refine wpAny_bind (wpAny_mono h₁ (fun _ s₁' h₁' => wpAny_bind (wpAny_mono h₁' (fun _ s₂ h₂ => ?_) fun _ _ e => e)) fun _ _ e => e)
        refine wpAny_bind (wpAny_mono h₂ (fun xv s₃ h₃ => wpAny_bind (wpAny_standAt ?_)) fun _ _ e => e)
        show wpAny _ _ (foldedSetIterable iter2 env xv >>= fun xv => holding [xv] (pyIter xv) >>= fun it2 => _) _ _ _
        rw [← bind_assoc]
        refine wpAny_bind (wpAny_mono h₃ (fun it2 s₄ h₄ => wpAny_bind (wpAny_runOwn (codeAny_mono h₄ fun r s' q => ?_))) fun _ _ e => e)
        match r, q with
        | .ok _, q => exact wpAny_pure q
        | .error x, q => exact q)
    (mono0 hI) hclos hkind hnames hs (source_list (x := x) (px := px) mR hh hI hi) (fun C i bs g hp u hu => by obtain ⟨v, y, rfl, _⟩ := hp; rw [List.mem_singleton.mp hu]; exact hown C)
    (fun i val ys g => LD R' ((xs.take i).flatMap fun y => (List.range n2).map (f y)) ys g) (fun i v ys g g' k e => e.mono mR' k) (fun g => ⟨rfl, fun i x e => nomatch e⟩)
    (fun C D i val g ys bs s ap nD xn hi hJ hp hIs F E Q hQ => by
      obtain ⟨v, y, rfl, hy, hv⟩ := hp
      have hym : y ∈ xs := List.mem_of_getElem? hy
      have hkf : (ccEnv scope cl C env).scope.kind = .function := hkind
      have hIs' : ∀ h' g', (∀ b o, b ∉ D :: ownA (ccEnv scope cl C env) (ccOwn scope C) → s.heap.get? b = some o → h'.get? b = some o) → g.StaysIn g' → I h' g' := fun h' g' kb kg => hIs h' g' (fun b o nb e => kb b o (fun q => nb (by
        rcases List.mem_cons.mp q with rfl | q
        · exact .head _
        · exact .tail _ (List.mem_append_left _ q))) e) kg
      refine wpAny_mono (hsrc2 C y v (updAll val [(x, v)]) hym (by simp [updAll, upd]) E s g (fun it' s₂ => codeAny (model prog w) A (.compStart (.ListComp elt [⟨.Name x px, iter, [], 0⟩, ⟨target2, iter2, [], 0⟩] scope pos) 1 it' (.ref D) (ccEnv scope cl C env))
        (fun r s' => match r with | .ok _ => Q s' | .error xe => cameBackBy (model prog w) A (ccEnv scope cl C env) E xe s') s₂) ⟨hIs _ _ (fun b o _ e => e) (stays_refl _), hv, F.lc⟩ F.st ?_) (fun xv s₁ q => ?_) fun _ _ e => e
      rotate_left
      · exact wpAny_bind (wpAny_of_eq (hs2 C xv) (wpAny_holding q))
      intro it2 own h₁ g₁ tk₁ St hT st₁ gr₁ k₁ kk₁ hown₁
      have F₁ : FmC z0 (ccEnv scope cl C env) (ccOwn scope C) D (updAll val [(x, v)]) g₁ ys { s with heap := h₁, toks := tk₁ } :=
        ⟨F.lc.mono kk₁, k₁, fun b hb => by
          obtain ⟨o, ho⟩ := Option.isSome_iff_exists.mp (F.off b hb).2
          exact ⟨gr₁.off ho (F.off b hb).1, by show (h₁.get? b).isSome; rw [kk₁ b o ho]; rfl⟩, F.li.at fun o e => kk₁ D o e, by obtain ⟨_, ho⟩ := F.li; exact gr₁.off ho F.offD, trivial, fun _ h => nomatch h⟩
      have hDs : ∃ o, s.heap.get? D = some o := by obtain ⟨_, ho⟩ := F.li; exact ⟨_, ho⟩
      have loop : codeAny (model prog w) A (.compLoop (.ListComp elt [⟨.Name x px, iter, [], 0⟩, ⟨target2, iter2, [], 0⟩] scope pos) 1 it2 (.ref D) (ccEnv scope cl C env))
          (fun r s' => match r with | .ok _ => Q s' | .error xe => cameBackBy (model prog w) A (ccEnv scope cl C env) E xe s') { s with heap := h₁, toks := tk₁ } := by
        refine loopX (z := z0) (fun E Q s => wpAny (model prog w) A (eval elt (ccEnv scope cl C env)) (fun x s₄ => wpAny (model prog w) A (call (.builtin "list.append") [.ref D, x]) (fun _ s₅ => Q s₅) E s₄) E s) ?_ hkf ap nD (fun _ h => nomatch h) (hT _)
          (fun h g' => (∀ b o, b ∉ D :: ownA (ccEnv scope cl C env) (ccOwn scope C) → s.heap.get? b = some o → h.get? b = some o) ∧ g.StaysIn g') ?_
          (fun k val' ys' g' => val' x = some v ∧ R y v g' ∧ LD R' (((xs.take i).flatMap fun y => (List.range n2).map (f y)) ++ (List.range k).map (f y)) ys' g') ?_ (hown2 C) ?_ F₁ st₁ ⟨fun b o _ e => kk₁ b o e, gr₁.up⟩ ?_ ?_ ?_
        · intro s E Rr h
          rw [compTurn_two1]
          refine wpAny_bind (wpAny_standAt (wpAny_bind (wpAny_mono h (fun r s₁ h₁ => ?_) fun _ _ e => e)))
          match r, h₁ with
          | none, h₁ => exact wpAny_pure h₁
          | some v, h₁ =>
            refine wpAny_bind (wpAny_mono h₁ (fun _ s₁' h₁' => wpAny_bind (wpAny_mono h₁' (fun _ s₂ h₂ => ?_) fun _ _ e => e)) fun _ _ e => e)
            exact wpAny_bind (wpAny_bind (wpAny_mono h₂ (fun x s₄ h₄ => wpAny_bind (wpAny_mono h₄ (fun _ s₅ h₅ => wpAny_pure (wpAny_pure h₅)) fun _ _ e => e)) fun _ _ e => e))
        · rintro h h' g' g'' kb kg kh ⟨a, b⟩
          refine ⟨fun c o n e => kb c o (fun q => n (q ▸ .head _)) (fun q => ?_) (fun q => n (.tail _ q)) (fun h => nomatch h) (a c o n e), stays_trans b kg⟩
          rw [(hown₁ c q).2.1] at e; cases e
        · rintro k v' ys' g' g'' kg ⟨a, b, c⟩
          exact ⟨a, mR _ _ _ _ kg b, c.mono mR' kg⟩
        · rintro k val' g' ys' bs' s' hk ⟨ex, hr, hL⟩ hp hIB F' E' Q' hQ'
          refine fmc_evx F' nD (fun _ h => nomatch h) ((helt C y v k bs' val' hym hk ex (by rintro h h' g g' kh kg ⟨x1, x2, ⟨g₀, x3, x4⟩, x5⟩; exact ⟨hI _ _ _ _ kh kg x1, mR _ _ _ _ kg x2, ⟨g₀, stays_trans x3 kg, x4⟩, x5.mono kh⟩)).toX (z := z0)) ⟨hIs' _ _ hIB.1 hIB.2, hr, ⟨g', stays_refl _, hp⟩, F'.lc⟩ fun u g₂ s₂ hu F₂ S₂ => ?_
          refine fmc_append F₂ nD (fun _ h => nomatch h) ?_ fun s₃ F₃ S₃ => hQ' _ _ _ _ F₃ (S₂.trans S₃) ⟨hkeep _ _ _ _ _ hp ex, mR _ _ _ _ S₂.gr.up hr, ?_⟩
          · rw [hL.1, List.length_append, List.length_map, List.length_range]
            have : ((xs.take i).flatMap fun y => (List.range n2).map (f y)).length = i * n2 := by
              rw [List.length_flatMap]
              simp only [List.length_map, List.length_range, List.map_const', List.sum_replicate_nat, List.length_take]
              rw [Nat.min_eq_left (Nat.le_of_lt hi)]
            rw [this]
            have : i * n2 ≤ xs.length * n2 := Nat.mul_le_mul_right _ (Nat.le_of_lt hi)
            omega
          · rw [List.range_succ, List.map_append, ← List.append_assoc]
            exact (hL.mono mR' S₂.gr.up).push hu
        · exact ⟨by simp [updAll, upd], mR _ _ _ _ gr₁.up hv, by rw [List.range_zero, List.map_nil, List.append_nil]; exact hJ.mono mR' gr₁.up⟩
        · intro b hb
          refine ⟨(hown₁ b hb).1, (fun q => ?_), (fun q => ?_), (fun h => nomatch h), (hown₁ b hb).2.2⟩
          · obtain ⟨o, ho⟩ := hDs; rw [← q, (hown₁ b hb).2.1] at ho; cases ho
          · have := (F.off b q).2; rw [(hown₁ b hb).2.1] at this; cases this
        · rintro val' g' ys' s' F' gr sm kb dm ⟨ex, hr, hL⟩
          obtain ⟨h', tk', rfl⟩ := sm
          refine hQ val' g' ys' _ F' ⟨gr₁.trans kk₁ gr, ⟨h', tk', rfl⟩, fun b o nb e => kb b o (fun q => ?_) (kk₁ b o e), fun b e => ?_⟩ ?_
          · rcases List.mem_cons.mp q with rfl | q
            · exact nb (.head _)
            · rcases List.mem_append.mp q with q | q
              · rcases List.mem_append.mp q with q | q
                · rw [(hown₁ b q).2.1] at e; cases e
                · exact nb (.tail _ (List.mem_append_left _ q))
              · cases q
          · obtain ⟨o, ho⟩ := Option.isSome_iff_exists.mp e
            exact dm b (fun q => by rw [(hown₁ b q).2.1] at ho; cases ho) (by show (h₁.get? b).isSome; rw [kk₁ b o ho]; rfl)
          · have e : xs.take (i + 1) = xs.take i ++ [y] := by rw [List.take_add_one, hy]; rfl
            rw [e, List.flatMap_append, List.flatMap_singleton]
            exact hL
      exact codeAny_compStart1 loop ((hT (ccEnv scope cl C env)).self 0 _ g₁ _ _ st₁ loop))
  exact base.imp fun ys g ⟨_, q⟩ => by rw [List.take_length] at q; exact q
end

section
variable {prog : Program} {w : World} {A : Around} {env : Env} {I : Heap → Heap → Prop}
theorem mem5 {α : Type} {x a b c d e : α} (h : x ∈ [a, b, c, d, e]) : x = a ∨ x = b ∨ x = c ∨ x = d ∨ x = e := by
  rcases List.mem_cons.mp h with h | h
  · exact .inl h
  rcases List.mem_cons.mp h with h | h
  · exact .inr (.inl h)
  rcases List.mem_cons.mp h with h | h
  · exact .inr (.inr (.inl h))
  rcases List.mem_cons.mp h with h | h
  · exact .inr (.inr (.inr (.inl h)))
  exact .inr (.inr (.inr (.inr (List.mem_singleton.mp h))))
/-- a list of pairs, two names -/
theorem turns_pairs {x1 x2 : Str} {p1 p2 pt : Pos} {kd : Nat} (hh : A.handled = none) {it l : Addr} (hli : l ≠ it) (its : Array Value) (xs : List (Int × Int)) (hsz : its.size = xs.length) :
    Turns prog w A (.Tuple [.Name x1 p1, .Name x2 p2] kd pt) env (.ref it) [it] xs.length (fun i bs g => ∃ u v y, bs = [(x1, u), (x2, v)] ∧ xs[i]? = some y ∧ IntV y.1 u g ∧ IntV y.2 v g)
      (fun i h g => (h.IsListIter it l i ∧ h.IsList l its) ∧ g.IsList l its ∧ ∀ (j : Nat) y, xs[j]? = some y → ∃ u, its[j]? = some u ∧ PrV y u g) := by
  have W := Walks.list (prog := prog) (w := w) hh it l hli its
  rw [hsz] at W
  refine ⟨?_, ?_, ?_, ?_⟩
  · intro i h h' g g' st k kg kh
    obtain ⟨⟨⟨o, ho, r⟩, hl⟩, hg, hR⟩ := st
    exact ⟨⟨⟨o, k it o (.head _) ho, r⟩, isList_mono kh (isList_mono kg hg)⟩, isList_mono kg hg, fun j y e => let ⟨u, a, b⟩ := hR j y e; ⟨u, a, PrV.mono _ _ _ _ kg b⟩⟩
  · intro i s g Q E hi st k off hQ
    refine W.item i s _ E hi st.1 fun v h' tk hp st' kk => ?_
    obtain ⟨y, hy⟩ : ∃ y, xs[i]? = some y := ⟨xs[i]'(by omega), by simp⟩
    obtain ⟨u, hu, T, a, b, rfl, hT, ha, hb⟩ := st.2.2 i y hy
    have hvu : v = .ref T := by
      have hp' : its[i]? = some v := hp
      rw [hu] at hp'; cases hp'; rfl
    subst hvu
    have kg : g.StaysIn h' := fun c o e => kk c o (fun q => by rw [List.mem_singleton.mp q, off it (.head _)] at e; cases e) (k c o e)
    show wpAny _ _ (letOwnedTupleGo (.Tuple [.Name x1 p1, .Name x2 p2] kd pt) (.ref it) (.ref T)) _ _ _
    refine wpAny_letOwnedTupleGo_listiter st'.1 ?_
    refine assign_Tuple_tuple hh (isTup_mono kg hT) rfl rfl fun h₃ he₃ => ?_
    have k3 : ∀ c o, h'.get? c = some o → h₃.get? c = some o := fun c o e => he₃ c o (Nat.ne_of_lt (Heap.lt_size e)) e
    have st₃ : (h₃.IsListIter it l (i + 1) ∧ h₃.IsList l its) := by
      obtain ⟨⟨o, ho, r⟩, hl⟩ := st'
      exact ⟨⟨o, k3 _ _ ho, r⟩, isList_mono k3 hl⟩
    have z := hQ [(x1, a), (x2, b)] h₃ g tk ⟨a, b, y, rfl, hy, ha, hb⟩ ⟨st₃, st.2⟩ (.refl _ _) (stays_trans kg k3) (fun c o nb e => k3 c o (kk c o nb e)) (fun c hc => by
      rw [List.mem_singleton.mp hc]
      obtain ⟨⟨o, ho, _⟩, _⟩ := st₃
      rw [ho]; rfl)
    refine assignInOrder_cons (wpAny_assign_Name (wpAny_mono z (fun _ s₁ z₁ => ?_) fun _ _ e => e))
    exact assignInOrder_cons (wpAny_assign_Name (wpAny_mono z₁ (fun _ s₂ z₂ => assignInOrder_nil z₂) fun _ _ e => e))
  · intro s g Q E st k off hQ
    refine W.done s Q E st.1 fun h' tk kk => hQ h' tk (fun b o e => kk b o (fun hb => by rw [List.mem_singleton.mp hb, off it (.head _)] at e; cases e) (k b o e)) kk
  · intro i s g Q E st hQ
    exact W.self i s Q E st.1 hQ

theorem source_pairs {iter : Expr} {x1 x2 : Str} {p1 p2 pt : Pos} {kd : Nat} {xs : List (Int × Int)} (hh : A.handled = none) (hI : Mono2 I) (hi : Ev (model prog w) A env iter I (LstV PrV xs)) :
    Source prog w A env iter (.Tuple [.Name x1 p1, .Name x2 p2] kd pt) I xs.length (fun i bs g => ∃ u v y, bs = [(x1, u), (x2, v)] ∧ xs[i]? = some y ∧ IntV y.1 u g ∧ IntV y.2 v g) := by
  intro E s g Q i k hQ
  refine hi.then hI i k fun v s₁ g₁ L i₁ k₁ gr₁ K₁ => ?_
  obtain ⟨ax, its, rfl, hl, hsz, hit⟩ := L
  have hl₁ := isList_mono k₁ hl
  refine wpAny_pyIter_list hl₁ ?_
  obtain ⟨h', tk, rfl, kk⟩ := K₁
  have hne : ax ≠ h'.objs.size := by obtain ⟨o, ho, _⟩ := hl₁; exact Nat.ne_of_lt (Heap.lt_size ho)
  have fr : h'.get? h'.objs.size = none := get_size h'
  refine hQ (.ref h'.objs.size) [h'.objs.size] _ g₁ tk _ (fun cenv => turns_pairs (prog := prog) (w := w) (env := cenv) (x1 := x1) (x2 := x2) (p1 := p1) (p2 := p2) (pt := pt) (kd := kd) hh hne its xs hsz) ⟨⟨⟨_, get_push_new rfl, rfl, rfl⟩, isList_mono stays_push hl₁⟩, hl, hit⟩ gr₁ (stays_trans k₁ stays_push) (stays_trans kk stays_push) ?_
  · intro b hb
    rw [List.mem_singleton.mp hb]
    exact ⟨none_of_stays k₁ fr, none_of_stays kk fr, by rw [get_push_new rfl]; rfl⟩

/-- zip of two lists, two names -/
theorem turns_zip {α β : Type} {R : α → Value → Heap → Prop} {R' : β → Value → Heap → Prop} (mR : ∀ x, MonoV (R x)) (mR' : ∀ x, MonoV (R' x)) {x1 x2 : Str} {p1 p2 pt : Pos} {kd : Nat} (hh : A.handled = none) {z TI TO i1 i2 l1 l2 : Addr} (D : ZipApart z TI TO i1 i2 l1 l2) (as bs : Array Value) (xs : List α) (ys : List β) (h1 : as.size = xs.length) (h2 : bs.size = ys.length) (h3 : xs.length = ys.length) :
    Turns prog w A (.Tuple [.Name x1 p1, .Name x2 p2] kd pt) env (.ref z) [z, TI, TO, i1, i2] xs.length (fun i b g => ∃ u v a c, b = [(x1, u), (x2, v)] ∧ xs[i]? = some a ∧ ys[i]? = some c ∧ R a u g ∧ R' c v g)
      (fun i h g => (IsZip h z TI TO .none ∧ IsPair h TI (.ref i1) (.ref i2) ∧ (∃ a b, IsPair h TO a b) ∧ h.IsListIter i1 l1 i ∧ h.IsListIter i2 l2 i ∧ h.IsList l1 as ∧ h.IsList l2 bs) ∧ (g.IsList l1 as ∧ g.IsList l2 bs) ∧
        (∀ (j : Nat) y, xs[j]? = some y → ∃ u, as[j]? = some u ∧ R y u g) ∧ (∀ (j : Nat) y, ys[j]? = some y → ∃ u, bs[j]? = some u ∧ R' y u g)) := by
  have W := WalksT.zip2 (prog := prog) (w := w) hh z TI TO i1 i2 l1 l2 D as bs
  rw [show min as.size bs.size = xs.length by omega] at W
  have sub4 : ∀ b ∈ [z, TO, i1, i2], b ∈ [z, TI, TO, i1, i2] := fun b hb => by
    rcases List.mem_cons.mp hb with h | hb
    · rw [h]; exact .head _
    exact .tail _ (.tail _ hb)
  have k4 : ∀ (g : Heap), (∀ b ∈ [z, TI, TO, i1, i2], g.get? b = none) → ∀ (s h' : Heap), g.StaysIn s → (∀ b o, b ∉ [z, TO, i1, i2] → s.get? b = some o → h'.get? b = some o) → g.StaysIn h' := fun g off s h' k kk b o e =>
    kk b o (fun hb => by rw [off b (sub4 b hb)] at e; cases e) (k b o e)
  refine ⟨?_, ?_, ?_, ?_⟩
  · intro i h h' g g' st k kg kh
    obtain ⟨⟨a1, a2, ⟨p, q, a3⟩, ⟨o4, a4, r4⟩, ⟨o5, a5, r5⟩, a6, a7⟩, ⟨b1, b2⟩, b3, b4⟩ := st
    refine ⟨⟨k z _ (.head _) a1, k TI _ (.tail _ (.head _)) a2, ⟨p, q, k TO _ (.tail _ (.tail _ (.head _))) a3⟩, ⟨o4, k i1 _ (.tail _ (.tail _ (.tail _ (.head _)))) a4, r4⟩, ⟨o5, k i2 _ (.tail _ (.tail _ (.tail _ (.tail _ (.head _))))) a5, r5⟩, isList_mono kh (isList_mono kg b1), isList_mono kh (isList_mono kg b2)⟩, ⟨isList_mono kg b1, isList_mono kg b2⟩,
      fun j y e => let ⟨u, a, b⟩ := b3 j y e; ⟨u, a, mR _ _ _ _ kg b⟩, fun j y e => let ⟨u, a, b⟩ := b4 j y e; ⟨u, a, mR' _ _ _ _ kg b⟩⟩
  · intro i s g Q E hi st k off hQ
    refine W.item i s _ E hi st.1 fun T vals h' tk hp hT hv hm kk => ?_
    obtain ⟨x, y, hx, hy, rfl⟩ := hp
    have ap := W.apart i T h' hm
    refine W.go [.Name x1 p1, .Name x2 p2] kd pt i T { s with heap := h', toks := tk } _ E hm fun h₂ st₂ kk₂ => ?_
    have hv₂ : IsTup h₂ T #[x, y] := by
      obtain ⟨o, ho, r⟩ := hv
      exact ⟨o, kk₂ T o ap ho, r⟩
    refine assign_Tuple_tuple hh hv₂ rfl rfl fun h₃ he₃ => ?_
    have k3 : ∀ b o, h₂.get? b = some o → h₃.get? b = some o := fun b o e => he₃ b o (Nat.ne_of_lt (Heap.lt_size e)) e
    have kall : ∀ b o, b ∉ [z, TO, i1, i2] → s.heap.get? b = some o → h₃.get? b = some o := fun b o nb e => k3 b o (kk₂ b o nb (kk b o nb e))
    have kg : g.StaysIn h₃ := k4 g off _ _ k kall
    have st₃ := W.frame _ _ _ st₂ fun b _ o e => k3 b o e
    obtain ⟨a, ha⟩ : ∃ a, xs[i]? = some a := ⟨xs[i]'(by omega), by simp⟩
    obtain ⟨c, hc⟩ : ∃ c, ys[i]? = some c := ⟨ys[i]'(by omega), by simp⟩
    obtain ⟨u, hu, hRu⟩ := st.2.2.1 i a ha
    obtain ⟨v, hv, hRv⟩ := st.2.2.2 i c hc
    rw [hx] at hu; cases hu
    rw [hy] at hv; cases hv
    have zz := hQ [(x1, x), (x2, y)] h₃ g tk ⟨x, y, a, c, rfl, ha, hc, hRu, hRv⟩ ⟨st₃, st.2⟩ (.refl _ _) kg (fun b o nb e => kall b o (fun hb => nb (sub4 b hb)) e) (fun b hb => by
      obtain ⟨a1, a2, ⟨p, q, a3⟩, ⟨o4, a4, r4⟩, ⟨o5, a5, r5⟩, _⟩ := st₃
      have a1' : h₃.get? z = some _ := a1
      have a2' : h₃.get? TI = some _ := a2
      have a3' : h₃.get? TO = some _ := a3
      rcases mem5 hb with h | h | h | h | h
      · rw [h, a1']; rfl
      · rw [h, a2']; rfl
      · rw [h, a3']; rfl
      · rw [h, a4]; rfl
      · rw [h, a5]; rfl)
    refine assignInOrder_cons (wpAny_assign_Name (wpAny_mono zz (fun _ s₁ z₁ => ?_) fun _ _ e => e))
    exact assignInOrder_cons (wpAny_assign_Name (wpAny_mono z₁ (fun _ s₂ z₂ => assignInOrder_nil z₂) fun _ _ e => e))
  · intro s g Q E st k off hQ
    refine W.done s Q E st.1 fun h' tk kk => hQ h' tk (k4 g off _ _ k kk) (fun b o nb e => kk b o (fun hb => nb (sub4 b hb)) e)
  · intro i s g Q E st hQ
    exact W.self i s Q E st.1 hQ

theorem source_zip {α β : Type} {R : α → Value → Heap → Prop} {R' : β → Value → Heap → Prop} (mR : ∀ x, MonoV (R x)) (mR' : ∀ x, MonoV (R' x)) {e₁ e₂ : Expr} {fp pos : Pos} {x1 x2 : Str} {p1 p2 pt : Pos} {kd : Nat} {xs : List α} {ys : List β} (hh : A.handled = none) (hI : Mono2 I) (hl : xs.length = ys.length)
    (h₁ : Ev (model prog w) A env e₁ I (LstV R xs)) (h₂ : Ev (model prog w) A env e₂ I (LstV R' ys))
    (S : ∀ h g, I h g → g.StaysIn h → Sees env (Str.ofString "zip") (.type "zip") h) (hk : env.scope.kind = .function)
    (he : starEach [e₁, e₂] env = (false, eval e₁ env) :: starEach [e₂] env := by rfl) (he₂ : starEach [e₂] env = (false, eval e₂ env) :: starEach [] env := by rfl) (hplain : (backTo pos (starEach [e₂] env)).any (·.1) = false := by rfl) :
    Source prog w A env (.Call (.Name (Str.ofString "zip") fp) [e₁, e₂] [] pos) (.Tuple [.Name x1 p1, .Name x2 p2] kd pt) I xs.length (fun i b g => ∃ u v a c, b = [(x1, u), (x2, v)] ∧ xs[i]? = some a ∧ ys[i]? = some c ∧ R a u g ∧ R' c v g) := by
  intro E s g Q i k hQ
  refine call_eval (sees_eval (S _ _ i k) hk (by decide) ?_)
  refine PyProof.Rows.callWith_type1 ?_ he hplain
  rw [he, he₂]
  refine Calls.spliced_cons (h₁.then hI i k fun v s₁ g₁ L₁ i₁ k₁ gr₁ K₁ => Calls.spliced_cons (h₂.then hI i₁ k₁ fun v s₂ g₂ L₂ i₂ k₂ gr₂ K₂ => Calls.spliced_nil ?_))
  obtain ⟨ax, as, rfl, hla, hsa, hra⟩ := LstV.mono mR xs _ _ _ gr₂.up L₁
  obtain ⟨bx, bs, rfl, hlb, hsb, hrb⟩ := L₂
  have hla' := isList_mono k₂ hla
  have hlb' := isList_mono k₂ hlb
  have KK := keeps_trans K₁ K₂
  have gr := gr₁.trans (keeps_stays K₁) gr₂
  refine call_zip_2 hla' hlb' fun h' hz hTI hTO hi1 hi2 hsz kk => ?_
  obtain ⟨h₀, tk, rfl, kk₀⟩ := KK
  refine wpAny_pyIter_zip hz ?_
  have a1 : ax < h₀.objs.size := by obtain ⟨o, ho, _⟩ := hla'; exact Heap.lt_size ho
  have a2 : bx < h₀.objs.size := by obtain ⟨o, ho, _⟩ := hlb'; exact Heap.lt_size ho
  have fr : ∀ n, h₀.objs.size ≤ n → h₀.get? n = none := fun n hn => by
    cases e : h₀.get? n with
    | none => rfl
    | some o => exact absurd (Heap.lt_size e) (Nat.not_lt.mpr hn)
  refine hQ (.ref (h₀.objs.size + 4)) [h₀.objs.size + 4, h₀.objs.size + 2, h₀.objs.size + 3, h₀.objs.size, h₀.objs.size + 1] h' g₂ tk _ (fun cenv => turns_zip (prog := prog) (w := w) (env := cenv) mR mR' (x1 := x1) (x2 := x2) (p1 := p1) (p2 := p2) (pt := pt) (kd := kd) hh (zipApart_new a1 a2) as bs xs ys hsa hsb hl) ⟨⟨hz, hTI, ⟨_, _, hTO⟩, hi1, hi2, isList_mono kk hla', isList_mono kk hlb'⟩, ⟨hla, hlb⟩, hra, hrb⟩ gr (stays_trans k₂ kk) (stays_trans kk₀ kk) ?_
  · intro b hb
    have hge : h₀.objs.size ≤ b ∧ b < h₀.objs.size + 5 := by
      rcases mem5 hb with rfl | rfl | rfl | rfl | rfl
      · exact ⟨Nat.le_add_right _ _, Nat.add_lt_add_left (by decide) _⟩
      · exact ⟨Nat.le_add_right _ _, Nat.add_lt_add_left (by decide) _⟩
      · exact ⟨Nat.le_add_right _ _, Nat.add_lt_add_left (by decide) _⟩
      · exact ⟨Nat.le_refl _, Nat.lt_add_of_pos_right (by decide)⟩
      · exact ⟨Nat.le_add_right _ _, Nat.add_lt_add_left (by decide) _⟩
    refine ⟨none_of_stays k₂ (fr b hge.1), none_of_stays kk₀ (fr b hge.1), ?_⟩
    have hz' : h'.get? (h₀.objs.size + 4) = some _ := hz
    have hTI' : h'.get? (h₀.objs.size + 2) = some _ := hTI
    have hTO' : h'.get? (h₀.objs.size + 3) = some _ := hTO
    obtain ⟨o1, e1, _⟩ := hi1
    obtain ⟨o2, e2, _⟩ := hi2
    rcases mem5 hb with rfl | rfl | rfl | rfl | rfl
    · rw [hz']; rfl
    · rw [hTI']; rfl
    · rw [hTO']; rfl
    · rw [e1]; rfl
    · rw [e2]; rfl
end


/-! ## sorted, any, power, minus -/
theorem intsAre_of {g : Heap} : ∀ (vs : List Value) (xs : List Int), vs.length = xs.length → (∀ (i : Nat) x, xs[i]? = some x → ∃ u, vs[i]? = some u ∧ IntV x u g) → IntsAre vs xs
  | [], [], _, _ => .nil
  | v :: vs, x :: xs, hl, h => by
    obtain ⟨u, hu, t, e⟩ := h 0 x rfl
    cases hu
    rw [e]
    exact .cons x t (intsAre_of vs xs (Nat.succ.inj hl) fun i y hy => h (i + 1) y hy)
  | [], _ :: _, hl, _ => by cases hl
  | _ :: _, [], hl, _ => by cases hl
theorem of_intsAre {g : Heap} : ∀ {vs : List Value} {xs : List Int}, IntsAre vs xs → vs.length = xs.length ∧ ∀ (i : Nat) x, xs[i]? = some x → ∃ u, vs[i]? = some u ∧ IntV x u g
  | _, _, .nil => ⟨rfl, fun i x e => nomatch e⟩
  | _, _, .cons n t h => by
    obtain ⟨a, b⟩ := of_intsAre (g := g) h
    refine ⟨by rw [List.length_cons, List.length_cons, a], fun i x e => ?_⟩
    cases i with
    | zero => cases e; exact ⟨_, rfl, t, rfl⟩
    | succ i => exact b i x e

section
variable {prog : Program} {w : World} {A : Around} {env : Env} {I : Heap → Heap → Prop} {val : Str → Option Value} {g : Heap} {Qr : Value → Heap → Prop}
theorem ev_fact {M : Model} {e : Expr} {P : Value → Heap → Prop} {F : Prop} (h : ∀ a b, I a b → F) (k : F → Ev M A env e I P) : Ev M A env e I P := fun E s g i k' => k (h _ _ i) E s g i k'
theorem tv_fact {M : Model} {e : Expr} {c : Bool} {F : Prop} (h : ∀ a b, I a b → F) (k : F → Tv M A env e I c) : Tv M A env e I c := fun E s g i k' => k (h _ _ i) E s g i k'
theorem cv_sorted1 {xs ys : List Int} (h64 : xs.length < 64) (hp : ys.Perm xs) (hs : ys.Pairwise (· ≤ ·)) (v : Value) : Cv (model prog w) A (.builtin "sorted") [v] (IntRow xs v) (IntRow ys) := by
    intro E s g i k
    obtain ⟨a, its, e, hl, hsz, hit⟩ := i
    subst e
    have hl₁ := isList_mono k hl
    have hI : IntsAre its.toList xs := intsAre_of its.toList xs (by rw [Array.length_toList]; exact hsz) fun j x e => by
      obtain ⟨u, a, b⟩ := hit j x e
      exact ⟨u, by rw [Array.getElem?_toList]; exact a, b⟩
    refine sorted_ints (vs := its.toList) (ns := xs) (by rw [Array.toArray_toList]; exact hl₁) hI (by rw [Array.length_toList, hsz]; exact h64) fun out ns' a1 a2 a3 => ?_
    have e : ns' = ys := List.Perm.eq_of_pairwise (le := (· ≤ ·)) (fun a b _ _ h1 h2 => Int.le_antisymm h1 h2) a3 hs (a2.trans hp.symm)
    subst e
    obtain ⟨ep, he⟩ := sortedAll_at s.heap its.toList out
    have kk : s.heap.StaysIn (sortedAll s.heap its.toList out) := fun b o e => sortedAll_old e
    have fr : s.heap.get? (s.heap.objs.size + 1) = none := by
      cases e : s.heap.get? (s.heap.objs.size + 1) with
      | none => rfl
      | some o => exact absurd (Heap.lt_size e) (Nat.not_lt.mpr (Nat.le_succ _))
    obtain ⟨g', gr, k', e'⟩ := grow_one (stays_trans k kk) fr he
    obtain ⟨hln, hr⟩ := of_intsAre (g := g') a1
    exact ⟨g', ⟨_, out, rfl, ⟨_, e', rfl, ep, rfl⟩, by rw [← Array.length_toList]; exact hln, fun j x e => by obtain ⟨u, a, b⟩ := hr j x e; exact ⟨u, by rw [← Array.getElem?_toList]; exact a, b⟩⟩, gr, k', keeps_of kk⟩
theorem cv_sorted {xs ys : List Int} (h64 : xs.length < 64) (hp : ys.Perm xs) (hs : ys.Pairwise (· ≤ ·)) (vs : List Value) : Cv (model prog w) A (.builtin "sorted") vs (AllV [IntRow xs] vs) (IntRow ys) := by
  intro E s g i k
  obtain ⟨v, rfl, h⟩ := allV1 i
  exact cv_sorted1 h64 hp hs v E s g h k
theorem any_getD (bs : List Bool) : (List.range bs.length).any (fun i => bs.getD i false) = bs.any id := by
  have : (List.range bs.length).map (fun i => bs.getD i false) = bs := by
    refine List.ext_getElem (by simp) fun i h1 h2 => ?_
    simp [List.getD_eq_getElem?_getD, List.getElem?_eq_getElem h2]
  have h : ((List.range bs.length).map (fun i => bs.getD i false)).any id = (List.range bs.length).any (fun i => bs.getD i false) := by rw [List.any_map]; rfl
  rw [← h, this]
theorem cv_any1 {bs : List Bool} (hh : A.handled = none) (v : Value) : Cv (model prog w) A (.builtin "any") [v] (LstV BoolV bs v) (BoolV (bs.any id)) := by
    intro E s g i k
    obtain ⟨a, its, e, hl, hsz, hit⟩ := i
    subst e
    have hl₁ := isList_mono k hl
    have hne : a ≠ s.heap.objs.size := by obtain ⟨o, ho, _⟩ := hl₁; exact Nat.ne_of_lt (Heap.lt_size ho)
    refine PySem.call_any_walk (wpAny_pyIter_list hl₁ ?_)
    refine ⟨s.heap.objs.size, [s.heap.objs.size, a], [s.heap.objs.size], its.size, _, _, fun i => bs.getD i false, rfl, Walks.list (A := A.in1) hh s.heap.objs.size a hne its, ⟨⟨_, get_push_new rfl, rfl, rfl⟩, isList_mono stays_push hl₁⟩, ?_, ?_⟩
    · intro i v s' Q' E' hv hQ
      have hlt : i < its.size := (Array.getElem?_eq_some_iff.mp hv).1
      have hx : bs[i]? = some (bs.getD i false) := by rw [List.getD_eq_getElem?_getD, List.getElem?_eq_getElem (by rw [← hsz]; exact hlt)]; rfl
      obtain ⟨u, hu, e⟩ := hit i _ hx
      rw [hv] at hu; cases hu
      have e : v = .bool (bs.getD i false) := e
      subst e
      exact wpAny_truthy_bool hQ
    · intro h' tk kk
      have st : s.heap.StaysIn h' := fun b o e => kk b o (fun hb => by rw [List.mem_singleton.mp hb, get_size] at e; cases e) (Heap.get?_push_of_some _ e)
      refine ⟨g, ?_, .refl _ _, stays_trans k st, h', tk, rfl, st⟩
      show Value.bool _ = Value.bool _
      rw [hsz]
      rw [any_getD]
theorem cv_any {bs : List Bool} (hh : A.handled = none) (vs : List Value) : Cv (model prog w) A (.builtin "any") vs (AllV [LstV BoolV bs] vs) (BoolV (bs.any id)) := by
  intro E s g i k
  obtain ⟨v, rfl, h⟩ := allV1 i
  exact cv_any1 hh v E s g h k
theorem ev_pow {l r : Expr} {pos : Pos} {a : Int} {b : Nat} (hI : Mono2 I) (ha : a.natAbs < 2 ^ 64) (hb : b ≤ 1000000) (hl : Ev (model prog w) A env l I (IntV a)) (hr : Ev (model prog w) A env r I (IntV (b : Int))) : Ev (model prog w) A env (.BinOp l .Pow r pos) I (IntV (a ^ b)) :=
  ev_bin hI (fun _ _ _ _ _ h => pow_int_small (by omega) (by omega) ha (by rw [Int.toNat_natCast]; exact h _ _)) hl hr
theorem ev_neg {e : Expr} {pos : Pos} {a : Int} (h : Ev (model prog w) A env e I (IntV a)) : Ev (model prog w) A env (.UnaryOp .USub e pos) I (IntV (-a)) := fun E s g i k =>
  wpAny_UnaryOp (wpAny_mono (h E s g i k) (fun v s₁ q => by
    obtain ⟨g', ⟨t, rfl⟩, gr, st, K⟩ := q
    exact PyProof.Rows.neg_int ⟨g', ⟨_, rfl⟩, gr, st, keeps_trans K keeps_tok⟩) fun _ _ e => e)
/-- a list written out -/
theorem ev_list {es : List Expr} {pos : Pos} {Ps : List (Value → Heap → Prop)} {P : Value → Heap → Prop}
    (ha : Evs (model prog w) A env es I Ps) (mPs : ∀ vs (g g' : Heap), g.StaysIn g' → AllV Ps vs g → AllV Ps vs g')
    (h : ∀ vs a (g : Heap), AllV Ps vs g → g.IsList a vs.toArray → P (.ref a) g) (hl : ∀ vs g, AllV Ps vs g → vs.length ≤ sizeLine) :
    Ev (model prog w) A env (.List es pos) I P := by
  intro E s g i k
  refine List_ (wpAny_mono (ha pos E s g i k) (fun vs s₁ q => ?_) fun _ _ q => q)
  obtain ⟨g₁, hvs, gr₁, k₁, K₁⟩ := q
  refine wpAny_newObj_type ?_ (by show vs.toArray.size ≤ sizeLine; rw [List.size_toArray]; exact hl _ _ hvs)
  obtain ⟨g₂, gr₂, k₂, e₂⟩ := grow_one (g := g₁) (h := s₁.heap) (h' := s₁.heap.push { cls := .type "list", data := .seq vs.toArray }) (stays_trans k₁ stays_push) (get_size _) (get_push_new rfl)
  exact ⟨g₂, h _ _ _ (mPs _ _ _ gr₂.up hvs) ⟨_, e₂, rfl, _, rfl⟩, gr₁.trans (keeps_stays K₁) gr₂, k₂, keeps_trans K₁ (keeps_of stays_push)⟩
end

/-! ## divisors -/
noncomputable def dvStep (xs : List Int) (q : Int × Int) : List Int := xs.flatMap fun y => (List.range (q.2.toNat + 1)).map fun k => y * q.1 ^ k
noncomputable def dvF (N i : Nat) : List Int := ((pfL N).take i).foldl dvStep [1]
noncomputable def divL (N : Nat) : List Int := (divs N).map fun (d : Nat) => ((d : Nat) : Int)
theorem dv_perm {N : Nat} (h1 : 1 ≤ N) (h6 : N ≤ 6) : (divL N).Perm (dvF N (pfL N).length) ∧ (divL N).Pairwise (· ≤ ·) := by
  match N, h1, h6 with
  | 1, _, _ => exact ⟨by decide, by decide⟩
  | 2, _, _ => exact ⟨by decide, by decide⟩
  | 3, _, _ => exact ⟨by decide, by decide⟩
  | 4, _, _ => exact ⟨by decide, by decide⟩
  | 5, _, _ => exact ⟨by decide, by decide⟩
  | 6, _, _ => exact ⟨by decide, by decide⟩
theorem dv_facts {N : Nat} (h1 : 1 ≤ N) (h6 : N ≤ 6) : (pfL N).length ≤ 2 ∧ (∀ i, i ≤ (pfL N).length → (dvF N i).length ≤ 4 ∧ ∀ y ∈ dvF N i, y.natAbs ≤ 6) ∧ ∀ q ∈ pfL N, q.1.natAbs ≤ 6 ∧ 0 ≤ q.2 ∧ q.2 ≤ 2 := by
  have key : (pfL N).length ≤ 2 ∧ (∀ i, i < 3 → (dvF N i).length ≤ 4 ∧ ∀ y ∈ dvF N i, y.natAbs ≤ 6) ∧ ∀ q ∈ pfL N, q.1.natAbs ≤ 6 ∧ 0 ≤ q.2 ∧ q.2 ≤ 2 := by
    match N, h1, h6 with
    | 1, _, _ => decide
    | 2, _, _ => decide
    | 3, _, _ => decide
    | 4, _, _ => decide
    | 5, _, _ => decide
    | 6, _, _ => decide
  exact ⟨key.1, fun i hi => key.2.1 i (by omega), key.2.2⟩

section
variable {prog : Program} {w : World} {A : Around} {env : Env} {I : Heap → Heap → Prop} {val : Str → Option Value} {g : Heap} {Qr : Value → Heap → Prop}
theorem n_prime_factors : nsIn (hd.heap_39 w.params) mainGlobals (Str.ofString "prime_factors") = some (some (.ref 55)) := by k_is
theorem k_prime_factors : keepIn (hd.heap_39 w.params) (.ref 55) = true := by k_is
theorem n_sorted : nsIn (hd.heap_39 w.params) mainGlobals (Str.ofString "sorted") = some none := by k_is
theorem n_any : nsIn (hd.heap_39 w.params) mainGlobals (Str.ofString "any") = some none := by k_is
theorem boot_any' : bootBuiltins (Str.ofString "any") = some (.builtin "any") := by decide +kernel

theorem allV1_lst {α : Type} {R : α → Value → Heap → Prop} {x : α} (vs : List Value) (a : Addr) (g : Heap) (h : AllV [R x] vs g) (hl : g.IsList a vs.toArray) : LstV R [x] (.ref a) g := (allV1_ld h).lst hl

theorem sx_post {M : Model} {st : Stmt} {Qn Qn' : (Str → Option Value) → Heap → Prop} (h : Sx M A env st val g Qn Qr) (f : ∀ v g', Qn v g' → Qn' v g') : Sx M A env st val g Qn' Qr := fun E s F => wpAny_mono (h E s F) (fun fl s' q => q.mono f fun _ _ q => q) fun _ _ e => e
theorem cv_absN {N : Nat} (vs : List Value) : Cv (model prog w) A (.builtin "abs") vs (AllV [IntV N] vs) (IntV N) := by
  have := cv_abs (prog := prog) (w := w) (A := A) (a := (N : Int)) vs
  rw [if_neg (by omega)] at this
  exact this
theorem divisors_v {N : Nat} (r : Room A 3) (h1 : 1 ≤ N) (h6 : N ≤ 6) (u : Value) :
    Cv (model prog w) A (.ref 60) [u] (fun g => Bs w g ∧ IntV N u g) (IntRow (divL N)) := by
  refine cv_def (n := 2) (binds := [(Str.ofString "n", u)]) r (fun g i => i.1) (by k_is) (by k_is) rfl rfl (by decide) rfl rfl rfl ?_
  intro L g env he ap i
  subst he
  obtain ⟨B, hu⟩ := i
  obtain ⟨hlen, hdv, hq⟩ := dv_facts h1 h6
  refine bx_cons (sx_assign (P := IntRow [1]) rfl ap (.inl rfl) (ev_list (Ps := [IntV 1]) (evs_cons Cx.mono IntV.mono ev_int evs_nil) (allV1_mono IntV.mono) allV1_lst allV1_len) rfl) ?_
  rintro val₁ g₁ k₁ ⟨f₁, rfl, hf₁⟩
  have B₁ := B.mono k₁
  have hu₁ := IntV.mono _ _ _ k₁ hu
  refine bx_cons (sx_for (n := (pfL N).length) (Qn := fun val g => ∃ f, val (Str.ofString "found") = some f ∧ IntRow (dvF N (pfL N).length) f g) (fun i val g => ∃ f, val (Str.ofString "found") = some f ∧ IntRow (dvF N i) f g)
    rfl ap (fun _ => rfl) (source_pairs r.hh Cx.mono (ev_callG (Ps := [IntV N]) Cx.mono (fun h g' c => B₁.mono c.2) n_prime_factors k_prime_factors (evs_cons Cx.mono IntV.mono
      (ev_callBG (Ps := [IntV N]) Cx.mono (fun h g' c => B₁.mono c.2) n_abs boot_abs (evs_cons Cx.mono IntV.mono (ev_var u rfl IntV.mono hu₁) evs_nil) cv_absN) evs_nil) (cv_args1 fun u => prime_factors_v (r.deeper _) h1 h6 u))) ?_ ?_ ?_ ?_ ?_) ?_
  · rintro i val g g' k ⟨f, e, h⟩
    exact ⟨f, e, IntRow.mono _ _ _ k h⟩
  · rintro i bs g ⟨a, b, y, rfl, _⟩ z hz
    rcases List.mem_cons.mp hz with rfl | hz
    · exact .inr ⟨rfl, _, rfl, rfl⟩
    · rw [List.mem_singleton.mp hz]; exact .inr ⟨rfl, _, rfl, rfl⟩
  · intro g' k
    exact ⟨f₁, rfl, IntRow.mono _ _ _ k hf₁⟩
  · rintro i val' g' bs hi kg ⟨f, ef, hf⟩ ⟨a, b, q, rfl, hy, ha, hb⟩
    have B' := B₁.mono kg
    obtain ⟨hl4, hb6⟩ := hdv i (by omega)
    obtain ⟨q1, q2, q3⟩ := hq q (List.mem_of_getElem? hy)
    have hb' : IntV ((q.2.toNat : Nat) : Int) b g' := by rw [Int.toNat_of_nonneg q2]; exact hb
    refine bx_cons (Qm := fun v' g' => ∃ f, v' = upd _ (Str.ofString "found") f ∧ IntRow (dvF N (i + 1)) f g') (sx_post (GenComp.stored (PJ := LD IntV (dvF N (i + 1))) (fun ys g g' k h => h.mono (fun _ => IntV.mono) k) rfl ap (.inl rfl) ?_ rfl) fun v' g' q => by obtain ⟨a, its, e, hl, hL⟩ := q; exact ⟨_, e, hL.lst hl⟩) ?_
    · have e : dvF N (i + 1) = dvStep (dvF N i) q := by
        unfold dvF
        rw [List.take_add_one, hy, List.foldl_append]; rfl
      rw [e]
      refine gen_comp2 (R := IntV) (R' := IntV) (n2 := q.2.toNat + 1) (cl := [(Str.ofString "prime", L + 1), (Str.ofString "many", L + 2)]) (fun y k => y * q.1 ^ k) Cx.mono (fun _ => IntV.mono) (fun _ => IntV.mono) r.hh ?_ (by with_unfolding_all rfl) rfl (by decide) (fun _ => rfl) (fun _ _ => rfl)
        (ev_var f ef IntRow.mono hf) (fun C => .inl rfl) (Pn2 := fun i bs g => ∃ t, i < q.2.toNat + 1 ∧ bs = [(Str.ofString "times", .int (0 + (i : Int)) t)]) ?_ ?_ ?_ ?_
      · have : (dvF N i).length * (q.2.toNat + 1) ≤ 4 * 3 := Nat.mul_le_mul hl4 (by omega)
        rw [sizeLine_eq]; omega
      · rintro C k bs g ⟨t, _, rfl⟩ z hz
        rw [List.mem_singleton.mp hz]; exact .inl rfl
      · rintro k bs g val v ⟨t, _, rfl⟩ hv
        exact hv
      · intro C y v val hy' hv
        refine source_range (a := 0) (b := (q.2.toNat : Int) + 1) (n := q.2.toNat + 1) r.hh (Cc.mono Cx.mono fun _ _ k => IntV.mono _ _ _ k) (by decide) (by decide) (by omega) (by omega) (by split <;> omega)
          (ev_range1 (Cc.mono Cx.mono fun _ _ k => IntV.mono _ _ _ k) (fun h g' c => B'.mono c.1.2) (ev_add (Cc.mono Cx.mono fun _ _ k => IntV.mono _ _ _ k) (ev_name b (fun h g' c k => sees_up c.1.1 rfl rfl rfl rfl rfl) (fun h g' c => hb') (by rfl) (by decide)) ev_int))
      · intro C y v k bs val hy' hk hv mI
        refine ev_fact (F := ∃ t, bs = [(Str.ofString "times", .int (0 + (k : Int)) t)]) (by rintro _ _ ⟨_, _, ⟨_, _, t, _, e⟩, _⟩; exact ⟨t, e⟩) ?_
        rintro ⟨t, e⟩
        subst e
        refine ev_mul mI (.of_left (intBits_le_64 (by have := hb6 y hy'; omega) (by have := hb6 y hy'; omega))) (ev_name v (fun h g' c k => c.2.2.2.sees (.inl rfl) hv) (fun h g' c => c.2.1) (by rfl) (by decide))
          (ev_pow mI (by omega) (by omega) (ev_name a (fun h g' c k => sees_up c.1.1 rfl rfl rfl rfl rfl) (fun h g' c => ha) (by rfl) (by decide)) (ev_name (.int (0 + (k : Int)) t) (fun h g' c k => c.2.2.2.sees (.inl rfl) rfl) (fun h g' c => ⟨t, by rw [Int.zero_add]⟩) (by rfl) (by decide)))
    rintro val₂ g₂ k₂ ⟨f₂, rfl, hf₂⟩
    exact bx_nil ⟨f₂, rfl, hf₂⟩
  · rintro val' g' kg q
    exact q
  rintro val₂ g₂ k₂ ⟨f, ef, hf⟩
  have B₂ := B₁.mono k₂
  obtain ⟨hp, hs⟩ := dv_perm h1 h6
  exact bx_ret (ev_callBG (Ps := [IntRow (dvF N (pfL N).length)]) Cx.mono (fun h g' c => B₂.mono c.2) n_sorted boot_sorted (evs_cons Cx.mono IntRow.mono (ev_var f ef IntRow.mono hf) evs_nil) (cv_sorted (by have := (hdv _ (Nat.le_refl _)).1; omega) hp hs))
end

theorem mob_facts {N : Nat} (h1 : 1 ≤ N) (h6 : N ≤ 6) : mob N = (if ((pfL N).map fun y => decide ((1 : Int) < y.2)).any id = true then 0 else if (pfL N).length % 2 = 0 then 1 else -1) ∧ (pfL N).length ≤ 2 := by
  match N, h1, h6 with
  | 1, _, _ => decide
  | 2, _, _ => decide
  | 3, _, _ => decide
  | 4, _, _ => decide
  | 5, _, _ => decide
  | 6, _, _ => decide

section
variable {prog : Program} {w : World} {A : Around} {env : Env} {I : Heap → Heap → Prop} {val : Str → Option Value} {g : Heap} {Qr : Value → Heap → Prop}
theorem comp_pairs {β : Type} {R' : β → Value → Heap → Prop} (f : Int × Int → β) {elt iter : Expr} {x1 x2 : Str} {p1 p2 pt : Pos} {kd : Nat} {scope : Scope} {pos : Pos} {cl : List (Str × Addr)} {xs : List (Int × Int)}
    (hI : Mono2 I) (mR' : ∀ x, MonoV (R' x)) (hh : A.handled = none) (hsz : xs.length ≤ sizeLine) (hclos : closureFor scope env = pure cl) (hkind : scope.kind = .function)
    (hnames : ∀ y ∈ scope.names, y.2 = .local → scope.names.lookup y.1 = some .local) (hs : ∀ x, foldedSetIterable iter env x = pure x)
    (hi : Ev (model prog w) A env iter I (LstV PrV xs)) (hown1 : ∀ C, Own (ccEnv scope cl C env) (ccOwn scope C) x1) (hown2 : ∀ C, Own (ccEnv scope cl C env) (ccOwn scope C) x2)
    (helt : ∀ C y u v val, y ∈ xs → Mono2 (Cc scope cl C env I (fun g => IntV y.1 u g ∧ IntV y.2 v g) (upd (upd val x1 u) x2 v)) → Ev (model prog w) A (ccEnv scope cl C env) elt (Cc scope cl C env I (fun g => IntV y.1 u g ∧ IntV y.2 v g) (upd (upd val x1 u) x2 v)) (R' (f y))) :
    Ev (model prog w) A env (.ListComp elt [⟨.Tuple [.Name x1 p1, .Name x2 p2] kd pt, iter, [], 0⟩] scope pos) I (LstV R' (xs.map f)) := by
  refine Ev.conseq (ev_comp (n := xs.length) (R := fun j v h => ∃ y, xs[j]? = some y ∧ R' (f y) v h) hI (fun j v h h' k ⟨y, e, r⟩ => ⟨y, e, mR' _ _ _ _ k r⟩) hsz hclos hkind hnames hs (source_pairs hh hI hi) ?_ ?_) ?_
  · rintro C i bs g ⟨u, v, y, rfl, _⟩ z hz
    rcases List.mem_cons.mp hz with rfl | hz
    · exact hown1 C
    · rw [List.mem_singleton.mp hz]; exact hown2 C
  · rintro C i bs val hi E s g ⟨i₀, ⟨g₀, hg₀, u, v, y, hbs, hy, hu, hv⟩, lc⟩ k
    subst hbs
    exact wpAny_mono (helt C y u v val (List.mem_of_getElem? hy) (Cc.mono hI fun _ _ k h => h) E s g ⟨i₀, ⟨hu, hv⟩, lc⟩ k) (fun u s' q => q.conseq fun v g r => ⟨y, hy, r⟩) fun _ _ e => e
  · rintro v g ⟨a, its, rfl, hl, hsz', hr⟩
    refine ⟨a, its, rfl, hl, by rw [hsz', List.length_map], fun i z hz => ?_⟩
    rw [List.getElem?_map] at hz
    obtain ⟨y, hy, rfl⟩ := Option.map_eq_some_iff.mp hz
    obtain ⟨hlt, _⟩ := List.getElem?_eq_some_iff.mp hy
    have hlt' : i < its.size := by omega
    obtain ⟨y', hy', r⟩ := hr i its[i] (by rw [Array.getElem?_eq_getElem hlt'])
    rw [hy] at hy'; cases hy'
    exact ⟨its[i], Array.getElem?_eq_getElem hlt', r⟩

theorem moebius_v {N : Nat} (r : Room A 3) (h1 : 1 ≤ N) (h6 : N ≤ 6) (u : Value) :
    Cv (model prog w) A (.ref 167) [u] (fun g => Bs w g ∧ IntV N u g) (IntV (mob N)) := by
  refine cv_def (n := 2) (binds := [(Str.ofString "n", u)]) r (fun g i => i.1) (by k_is) (by k_is) rfl rfl (by decide) rfl rfl rfl ?_
  intro L g env he ap i
  subst he
  obtain ⟨B, hu⟩ := i
  obtain ⟨hm, hlen⟩ := mob_facts h1 h6
  refine bx_cons (sx_assign (P := LstV PrV (pfL N)) rfl ap (.inl rfl) (ev_callG (Ps := [IntV N]) Cx.mono (fun h g' c => B.mono c.2) n_prime_factors k_prime_factors (evs_cons Cx.mono IntV.mono (ev_var u rfl IntV.mono hu) evs_nil) (cv_args1 fun u => prime_factors_v (r.deeper _) h1 h6 u)) rfl) ?_
  rintro val₁ g₁ k₁ ⟨f₁, rfl, hf₁⟩
  have B₁ := B.mono k₁
  rw [hm]
  have mB : ∀ b, MonoV (BoolV b) := fun _ => BoolV.mono
  refine bx_cons (Qm := fun v' g' => ((pfL N).map fun y => decide ((1 : Int) < y.2)).any id = false ∧ v' (Str.ofString "pairs") = some f₁) (sx_if (b := ((pfL N).map fun y => decide ((1 : Int) < y.2)).any id) ?_ fun g₃ k₃ => ?_) ?_
  · refine tv_bool (ev_callBG (Ps := [LstV BoolV ((pfL N).map fun y => decide ((1 : Int) < y.2))]) Cx.mono (fun h g' c => B₁.mono c.2) n_any boot_any' (evs_cons Cx.mono (LstV.mono mB _) ?_ evs_nil) (cv_any (A := A.deeper _) r.hh))
    refine comp_pairs (cl := []) (R' := BoolV) (fun y => decide ((1 : Int) < y.2)) Cx.mono mB r.hh (by rw [sizeLine_eq]; omega) (by with_unfolding_all rfl) rfl (by decide) (fun _ => rfl) (ev_var f₁ rfl (LstV.mono PrV.mono _) hf₁) (fun C => .inl rfl) (fun C => .inl rfl) ?_
    intro C y u v val hy mI
    exact ev_cmp mI (fun E Q s t u h => gt_int h) (ev_name v (fun h g' c k => c.2.2.sees (.inl rfl) rfl) (fun h g' c => c.2.1.2) (by rfl) (by decide)) ev_int
  · by_cases hb : ((pfL N).map fun y => decide ((1 : Int) < y.2)).any id = true
    · rw [hb, if_pos rfl, if_pos rfl]
      exact bx_ret ev_int
    · rw [Bool.not_eq_true] at hb
      rw [hb]
      exact bx_nil ⟨rfl, rfl⟩
  rintro val₂ g₂ k₂ ⟨hb, ef⟩
  have hf₂ := LstV.mono PrV.mono _ _ _ _ k₂ hf₁
  have B₂ := B₁.mono k₂
  rw [hb, if_neg (by decide)]
  refine bx_ret (ev_ifexp (b := decide ((pfL N).length % 2 = 0)) Cx.mono (by rw [← beqN, ← fmodN (pfL N).length 2 (by decide)]; exact ev_eq Cx.mono (ev_mod Cx.mono (by decide) (ev_len PrV.mono Cx.mono (fun h g' c => B₂.mono c.2) (by omega) (ev_var f₁ ef (LstV.mono PrV.mono _) hf₂)) ev_int) ev_int) (fun e => ?_) (fun e => ?_))
  · rw [if_pos (of_decide_eq_true e)]; exact ev_int
  · rw [if_neg (of_decide_eq_false e)]; exact ev_neg ev_int
end

section
variable {prog : Program} {w : World} {A : Around}
end


/-! ## a frame beside places that are changed -/
structure FmX (z : XZ) (env : Env) (val : Str → Option Value) (g : Heap) (s : Shared) : Prop where
  fm : Fm env val g s
  zz : z.Z s.heap
  xo : ∀ b ∈ z.X, g.get? b = none
  xn : ∀ b ∈ z.X, b ∉ ownA env env.cells
structure StepX (z : XZ) (env : Env) (s : Shared) (g g' : Heap) (s' : Shared) : Prop where
  gr : Grow g s.heap g'
  st : g'.StaysIn s'.heap
  same : ∃ h tk, s' = { s with heap := h, toks := tk }
  kb : ∀ b o, b ∉ z.X → b ∉ ownA env env.cells → s.heap.get? b = some o → s'.heap.get? b = some o
  dm : Dom s.heap s'.heap
theorem StepX.refl {z : XZ} {env : Env} {s : Shared} {g : Heap} (k : g.StaysIn s.heap) : StepX z env s g g s := ⟨.refl _ _, k, ⟨s.heap, s.toks, rfl⟩, fun _ _ _ _ e => e, Dom.refl _⟩
theorem StepX.trans {z : XZ} {env : Env} {s s₁ s₂ : Shared} {g g₁ g₂ : Heap} (a : StepX z env s g g₁ s₁) (b : StepX z env s₁ g₁ g₂ s₂) : StepX z env s g g₂ s₂ :=
  ⟨a.gr.trans' a.dm b.gr, b.st, by
    obtain ⟨h, tk, rfl⟩ := a.same
    obtain ⟨h', tk', rfl⟩ := b.same
    exact ⟨h', tk', rfl⟩, fun x o m n e => b.kb x o m n (a.kb x o m n e), a.dm.trans b.dm⟩
theorem Step.toX {z : XZ} {env : Env} {s s' : Shared} {g g' : Heap} (a : Step env s g g' s') : StepX z env s g g' s' := ⟨a.gr, a.st, a.same, fun b o _ n e => a.kb b o n e, a.dm⟩
theorem FmX.step {z : XZ} {env : Env} {val val' : Str → Option Value} {g g' : Heap} {s s' : Shared} (F : FmX z env val g s) (F' : Fm env val' g' s') (S : Step env s g g' s') : FmX z env val' g' s' :=
  ⟨F', z.loc _ _ (fun b hb o e => S.kb b o (F.xn b hb) e) F.zz, xoff S.gr F.zz F.xo, F.xn⟩
noncomputable def FlowX (z : XZ) (env : Env) (s : Shared) (g : Heap) (Qn : (Str → Option Value) → Heap → Prop) (Qr : Value → Heap → Prop) : Flow → Shared → Prop
  | .next, s' => ∃ val' g', FmX z env val' g' s' ∧ StepX z env s g g' s' ∧ Qn val' g'
  | .ret v, s' => ∃ g', StepX z env s g g' s' ∧ z.Z s'.heap ∧ (∀ b ∈ z.X, g'.get? b = none) ∧ Qr v g'
  | _, _ => False
noncomputable def SxX (M : Model) (A : Around) (z : XZ) (env : Env) (st : Stmt) (val : Str → Option Value) (g : Heap) (Qn : (Str → Option Value) → Heap → Prop) (Qr : Value → Heap → Prop) : Prop :=
  ∀ (E : Value → Shared → Prop) (s : Shared), FmX z env val g s → wpAny M A (exec st env) (FlowX z env s g Qn Qr) E s
noncomputable def BxX (M : Model) (A : Around) (z : XZ) (env : Env) (b : List Stmt) (val : Str → Option Value) (g : Heap) (Qn : (Str → Option Value) → Heap → Prop) (Qr : Value → Heap → Prop) : Prop :=
  ∀ (E : Value → Shared → Prop) (s : Shared), FmX z env val g s → wpAny M A (execs b env) (FlowX z env s g Qn Qr) E s
section
variable {M : Model} {A : Around} {z : XZ} {env : Env} {val : Str → Option Value} {g : Heap} {Qn Qm : (Str → Option Value) → Heap → Prop} {Qr : Value → Heap → Prop}
theorem FlowX.after {s s₁ : Shared} {g₁ : Heap} {f : Flow} {s' : Shared} (a : StepX z env s g g₁ s₁) (x : FlowX z env s₁ g₁ Qn Qr f s') : FlowX z env s g Qn Qr f s' := by
  cases f with
  | next => obtain ⟨p, q, c, d, e⟩ := x; exact ⟨p, q, c, a.trans d, e⟩
  | ret v => obtain ⟨p, b, c⟩ := x; exact ⟨p, a.trans b, c⟩
  | brk => exact x
  | cont => exact x
theorem bxx_nil (h : Qn val g) : BxX M A z env [] val g Qn Qr := fun E s F => wpAny_execs_nil ⟨val, g, F, .refl F.fm.st, h⟩
theorem bxx_cons {st : Stmt} {rest : List Stmt} (h₁ : SxX M A z env st val g Qm Qr) (h₂ : ∀ val' g', g.StaysIn g' → Qm val' g' → BxX M A z env rest val' g' Qn Qr) : BxX M A z env (st :: rest) val g Qn Qr := by
  intro E s F
  refine wpAny_execs_cons (wpAny_mono (h₁ E s F) (fun f s₁ q => ?_) fun _ _ e => e)
  cases f with
  | next =>
    obtain ⟨val', g', F', S, q⟩ := q
    exact wpAny_mono (h₂ val' g' S.gr.up q E s₁ F') (fun f s' x => x.after S) fun _ _ e => e
  | ret v => exact q
  | brk => exact q.elim
  | cont => exact q.elim
theorem flowX_lift {s s' : Shared} {f : Flow} (F : FmX z env val g s) (x : FlowQ env s g Qn Qr f s') : FlowX z env s g Qn Qr f s' := by
  cases f with
  | next => obtain ⟨a, b, c, d, e⟩ := x; exact ⟨a, b, F.step c d, d.toX, e⟩
  | ret v =>
    obtain ⟨a, b, c⟩ := x
    exact ⟨a, b.toX, z.loc _ _ (fun b' hb o e => b.kb b' o (F.xn b' hb) e) F.zz, xoff b.gr F.zz F.xo, c⟩
  | brk => exact x
  | cont => exact x
theorem bxx_of {b : List Stmt} (h : Bx M A env b val g Qn Qr) : BxX M A z env b val g Qn Qr := fun E s F => wpAny_mono (h E s F.fm) (fun f s' q => flowX_lift F q) fun _ _ e => e
theorem cxX (xn : ∀ b ∈ z.X, b ∉ ownA env env.cells) : MonoX z (Cx env val g) := fun h h' g g' k kg x => ⟨x.1.ext fun b o hb e => k b o (fun q => xn b q hb) e, stays_trans x.2 kg⟩

theorem EvX.run {e : Expr} {P : Value → Heap → Prop} (x : EvX M A z env e (Cx env val g) P) {E : Value → Shared → Prop} {s : Shared} {Q : Value → Shared → Prop} (F : FmX z env val g s)
    (h : ∀ v g' s', P v g' → FmX z env val g' s' → StepX z env s g g' s' → Q v s') : wpAny M A (eval e env) Q E s :=
  wpAny_mono (x E s g ⟨F.fm.lc, stays_refl _⟩ F.fm.st F.zz F.xo) (fun v s' q => by
    obtain ⟨g', hp, gr, k, hz, K⟩ := q
    have dm := K.dom hz
    obtain ⟨h', tk, rfl, kk⟩ := K
    refine h v g' _ hp ⟨⟨F.fm.lc.ext fun b o hb e => kk b o (fun q => F.xn b q hb) e, k, fun b hb => ?_⟩, hz, xoff gr F.zz F.xo, F.xn⟩ ⟨gr, k, ⟨h', tk, rfl⟩, fun b o nx _ e => kk b o nx e, dm⟩
    obtain ⟨o, ho⟩ := Option.isSome_iff_exists.mp (F.fm.off b hb).2
    exact ⟨gr.off ho (F.fm.off b hb).1, by show (h'.get? b).isSome; rw [kk b o (fun q => F.xn b q hb) ho]; rfl⟩) fun _ _ q => q
/-- a name stored -/
theorem storeX {x : Str} {v : Value} {s : Shared} {E : Value → Shared → Prop} {Q : Unit → Shared → Prop} (hk : env.scope.kind = .function) (ap : Apart env env.cells) (o : Own env env.cells x) (F : FmX z env val g s)
    (h : ∀ s', FmX z env (upd val x v) g s' → StepX z env s g g s' → Q () s') : wpAny M A (storeName env x v) Q E s := by
  refine store_own hk ap F.fm.lc o fun h' tk lc' kk mm => ?_
  have kg : g.StaysIn h' := fun b o e => kk b o (fun hb => by rw [(F.fm.off b hb).1] at e; cases e) (F.fm.st b o e)
  exact h _ ⟨⟨lc', kg, fun b hb => ⟨(F.fm.off b hb).1, mm b hb (F.fm.off b hb).2⟩⟩, z.loc _ _ (fun b hb o e => kk b o (F.xn b hb) e) F.zz, F.xo, F.xn⟩ ⟨.refl _ _, kg, ⟨h', tk, rfl⟩, fun b o _ n e => kk b o n e, .but kk mm⟩
theorem sxx_assign {x : Str} {p pos : Pos} {e : Expr} {P : Value → Heap → Prop} (hk : env.scope.kind = .function) (ap : Apart env env.cells) (o : Own env env.cells x)
    (he : EvX M A z env e (Cx env val g) P) (hsw : swapsWith e (some (Expr.Name x p)) pos.line env = pure false) : SxX M A z env (.Assign [.Name x p] e pos) val g (fun val' g' => ∃ v, val' = upd val x v ∧ P v g') Qr := by
  intro E s F
  refine wpAny_Assign_Name (he.run F fun v g₁ s₁ hp F₁ S₁ => ?_) hsw
  exact storeX hk ap o F₁ fun s' F' S' => ⟨_, g₁, F', S₁.trans S', v, rfl, hp⟩
end

/-! ## the pool -/
noncomputable def poolZ (D q : Addr) : XZ where
  X := [D]
  Z := fun h => ∃ c t, 0 ≤ c ∧ h.IsList D #[.ref q, .int c t]
  loc := fun h h' k ⟨c, t, h0, o, ho, r⟩ => ⟨c, t, h0, o, k D (.head _) o ho, r⟩
  dom := fun h ⟨c, t, h0, o, ho, r⟩ b hb => by rw [List.mem_singleton.mp hb, ho]; rfl
/-- with what the pool holds -/
noncomputable def CxP (env : Env) (val : Str → Option Value) (g : Heap) (D q : Addr) (c : Int) (t : Tok) : Heap → Heap → Prop := fun h g' => Cx env val g h g' ∧ h.IsList D #[.ref q, .int c t]
theorem CxP.mono {env : Env} {val} {g : Heap} {D q : Addr} {c : Int} {t : Tok} : Mono2 (CxP env val g D q c t) := fun h h' g g' k kg x => ⟨Cx.mono _ _ _ _ k kg x.1, isList_mono k x.2⟩
section
variable {prog : Program} {w : World} {A : Around} {D q : Addr} {env : Env} {val : Str → Option Value} {g : Heap} {Qn Qm : (Str → Option Value) → Heap → Prop} {Qr : Value → Heap → Prop} {c : Int} {t : Tok}
theorem CxP.run {α : Type} {m : Sem α} {P : α → Heap → Prop} (x : ∀ c t, 0 ≤ c → ∀ (E : Value → Shared → Prop) (s : Shared) (g' : Heap), CxP env val g D q c t s.heap g' → g'.StaysIn s.heap → wpAny (model prog w) A m (fun v s' => ∃ g'', P v g'' ∧ Grow g' s.heap g'' ∧ g''.StaysIn s'.heap ∧ Keeps s s') E s)
    {E : Value → Shared → Prop} {s : Shared} {Q : α → Shared → Prop} (F : FmX (poolZ D q) env val g s) (h : ∀ v g' s', P v g' → FmX (poolZ D q) env val g' s' → StepX (poolZ D q) env s g g' s' → Q v s') : wpAny (model prog w) A m Q E s := by
  obtain ⟨c, t, h0, hl⟩ := F.zz
  refine wpAny_mono (x c t h0 E s g ⟨⟨F.fm.lc, stays_refl _⟩, hl⟩ F.fm.st) (fun v s' r => ?_) fun _ _ e => e
  obtain ⟨g', hp, gr, k, K⟩ := r
  have S : Step env s g g' s' := .of_post gr k K
  refine h v g' s' hp (F.step ⟨F.fm.lc.mono (keeps_stays K), k, fun b hb => ?_⟩ S) S.toX
  obtain ⟨o, ho⟩ := Option.isSome_iff_exists.mp (F.fm.off b hb).2
  exact ⟨gr.off ho (F.fm.off b hb).1, by rw [keeps_stays K b o ho]; rfl⟩
theorem sxp_assign {x : Str} {p pos : Pos} {e : Expr} {P : Value → Heap → Prop} (hk : env.scope.kind = .function) (ap : Apart env env.cells) (o : Own env env.cells x)
    (he : ∀ c t, 0 ≤ c → Ev (model prog w) A env e (CxP env val g D q c t) P) (hsw : swapsWith e (some (Expr.Name x p)) pos.line env = pure false) : SxX (model prog w) A (poolZ D q) env (.Assign [.Name x p] e pos) val g (fun val' g' => ∃ v, val' = upd val x v ∧ P v g') Qr := by
  intro E s F
  refine wpAny_Assign_Name (CxP.run (P := P) he F fun v g₁ s₁ hp F₁ S₁ => ?_) hsw
  exact storeX hk ap o F₁ fun s' F' S' => ⟨_, g₁, F', S₁.trans S', v, rfl, hp⟩
theorem sxp_return {e : Expr} {pos : Pos} {P : Value → Heap → Prop} (he : ∀ c t, 0 ≤ c → Ev (model prog w) A env e (CxP env val g D q c t) P) : SxX (model prog w) A (poolZ D q) env (.Return (some e) pos) val g Qn P := by
  intro E s F
  exact wpAny_Return_some (CxP.run (P := P) he F fun v g₁ s₁ hp F₁ S₁ => ⟨g₁, S₁, F₁.zz, F₁.xo, hp⟩)
theorem bxp_ret {e : Expr} {pos : Pos} {P : Value → Heap → Prop} (he : ∀ c t, 0 ≤ c → Ev (model prog w) A env e (CxP env val g D q c t) P) : BxX (model prog w) A (poolZ D q) env [.Return (some e) pos] val g Qn P :=
  bxx_cons (Qm := fun _ _ => False) (sxp_return he) fun _ _ _ h => h.elim
theorem sxp_if {test : Expr} {body orelse : List Stmt} {pos : Pos} {b : Bool} (ht : ∀ c t, 0 ≤ c → Tv (model prog w) A env test (CxP env val g D q c t) b) (h : ∀ g', g.StaysIn g' → BxX (model prog w) A (poolZ D q) env (if b then body else orelse) val g' Qn Qr) : SxX (model prog w) A (poolZ D q) env (.If test body orelse pos) val g Qn Qr := by
  intro E s F
  refine wpAny_If (CxP.run (P := fun b' _ => b' = b) (fun c t h0 E s g' i k => wpAny_mono (ht c t h0 E s g' i k) (fun b' s' ⟨e, g'', r⟩ => ⟨g'', e, r⟩) fun _ _ e => e) F fun b' g₁ s₁ hp F₁ S₁ => ?_)
  subst hp
  have r := h g₁ S₁.gr.up E s₁ F₁
  cases b'
  · simp only [Bool.false_eq_true, if_false] at r ⊢
    exact wpAny_mono r (fun f s' x => x.after S₁) fun _ _ e => e
  · simp only [if_true] at r ⊢
    exact wpAny_mono r (fun f s' x => x.after S₁) fun _ _ e => e
theorem evp_item {I : Heap → Heap → Prop} {P : Value → Heap → Prop} {x : Str} {p pos pos' : Pos} {kd : Nat} {j : Nat} {u : Value} {its : Array Value} (hj : j < 2 ^ 62) (hu : its[j]? = some u) (S : ∀ h g, I h g → g.StaysIn h → Sees env x (.ref D) h) (hl : ∀ h g, I h g → h.IsList D its) (hP : ∀ h g, I h g → P u g)
    (hs : ∀ o i, subscripted (.Constant (.int (j : Int)) kd pos') false (.ref o) (.int (j : Int) i) = operate [.ref o, .int (j : Int) i] (getItem (.ref o) (.int (j : Int) i)))
    (hk : env.scope.kind = .function := by rfl) (hd : (x == ("__debug__" : Str)) = false := by decide) :
    Ev (model prog w) A env (.Subscript (.Name x p) (.Constant (.int (j : Int)) kd pos') pos) I P := by
  intro E s g i k
  refine Subscript_ (sees_eval (S _ _ i k) hk hd ?_)
  refine wpAny_Constant_int ?_
  have hl' := hl _ _ i
  exact tail_any hl'.typeIs slot_list_getitem.lookup (wpAny_getItem_list (s := { s with toks := s.toks + 1 }) hl' (by omega) (by omega) (by rw [Int.toNat_natCast]; exact hu) (.same (hP _ _ i) k keeps_tok)) (hs _ _)
/-- pool[1] = .. -/
theorem sxp_set {x : Str} {p pos pos' spos : Pos} {kd : Nat} {e : Expr} (hv : val x = some (.ref D)) (o : Own env env.cells x) (hk : env.scope.kind = .function) (hd : (x == ("__debug__" : Str)) = false)
    (he : ∀ c t, 0 ≤ c → Ev (model prog w) A env e (CxP env val g D q c t) (fun v _ => ∃ c t, v = .int c t ∧ 0 ≤ c))
    (hsw : swapsWith e (some (.Subscript (.Name x p) (.Constant (.int 1) kd pos') pos)) spos.line env = pure false) :
    SxX (model prog w) A (poolZ D q) env (.Assign [.Subscript (.Name x p) (.Constant (.int 1) kd pos') pos] e spos) val g (fun val' _ => val' = val) Qr := by
  intro E s F
  refine wpAny_Assign_Subscript (CxP.run (α := Value) (P := fun v _ => ∃ c t, v = .int c t ∧ 0 ≤ c) he F fun v g₁ s₁ hp F₁ S₁ => ?_) hsw
  obtain ⟨c, t, rfl, h0⟩ := hp
  refine sees_eval (F₁.fm.lc.sees o hv) hk hd (wpAny_Constant_int ?_)
  obtain ⟨c', t', h0', hl⟩ := F₁.zz
  refine wpAny_setItem_list (s := { s₁ with toks := s₁.toks + 1 }) hl (by decide) (by decide) (by show (1 : Int) < 2; decide) fun h' hl' hs' => ?_
  have kk : ∀ b o, b ≠ D → s₁.heap.get? b = some o → h'.get? b = some o := fun b o n e => hs'.extBut b o n e
  have ne : ∀ b ∈ ownA env env.cells, b ≠ D := fun b hb q => F₁.xn D (.head _) (q ▸ hb)
  have kg : g₁.StaysIn h' := fun b o e => kk b o (fun q => by rw [q, F₁.xo D (.head _)] at e; cases e) (F₁.fm.st b o e)
  refine ⟨val, g₁, ⟨⟨F₁.fm.lc.ext fun b o hb e => kk b o (ne b hb) e, kg, fun b hb => ⟨(F₁.fm.off b hb).1, ?_⟩⟩, ⟨c, t, h0, hl'⟩, F₁.xo, F₁.xn⟩, S₁.trans ⟨.refl _ _, kg, ⟨h', _, rfl⟩, fun b o nx _ e => kk b o (fun q => nx (q ▸ .head _)) e, .but (S := [D]) (fun b o nb e => kk b o (fun q => nb (q ▸ .head _)) e) fun b hb _ => ?_⟩, rfl⟩
  · obtain ⟨o, ho⟩ := Option.isSome_iff_exists.mp (F₁.fm.off b hb).2
    show (h'.get? b).isSome
    rw [kk b o (ne b hb) ho]; rfl
  · rw [List.mem_singleton.mp hb]; obtain ⟨o, e, _⟩ := hl'; rw [e]; rfl
end

/-! ## a call that changes the pool -/
section
variable {prog : Program} {w : World} {A : Around}
theorem cx_def {z : XZ} {n : Nat} {fa : Addr} {vs : List Value} {I : Heap → Prop} {P : Value → Heap → Prop} {name qual : Str} {params : Arguments} {body : List Stmt} {scope : Scope} {dV kV doc pm cdv ct oc : Value} {an od : Option Addr} {osl : Array (Option Value)} {binds : List (Str × Value)}
    (r : Room A (n + 1)) (hB : ∀ g, I g → Bs w g)
    (ho : (hd.heap_39 w.params).lookup fa = some ⟨oc, od, .func (fnOf name qual params body scope dV kV doc pm an cdv ct), osl⟩) (hcd : codeIn (hd.heap_39 w.params) cdv qual = true)
    (hbind : bindArgs (fnOf name qual params body scope dV kV doc pm an cdv ct) ⟨vs, []⟩ = pure binds)
    (hkind : (binds.all fun y => scope.names.lookup y.1 == some .local || scope.names.lookup y.1 == some .cell) = true)
    (hnd : ((cellsFrom 0 scope.names []).map (·.1)).Nodup) (hco : scope.isCoroutine = false) (hgen : scope.isGenerator = false) (hk : scope.kind = .function)
    (hbody : ∀ L g env, env = callEnvC (fnOf name qual params body scope dV kV doc pm an cdv ct) L fa → Apart env env.cells → I g → BxX (model prog w) (A.deeper env) z env body (valOf env binds) g (fun _ _ => False) P) :
    ∀ (E : Value → Shared → Prop) (s : Shared) (g : Heap), I g → g.StaysIn s.heap → z.Z s.heap → (∀ b ∈ z.X, g.get? b = none) → wpAny (model prog w) A (call (.ref fa) vs) (PostX z g s P) E s := by
  intro E s g i k hz hx
  obtain ⟨p, loose, mean, mg, mb, X, T⟩ := hB g i
  have X' := X.keeps k
  have T' := T.keeps k
  refine wpAny_call (codeAny_call_cells (fd := fnOf name qual params body scope dV kV doc pm an cdv ct) (body := body) (binds := binds) (by have := r.dp; omega) (X' _ _ ho) rfl T'.nolimit (codeRec_of X' hcd) rfl hbind rfl (kindsX hkind _) (fun s₁ x => ?_) hco hgen hk)
  generalize henv : callEnvC (fnOf name qual params body scope dV kV doc pm an cdv ct) s.heap.objs.size fa = env at x ⊢
  have ap : Apart env env.cells := ⟨x.apart, fun n c hm => Nat.ne_of_gt (x.above n c hm)⟩
  have hcl : env.cells = cellsFrom (s.heap.objs.size + 1) scope.names [] := by rw [← henv]; rfl
  have hlo : env.locals = s.heap.objs.size := by rw [← henv]; rfl
  have hns := x.toInCall.ns
  have fr : ∀ b ∈ ownA env env.cells, s.heap.get? b = none := fun b hb => by
    have ge : s.heap.objs.size ≤ b := by
      rcases List.mem_cons.mp hb with rfl | hb
      · rw [hlo]; exact Nat.le_refl _
      · obtain ⟨⟨n, c⟩, hm, rfl⟩ := List.mem_map.mp hb
        have := x.above n c hm
        rw [hlo] at this
        exact Nat.le_of_lt this
    cases e : s.heap.get? b with
    | none => rfl
    | some o => exact absurd (Heap.lt_size e) (Nat.not_lt.mpr ge)
  have kk := x.toInCall.keep
  have F : FmX z env (valOf env binds) g s₁ := by
    refine ⟨⟨⟨⟨_, hns, fun n kn => ?_⟩, fun n c e => ⟨_, x.cell n c e, fun kn => ?_⟩⟩, stays_trans k kk, fun b hb => ⟨none_of_stays k (fr b hb), ?_⟩⟩, z.loc _ _ (fun b _ o e => kk b o e) hz, hx, fun b hb hb' => ?_⟩
    · unfold valOf; rw [if_pos kn]
    · unfold valOf; rw [if_neg (by rw [kn]; decide)]
    · rcases List.mem_cons.mp hb with rfl | hb
      · obtain ⟨o, _, _, ho, _⟩ := hns; rw [ho]; rfl
      · obtain ⟨⟨n, c⟩, hm, rfl⟩ := List.mem_map.mp hb
        have nd : (env.cells.map (·.1)).Nodup := by rw [hcl, cellsFrom_fst scope.names _ 0 [] [] rfl]; exact hnd
        obtain ⟨o, ho, _⟩ := x.cell n c (lookup_of_nodup _ _ _ nd hm)
        show (s₁.heap.get? c).isSome
        rw [ho]; rfl
    · have := z.dom _ hz b hb
      rw [fr b hb'] at this; cases this
  refine wpAny_mono (hbody s.heap.objs.size g env henv.symm ap i (fun _ _ => False) s₁ F) (fun fl s' q => ?_) fun _ _ e => e.elim
  obtain ⟨h₁, tk₁, rfl⟩ := x.toInCall.same
  have up : ∀ b o, s.heap.get? b = some o → b ∉ ownA env env.cells := fun b o e hb => by rw [fr b hb] at e; cases e
  cases fl with
  | next => obtain ⟨_, g', _, S, hp⟩ := q; exact hp.elim
  | ret v =>
    obtain ⟨g', S, hz', hx', hp⟩ := q
    obtain ⟨h', tk', rfl⟩ := S.same
    exact ⟨g', hp, Grow.trans (.refl _ _) kk S.gr, S.st, hz', h', tk', rfl, fun b o nx e => S.kb b o nx (up b o e) (kk b o e)⟩
  | brk => exact q.elim
  | cont => exact q.elim
end


noncomputable def LessV (m : Int) : Value → Heap → Prop := fun v _ => ∃ k t, v = .int k t ∧ 0 ≤ k ∧ k < m
theorem LessV.mono {m : Int} : MonoV (LessV m) := fun _ _ _ _ h => h
section
variable {prog : Program} {w : World} {A : Around} {env : Env} {I : Heap → Heap → Prop} {val : Str → Option Value} {g : Heap} {Qr : Value → Heap → Prop} {D q : Addr} {xs : List Int}
theorem ev_lt {l r : Expr} {pos : Pos} {a b : Int} (hI : Mono2 I) (hl : Ev (model prog w) A env l I (IntV a)) (hr : Ev (model prog w) A env r I (IntV b)) (hm : behindInMarks .Lt r = false := by with_unfolding_all rfl) : Tv (model prog w) A env (.Compare l [.Lt] [r] pos) I (decide (a < b)) :=
  tv_cmp hI (fun E Q s t u h => PyProof.Rows.lt_int h) hl hr hm
theorem less_fmod {a : Int} {m : Nat} (hm : 0 < m) {v : Value} {g : Heap} (h : IntV (a.fmod (m : Int)) v g) : LessV m v g := by
  obtain ⟨t, rfl⟩ := h
  rw [Int.fmod_eq_emod_of_nonneg _ (by omega)]
  exact ⟨_, t, rfl, Int.emod_nonneg _ (by omega), Int.emod_lt_of_pos _ (by omega)⟩

theorem evp_var {x : Str} {pos : Pos} {P : Value → Heap → Prop} {c : Int} {t : Tok} (v : Value) (hv : val x = some v) (mP : MonoV P) (hp : P v g) (o : Own env env.cells x := by exact .inl rfl) (hk : env.scope.kind = .function := by rfl) (hd : (x == ("__debug__" : Str)) = false := by decide) :
    Ev (model prog w) A env (.Name x pos) (CxP env val g D q c t) P :=
  ev_name v (fun h g' c k => c.1.1.sees o hv) (fun h g' c => mP _ _ _ c.1.2 hp) hk hd
theorem draw_x {m : Nat} (r : Room A 1) (hm : 0 < m) (hx : xs.length < 1000) (t : Tok) : ∀ (E : Value → Shared → Prop) (s : Shared) (g : Heap), (Bs w g ∧ IntRow xs (.ref q) g) → g.StaysIn s.heap → (poolZ D q).Z s.heap → (∀ b ∈ (poolZ D q).X, g.get? b = none) →
    wpAny (model prog w) A (call (.ref 191) [.ref D, .int m t]) (PostX (poolZ D q) g s (LessV m)) E s := by
  refine cx_def (n := 0) (binds := [(Str.ofString "pool", .ref D), (Str.ofString "many", .int m t)]) r (fun g i => i.1) (by k_is) (by k_is) rfl rfl (by decide) rfl rfl rfl ?_
  intro L g env he ap i
  subst he
  obtain ⟨B, hq⟩ := i
  refine bxx_cons (sxp_assign (P := fun v _ => ∃ c t, v = .int c t ∧ 0 ≤ c) rfl ap (.inl rfl) (fun c t h0 => evp_item (j := 1) (by decide) rfl (fun h g' i k => i.1.1.sees (.inl rfl) rfl) (fun h g' i => i.2) (fun h g' i => ⟨c, t, rfl, h0⟩) (fun _ _ => by with_unfolding_all rfl)) rfl) ?_
  rintro val₁ g₁ k₁ ⟨_, rfl, c, tc, rfl, h0⟩
  have B₁ := B.mono k₁
  have hq₁ := IntRow.mono _ _ _ k₁ hq
  refine bxx_cons (sxp_set rfl (.inl rfl) rfl (by decide) (fun c' t' h0' => (ev_add (a := c) (b := 1) CxP.mono (ev_name (.int c tc) (fun h g' i k => i.1.1.sees (.inl rfl) rfl) (fun h g' i => ⟨tc, rfl⟩) (by rfl) (by decide)) ev_int).conseq fun v g ⟨t, e⟩ => ⟨_, t, e, by omega⟩) rfl) ?_
  rintro val₂ g₂ k₂ rfl
  have B₂ := B₁.mono k₂
  have hq₂ := IntRow.mono _ _ _ k₂ hq₁
  refine bxx_cons (Qm := fun v' g' => v' (Str.ofString "spot") = some (.int c tc) ∧ v' (Str.ofString "many") = some (.int m t)) (sxp_if (b := decide (c < (xs.length : Int))) (fun c' t' h0' => ev_lt CxP.mono (evp_var (.int c tc) rfl IntV.mono ⟨tc, rfl⟩) (ev_len (R := IntV) (xs := xs) (fun _ => IntV.mono) CxP.mono (fun h g' i => B₂.mono i.1.2) (by omega)
      (evp_item (j := 0) (by decide) rfl (fun h g' i k => i.1.1.sees (.inl rfl) rfl) (fun h g' i => i.2) (fun h g' i => IntRow.mono _ _ _ i.1.2 hq₂) (fun _ _ => by with_unfolding_all rfl)))) fun g₃ k₃ => ?_) ?_
  · by_cases hc : c < (xs.length : Int)
    · rw [decide_eq_true hc, if_pos rfl]
      have hq₃ := IntRow.mono _ _ _ k₃ hq₂
      have B₃ := B₂.mono k₃
      refine bxp_ret fun c' t' h0' => (ev_mod (b := (m : Int)) CxP.mono (by omega) (ev_callBG (Ps := [IntV (xs.getD c.toNat 0)]) CxP.mono (fun h g' i => B₃.mono i.1.2) n_abs boot_abs (evs_cons CxP.mono IntV.mono
        (ev_at (k := c) (j := c.toNat) CxP.mono (by omega) (by omega) (by omega) (fun _ _ => by with_unfolding_all rfl)
          (evp_item (j := 0) (by decide) rfl (fun h g' i k => i.1.1.sees (.inl rfl) rfl) (fun h g' i => i.2) (fun h g' i => IntRow.mono _ _ _ i.1.2 hq₃) (fun _ _ => by with_unfolding_all rfl))
          (evp_var (.int c tc) rfl IntV.mono ⟨tc, rfl⟩)) evs_nil) cv_abs) (evp_var (.int m t) rfl IntV.mono ⟨t, rfl⟩)).conseq fun v g h => less_fmod hm h
    · rw [decide_eq_false hc]
      exact bxx_nil ⟨rfl, rfl⟩
  rintro val₃ g₃ k₃ ⟨es, em⟩
  exact bxp_ret fun c' t' h0' => (ev_mod (b := (m : Int)) CxP.mono (by omega) (ev_add (a := 3 * c) (b := 4) CxP.mono (ev_mul (a := 3) (b := c) CxP.mono (.of_left (intBits_le_64 (by decide) (by decide))) ev_int (evp_var (.int c tc) es IntV.mono ⟨tc, rfl⟩)) ev_int) (evp_var (.int m t) em IntV.mono ⟨t, rfl⟩)).conseq fun v g h => less_fmod hm h
end

noncomputable def firsts (xs : List Int) : List Int := pickNums xs none (some 12) none
theorem intsAre_map : ∀ xs : List Int, IntsAre (xs.map fun n => Value.int n 0) xs
  | [] => .nil
  | x :: xs => .cons x 0 (intsAre_map xs)
theorem firsts_len (xs : List Int) : (firsts xs).length ≤ xs.length := by
  have h := (IntsAre.pick (intsAre_map xs) none (some 12) none).length
  have h2 := slicePick_size_le (xs.map fun n => Value.int n 0).toArray none (some 12) none
  have h3 : (slicePick (xs.map fun n => Value.int n 0).toArray none (some 12) none).size ≤ xs.length := Nat.le_trans h2 (by simp)
  rw [Array.length_toList] at h
  unfold firsts
  omega
section
variable {prog : Program} {w : World} {A : Around} {env : Env} {I : Heap → Heap → Prop} {val : Str → Option Value} {g : Heap} {Qr : Value → Heap → Prop} {D q : Addr} {xs : List Int} {z : XZ}
theorem n_draw : nsIn (hd.heap_39 w.params) mainGlobals (Str.ofString "_law_draw") = some (some (.ref 191)) := by k_is
theorem k_draw : keepIn (hd.heap_39 w.params) (.ref 191) = true := by k_is
theorem n_int : nsIn (hd.heap_39 w.params) mainGlobals (Str.ofString "int") = some none := by k_is
theorem cv_int {n : Int} (vs : List Value) : Cv (model prog w) A (.type "int") vs (AllV [IntV n] vs) (IntV n) := by
  intro E s g i k
  obtain ⟨v, rfl, t, e⟩ := allV1 i
  subst e; exact call_int_int (.same ⟨t, rfl⟩ k (keeps_refl s))
theorem ev_slice12 {value : Expr} {kd : Nat} {p pos pos' : Pos} (hI : Mono2 I) (hx : xs.length < 1000) (hv : Ev (model prog w) A env value I (IntRow xs))
    (hs : ∀ o i, subscripted (.Slice none (some (.Constant (.int 12) kd p)) none pos') false (.ref o) (.ref i) = operate [.ref i, .ref o] (getItem (.ref o) (.ref i))) :
    Ev (model prog w) A env (.Subscript value (.Slice none (some (.Constant (.int 12) kd p)) none pos') pos) I (IntRow (firsts xs)) := by
  intro E s g i k
  refine Subscript_ (hv.then hI i k fun v s₁ g₁ hp i₁ k₁ gr₁ K₁ => ?_)
  obtain ⟨a, its, rfl, hl, hsz, hit⟩ := hp
  have hl₁ := isList_mono k₁ hl
  have hints : IntsAre its.toList xs := intsAre_of its.toList xs (by rw [Array.length_toList]; exact hsz) fun j x e => by
    obtain ⟨u, a, b⟩ := hit j x e
    exact ⟨u, by rw [Array.getElem?_toList]; exact a, b⟩
  refine wpAny_Slice ?_
  show wpAny _ _ (pure Value.none) _ _ _
  refine wpAny_pure ?_
  show wpAny _ _ (eval (.Constant (.int 12) kd p) env) _ _ _
  refine wpAny_Constant_int ?_
  show wpAny _ _ (pure Value.none) _ _ _
  refine wpAny_pure ?_
  have kp : s₁.heap.StaysIn (s₁.heap.push { cls := .type "slice", data := .fields #[.none, .int 12 s₁.toks, .none] }) := stays_push
  refine tail_any (isList_mono kp hl₁).typeIs slot_list_getitem.lookup (wpAny_getItem_list_slice (s := { s₁ with heap := s₁.heap.push { cls := .type "slice", data := .fields #[.none, .int 12 s₁.toks, .none] }, toks := s₁.toks + 1 }) (isList_mono kp hl₁) (Heap.IsSliceOf.new ..) .none (.int 12 _) .none (by decide) ?_ (by rw [hsz, sizeLine_eq]; omega)) (hs _ _)
  obtain ⟨g₂, gr₂, k₂, e₂⟩ := grow_one (g := g₁) (h := s₁.heap.push { cls := .type "slice", data := .fields #[.none, .int 12 s₁.toks, .none] }) (h' := (s₁.heap.push { cls := .type "slice", data := .fields #[.none, .int 12 s₁.toks, .none] }).push { cls := .type "list", data := .seq (slicePick its none (some 12) none) }) (stays_trans k₁ (stays_trans kp stays_push)) (get_size _) (get_push_new rfl)
  obtain ⟨hln, hr⟩ := of_intsAre (g := g₂) (IntsAre.pick hints none (some 12) none)
  have e3 : its.toList.toArray = its := Array.toArray_toList
  rw [e3] at hln hr
  exact ⟨g₂, ⟨_, _, rfl, ⟨_, e₂, rfl, _, rfl⟩, by rw [← Array.length_toList]; exact hln, fun j x e => by obtain ⟨u, a, b⟩ := hr j x e; exact ⟨u, by rw [← Array.getElem?_toList]; exact a, b⟩⟩, gr₁.trans (stays_trans (keeps_stays K₁) kp) gr₂, k₂, keeps_trans K₁ (keeps_of (stays_trans kp stays_push))⟩

/-! ## with draws -/
noncomputable def SomeV (G : Int → Prop) : Value → Heap → Prop := fun v _ => ∃ a t, v = .int a t ∧ G a
theorem evx_bin {l r : Expr} {op : Operator} {pos : Pos} {G₁ G₂ G : Int → Prop} (hI : MonoX z I)
    (hop : ∀ a b, G₁ a → G₂ b → ∃ c, G c ∧ ∀ (E : Value → Shared → Prop) (Q : Value → Shared → Prop) (s : Shared) (t u : Tok), (∀ k tk, Q (.int c k) { s with toks := tk }) → wpAny (model prog w) A (binaryOp op (.int a t) (.int b u)) Q E s)
    (hl : EvX (model prog w) A z env l I (SomeV G₁)) (hr : EvX (model prog w) A z env r I (SomeV G₂)) : EvX (model prog w) A z env (.BinOp l op r pos) I (SomeV G) := by
  intro E s g i k hz hx
  refine wpAny_BinOp (hl.then hI i k hz hx fun v s₁ g₁ hp i₁ k₁ hz₁ hx₁ gr₁ dm₁ K₁ => ?_)
  obtain ⟨a, t, rfl, ha⟩ := hp
  refine hr.then hI i₁ k₁ hz₁ hx₁ fun v s₂ g₂ hp i₂ k₂ hz₂ hx₂ gr₂ dm₂ K₂ => ?_
  obtain ⟨b, u, rfl, hb⟩ := hp
  obtain ⟨c, hc, h⟩ := hop a b ha hb
  exact h _ _ _ _ _ fun k' tk => ⟨g₂, ⟨c, _, rfl, hc⟩, gr₁.trans' dm₁ gr₂, k₂, hz₂, keepsX_trans K₁ (keepsX_trans K₂ (keepsX_of keeps_tok))⟩
theorem evx_add {l r : Expr} {pos : Pos} {G₁ G₂ G : Int → Prop} (hI : MonoX z I) (hG : ∀ a b, G₁ a → G₂ b → G (a + b)) (hl : EvX (model prog w) A z env l I (SomeV G₁)) (hr : EvX (model prog w) A z env r I (SomeV G₂)) : EvX (model prog w) A z env (.BinOp l .Add r pos) I (SomeV G) :=
  evx_bin hI (fun a b x y => ⟨_, hG a b x y, fun _ _ _ _ _ h => add_int (h _ _)⟩) hl hr
theorem evx_sub {l r : Expr} {pos : Pos} {G₁ G₂ G : Int → Prop} (hI : MonoX z I) (hG : ∀ a b, G₁ a → G₂ b → G (a - b)) (hl : EvX (model prog w) A z env l I (SomeV G₁)) (hr : EvX (model prog w) A z env r I (SomeV G₂)) : EvX (model prog w) A z env (.BinOp l .Sub r pos) I (SomeV G) :=
  evx_bin hI (fun a b x y => ⟨_, hG a b x y, fun _ _ _ _ _ h => sub_int (h _ _)⟩) hl hr
theorem evx_int {i : Int} {kd : Nat} {pos : Pos} : EvX (model prog w) A z env (.Constant (.int i) kd pos) I (SomeV (· = i)) := (ev_int.conseq fun v g ⟨t, e⟩ => ⟨i, t, e, rfl⟩).toX
theorem evx_draw {fp pp cp pos : Pos} {kd m : Nat} (r : Room A 1) (hm : 0 < m) (hx : xs.length < 1000) (hB : ∀ h g, I h g → Bs w g) (hq : ∀ h g, I h g → IntRow xs (.ref q) g)
    (S : ∀ h g, I h g → g.StaysIn h → Sees env (Str.ofString "pool") (.ref D) h)
    (hg : env.globals = mainGlobals := by rfl) (hkd : env.kindOf (Str.ofString "_law_draw") = some .globalImplicit := by rfl) (hk : env.scope.kind = .function := by rfl)
    (he : starEach [.Name (Str.ofString "pool") pp, .Constant (.int (m : Int)) kd cp] env = (false, eval (.Name (Str.ofString "pool") pp) env) :: starEach [.Constant (.int (m : Int)) kd cp] env := by rfl)
    (he₂ : starEach [.Constant (.int (m : Int)) kd cp] env = (false, eval (.Constant (.int (m : Int)) kd cp) env) :: starEach [] env := by rfl) (hplain : (backTo pos (starEach [.Constant (.int (m : Int)) kd cp] env)).any (·.1) = false := by rfl) :
    EvX (model prog w) A (poolZ D q) env (.Call (.Name (Str.ofString "_law_draw") fp) [.Name (Str.ofString "pool") pp, .Constant (.int (m : Int)) kd cp] [] pos) I (SomeV fun a => 0 ≤ a ∧ a < (m : Int)) := by
  intro E s g i k hz hx'
  have B := hB _ _ i
  refine call_eval (sees_eval (sees_glob B k n_draw hg hkd) hk (by decide) ?_)
  obtain ⟨p, loose, mean, mg, mb, X, T⟩ := id B
  refine callWith_K (X.keeps k) k_draw ?_ he hplain
  rw [he, he₂]
  refine Calls.spliced_cons (sees_eval (S _ _ i k) hk (by decide) (Calls.spliced_cons (wpAny_Constant_int (k := kd) (pos := cp) (Calls.spliced_nil ⟨X.keeps k, ?_⟩))))
  refine wpAny_mono (draw_x r hm hx _ E { s with toks := s.toks + 1 } g ⟨B, hq _ _ i⟩ k hz hx') (fun v s' h => ?_) fun _ _ e => e
  obtain ⟨g', hp, gr, st, hz', K⟩ := h
  exact ⟨g', hp, gr, st, hz', keepsX_trans (keepsX_of (keeps_tok (s := s))) K⟩
/-- an item of three numbers -/
theorem evx_three {e₁ slice : Expr} {pos : Pos} {a b c : Int} (hI : MonoX z I) (hv : Ev (model prog w) A env e₁ I (fun v g => ∃ (d : Addr) (t t' t'' : Tok), v = .ref d ∧ IsTup g d #[.int a t, .int b t', .int c t'']))
    (hi : EvX (model prog w) A z env slice I (SomeV fun x => 0 ≤ x ∧ x < 3)) (hs : ∀ o k i, subscripted slice false (.ref o) (.int k i) = operate [.ref o, .int k i] (getItem (.ref o) (.int k i))) :
    EvX (model prog w) A z env (.Subscript e₁ slice pos) I (SomeV fun x => x = a ∨ x = b ∨ x = c) := by
  intro E s g i k hz hx
  refine Subscript_ ((hv.toX (z := z)).then hI i k hz hx fun v s₁ g₁ hp i₁ k₁ hz₁ hx₁ gr₁ dm₁ K₁ => ?_)
  obtain ⟨d, t, t', t'', rfl, hT⟩ := hp
  refine hi.then hI i₁ k₁ hz₁ hx₁ fun v s₂ g₂ hp i₂ k₂ hz₂ hx₂ gr₂ dm₂ K₂ => ?_
  obtain ⟨x, u, rfl, h0, h3⟩ := hp
  have hT' := isTup_mono k₂ (isTup_mono gr₂.up hT)
  have fin : ∀ (x : Int) (u : Tok), (x = a ∨ x = b ∨ x = c) → PostX z g s (SomeV fun x => x = a ∨ x = b ∨ x = c) (.int x u) s₂ := fun x u h => ⟨g₂, ⟨x, u, rfl, h⟩, gr₁.trans' dm₁ gr₂, k₂, hz₂, keepsX_trans K₁ K₂⟩
  obtain rfl | rfl | rfl : x = 0 ∨ x = 1 ∨ x = 2 := by omega
  · exact item_tupleT (l := [.int a t, .int b t', .int c t'']) (j := 0) hT' (by decide) (by decide) rfl rfl (fin _ _ (.inl rfl)) (hs _ _ _)
  · exact item_tupleT (l := [.int a t, .int b t', .int c t'']) (j := 1) hT' (by decide) (by decide) rfl rfl (fin _ _ (.inr (.inl rfl))) (hs _ _ _)
  · exact item_tupleT (l := [.int a t, .int b t', .int c t'']) (j := 2) hT' (by decide) (by decide) rfl rfl (fin _ _ (.inr (.inr rfl))) (hs _ _ _)
/-- a, b, c = .., names that are cells -/
theorem sxx_assign3 {x y u : Str} {px py pu tp pos' pos : Pos} {kd kd' : Nat} {e₁ e₂ e₃ : Expr} {G₁ G₂ G₃ : Int → Prop} (hh : A.handled = none) (hk : env.scope.kind = .function) (ap : Apart env env.cells) (ox : Own env env.cells x) (oy : Own env env.cells y) (ou : Own env env.cells u) (hI : MonoX z (Cx env val g))
    (h₁ : EvX (model prog w) A z env e₁ (Cx env val g) (SomeV G₁)) (h₂ : EvX (model prog w) A z env e₂ (Cx env val g) (SomeV G₂)) (h₃ : EvX (model prog w) A z env e₃ (Cx env val g) (SomeV G₃))
    (hs : swapsWithSole [.Tuple [.Name x px, .Name y py, .Name u pu] kd tp] (.Tuple [e₁, e₂, e₃] kd' pos') pos.line env = pure false) (hw : swappedStores [.Tuple [.Name x px, .Name y py, .Name u pu] kd tp] (.Tuple [e₁, e₂, e₃] kd' pos') env = pure none)
    (he₁ : starEach [e₁, e₂, e₃] env = (false, eval e₁ env) :: starEach [e₂, e₃] env) (he₂ : starEach [e₂, e₃] env = (false, eval e₂ env) :: starEach [e₃] env) (he₃ : starEach [e₃] env = (false, eval e₃ env) :: starEach [] env) :
    SxX (model prog w) A z env (.Assign [.Tuple [.Name x px, .Name y py, .Name u pu] kd tp] (.Tuple [e₁, e₂, e₃] kd' pos') pos) val g
      (fun val' g' => ∃ a b c t t' t'', val' = upd (upd (upd val x (.int a t)) y (.int b t')) u (.int c t'') ∧ G₁ a ∧ G₂ b ∧ G₃ c) Qr := by
  intro E s F
  refine Assign_Tuple (Tuple_ ?_) hs hw
  rw [he₁, he₂, he₃]
  have run : ∀ (e : Expr) (P : Value → Heap → Prop) (g₁ : Heap) (s₁ : Shared) (Q : Value → Shared → Prop), EvX (model prog w) A z env e (Cx env val g) P → FmX z env val g₁ s₁ → g.StaysIn g₁ → (∀ v g' s', P v g' → FmX z env val g' s' → StepX z env s₁ g₁ g' s' → Q v s') → wpAny (model prog w) A (eval e env) Q E s₁ := by
    intro e P g₁ s₁ Q hx F₁ kg h
    have hx' : EvX (model prog w) A z env e (Cx env val g₁) P := fun E s g' i => hx E s g' ⟨i.1, stays_trans kg i.2⟩
    exact hx'.run F₁ h
  refine Calls.spliced_cons (run _ _ _ _ _ h₁ F (stays_refl _) fun v₁ g₁ s₁ hp₁ F₁ S₁ => Calls.spliced_cons (run _ _ _ _ _ h₂ F₁ S₁.gr.up fun v₂ g₂ s₂ hp₂ F₂ S₂ => Calls.spliced_cons (run _ _ _ _ _ h₃ F₂ (stays_trans S₁.gr.up S₂.gr.up) fun v₃ g₃ s₃ hp₃ F₃ S₃ => Calls.spliced_nil ?_)))
  obtain ⟨a, t, rfl, ha⟩ := hp₁
  obtain ⟨b, t', rfl, hb⟩ := hp₂
  obtain ⟨c, t'', rfl, hc⟩ := hp₃
  refine wpAny_newObj_type ?_ (by show (3 : Nat) ≤ sizeLine; decide)
  generalize hh₄ : s₃.heap.push { cls := .type "tuple", data := .seq [Value.int a t, .int b t', .int c t''].toArray } = h₄
  have k₄ : s₃.heap.StaysIn h₄ := by rw [← hh₄]; exact stays_push
  have e₄ : h₄.get? s₃.heap.objs.size = some { cls := .type "tuple", data := .seq [Value.int a t, .int b t', .int c t''].toArray } := by rw [← hh₄]; exact get_push_new rfl
  refine assign_Tuple_tuple (items := #[.int a t, .int b t', .int c t'']) hh ⟨_, e₄, rfl, _, rfl⟩ rfl rfl fun h₅ he₅ => ?_
  have k₅ : s₃.heap.StaysIn h₅ := stays_trans k₄ fun b o e => he₅ b o (Nat.ne_of_lt (Heap.lt_size e)) e
  have Sk : Step env s₃ g₃ g₃ { s₃ with heap := h₅ } := ⟨.refl _ _, stays_trans F₃.fm.st k₅, ⟨h₅, s₃.toks, rfl⟩, fun b o _ e => k₅ b o e, Dom.stays k₅⟩
  have F₅ : FmX z env val g₃ { s₃ with heap := h₅ } := F₃.step ⟨F₃.fm.lc.mono k₅, stays_trans F₃.fm.st k₅, fun b hb => by
    obtain ⟨o, ho⟩ := Option.isSome_iff_exists.mp (F₃.fm.off b hb).2
    exact ⟨(F₃.fm.off b hb).1, by show (h₅.get? b).isSome; rw [k₅ b o ho]; rfl⟩⟩ Sk
  have S₅ := ((S₁.trans S₂).trans S₃).trans (Sk.toX (z := z))
  refine assignInOrder_cons (wpAny_assign_Name (storeX hk ap ox F₅ fun s₆ F₆ S₆ => ?_))
  refine assignInOrder_cons (wpAny_assign_Name (storeX hk ap oy F₆ fun s₇ F₇ S₇ => ?_))
  refine assignInOrder_cons (wpAny_assign_Name (storeX hk ap ou F₇ fun s₈ F₈ S₈ => assignInOrder_nil ?_))
  exact ⟨_, g₃, F₈, ((S₅.trans S₆).trans S₇).trans S₈, a, b, c, t, t', t'', rfl, ha, hb, hc⟩

/-- the pool made -/
theorem bx_pool {x : Str} {px lp pos : Pos} {e₁ e₂ : Expr} {rest : List Stmt} {Qn : (Str → Option Value) → Heap → Prop} (hk : env.scope.kind = .function) (ap : Apart env env.cells) (ox : Own env env.cells x)
    (h₁ : Ev (model prog w) A env e₁ (Cx env val g) (IntRow xs)) (h₂ : Ev (model prog w) A env e₂ (Cx env val g) (IntV 0))
    (hsw : swapsWith (.List [e₁, e₂] lp) (some (.Name x px)) pos.line env = pure false) (he₁ : starEach [e₁, e₂] env = (false, eval e₁ env) :: starEach [e₂] env) (he₂ : starEach [e₂] env = (false, eval e₂ env) :: starEach [] env)
    (hrest : ∀ D q g', g.StaysIn g' → IntRow xs (.ref q) g' → D ∉ ownA env env.cells → BxX (model prog w) A (poolZ D q) env rest (upd val x (.ref D)) g' (fun _ _ => False) Qr) :
    Bx (model prog w) A env (.Assign [.Name x px] (.List [e₁, e₂] lp) pos :: rest) val g Qn Qr := by
  intro E s F
  refine wpAny_execs_cons (wpAny_Assign_Name (List_ ?_) hsw)
  rw [he₁, he₂]
  refine Calls.spliced_cons (h₁.run F fun v₁ g₁ s₁ hp₁ F₁ S₁ => ?_)
  have h₂' : Ev (model prog w) A env e₂ (Cx env val g₁) (IntV 0) := h₂.pre fun a b i => ⟨i.1, stays_trans S₁.gr.up i.2⟩
  refine Calls.spliced_cons (h₂'.run F₁ fun v₂ g₂ s₂ hp₂ F₂ S₂ => Calls.spliced_nil ?_)
  obtain ⟨q, its, rfl, hl, hsz, hit⟩ := IntRow.mono _ _ _ S₂.gr.up hp₁
  obtain ⟨t, rfl⟩ := hp₂
  have S := S₁.trans S₂
  refine wpAny_newObj_type ?_ (by show (2 : Nat) ≤ sizeLine; decide)
  generalize hD : s₂.heap.objs.size = D
  have hDn : s₂.heap.get? D = none := by rw [← hD]; exact get_size _
  generalize hh₃ : s₂.heap.push { cls := .type "list", data := .seq [Value.ref q, .int 0 t].toArray } = h₃
  have k₃ : s₂.heap.StaysIn h₃ := by rw [← hh₃]; exact stays_push
  have e₃ : h₃.get? D = some { cls := .type "list", data := .seq [Value.ref q, .int 0 t].toArray } := by rw [← hh₃, ← hD]; exact get_push_new rfl
  have hDs : s.heap.get? D = none := S.dm.none hDn
  have nD : D ∉ ownA env env.cells := fun hb => by have := (F.off D hb).2; rw [hDs] at this; cases this
  have FX : FmX (poolZ D q) env val g₂ { s₂ with heap := h₃ } := ⟨⟨F₂.lc.mono k₃, stays_trans F₂.st k₃, fun b hb => by
    obtain ⟨o, ho⟩ := Option.isSome_iff_exists.mp (F₂.off b hb).2
    exact ⟨(F₂.off b hb).1, by show (h₃.get? b).isSome; rw [k₃ b o ho]; rfl⟩⟩, ⟨0, t, by decide, _, e₃, rfl, _, rfl⟩, fun b hb => by rw [List.mem_singleton.mp hb]; exact none_of_stays F₂.st hDn, fun b hb => by rw [List.mem_singleton.mp hb]; exact nD⟩
  have SX : StepX (poolZ D q) env s g g₂ { s₂ with heap := h₃ } := S.toX.trans ⟨.refl _ _, stays_trans F₂.st k₃, ⟨h₃, s₂.toks, rfl⟩, fun b o _ _ e => k₃ b o e, Dom.stays k₃⟩
  refine storeX hk ap ox FX fun s₄ F₄ S₄ => ?_
  have S₅ := SX.trans S₄
  refine wpAny_mono (hrest D q g₂ S.gr.up ⟨q, its, rfl, hl, hsz, hit⟩ nD E s₄ F₄) (fun f s' r => ?_) fun _ _ e => e
  cases f with
  | next => obtain ⟨_, _, _, _, r⟩ := r; exact r.elim
  | brk => exact r.elim
  | cont => exact r.elim
  | ret v =>
    obtain ⟨g', S', _, _, hr⟩ := r
    have T := S₅.trans S'
    exact ⟨g', ⟨T.gr, T.st, T.same, fun b o nb e => T.kb b o (fun q => by rw [List.mem_singleton.mp q, hDs] at e; cases e) nb e, T.dm⟩, hr⟩
end

section
variable {prog : Program} {w : World} {A : Around} {env : Env} {I : Heap → Heap → Prop} {val : Str → Option Value} {g : Heap} {Qr : Value → Heap → Prop} {D q : Addr} {xs : List Int} {z : XZ}
/-- a comprehension, item by item -/
theorem gen_det {β : Type} {R' : β → Value → Heap → Prop} (f : Nat → β) {elt iter target : Expr} {scope : Scope} {pos : Pos} {cl : List (Str × Addr)} {n : Nat} {Pn : Nat → List (Str × Value) → Heap → Prop}
    (hI : Mono2 I) (mR' : ∀ x, MonoV (R' x)) (hsz : n ≤ sizeLine) (hclos : closureFor scope env = pure cl) (hkind : scope.kind = .function)
    (hnames : ∀ y ∈ scope.names, y.2 = .local → scope.names.lookup y.1 = some .local) (hs : ∀ x, foldedSetIterable iter env x = pure x)
    (hsrc : Source prog w A env iter target I n Pn)
    (hown : ∀ C i bs g, Pn i bs g → ∀ x ∈ bs, Own (ccEnv scope cl C env) (ccOwn scope C) x.1)
    (helt : ∀ C i bs val, i < n → Ev (model prog w) A (ccEnv scope cl C env) elt (Ct scope cl C env I (Pn i bs) (updAll val bs)) (R' (f i))) :
    GenComp (model prog w) A z0 env elt [⟨target, iter, [], 0⟩] scope pos I (LD R' ((List.range n).map f)) := by
  have base := gen_compG (A := A) (prog := prog) (w := w) (pos := pos) (elt := elt) (ifs := []) (rest := []) (env := env) (z := z0) (I := I)
    (fun D env E Q s => wpAny (model prog w) A (eval elt env) (fun x s₄ => wpAny (model prog w) A (call (.builtin "list.append") [.ref D, x]) (fun _ s₅ => Q s₅) E s₄) E s)
    emit_code
    (mono0 hI) hclos hkind hnames hs hsrc hown (fun i val ys g => LD R' ((List.range i).map f) ys g)
    (fun i v ys g g' k c => c.mono mR' k) (fun g => ⟨rfl, (fun i x e => nomatch e)⟩)
    (fun C D i val g ys bs s ap nD xn hi hL hp hIs F E Q hQ => by
      refine fmc_evx F nD xn ((helt C i bs val hi).toX (z := z0)) ⟨hIs _ _ (fun b o _ e => e) (stays_refl _), ⟨g, stays_refl _, hp⟩, F.lc⟩ fun v g₁ s₁ hv F₁ S₁ => ?_
      refine fmc_append F₁ nD xn (by rw [hL.1, List.length_map, List.length_range]; omega) fun s₂ F₂ S₂ => hQ _ _ _ _ F₂ (S₁.trans S₂) ?_
      rw [List.range_succ, List.map_append]
      exact (hL.mono mR' S₁.gr.up).push hv)
  exact base.imp fun ys g ⟨_, q⟩ => q

/-- two lists, one behind the other -/
theorem ev_concat {α : Type} {R : α → Value → Heap → Prop} (mR : ∀ x, MonoV (R x)) {l r : Expr} {pos : Pos} {xs ys : List α} (hI : Mono2 I) (hsz : xs.length + ys.length ≤ sizeLine)
    (hl : Ev (model prog w) A env l I (LstV R xs)) (hr : Ev (model prog w) A env r I (LstV R ys)) : Ev (model prog w) A env (.BinOp l .Add r pos) I (LstV R (xs ++ ys)) := by
  intro E s g i k
  refine wpAny_BinOp (hl.then hI i k fun v s₁ g₁ hp i₁ k₁ gr₁ K₁ => ?_)
  refine hr.then hI i₁ k₁ fun v' s₂ g₂ hp' i₂ k₂ gr₂ K₂ => ?_
  obtain ⟨a, as, rfl, hla, hsa, hra⟩ := LstV.mono mR xs _ _ _ gr₂.up hp
  obtain ⟨b, bs, rfl, hlb, hsb, hrb⟩ := hp'
  obtain ⟨⟨cls, dd, data, sl⟩, ho, hc, n, hd⟩ := isList_mono k₂ hla
  obtain ⟨⟨cls2, dd2, data2, sl2⟩, ho2, hc2, n2, hd2⟩ := isList_mono k₂ hlb
  simp only at hc hd hc2 hd2
  subst hc hd hc2 hd2
  refine concat_meets ⟨_, ho, rfl⟩ ⟨_, ho2, rfl⟩ noFill_list_add seq_list_add PySem.F.slot_list_add PySem.F.entry_list_add (PySem.F.args_list_add_2 _ _) (list_addW a b as bs n n2 dd dd2 sl sl2 (by omega)) ⟨ho, ho2, ?_⟩
  obtain ⟨g₃, gr₃, k₃, e₃⟩ := grow_one (g := g₂) (h := s₂.heap) (h' := s₂.heap.push { cls := .type "list", data := .seq (as ++ bs) }) (stays_trans k₂ stays_push) (get_size _) (get_push_new rfl)
  refine ⟨g₃, ⟨_, _, rfl, ⟨_, e₃, rfl, _, rfl⟩, by rw [Array.size_append, hsa, hsb, List.length_append], fun j x e => ?_⟩, gr₁.trans (keeps_stays K₁) (gr₂.trans (keeps_stays K₂) gr₃), k₃, keeps_trans K₁ (keeps_trans K₂ (keeps_of stays_push))⟩
  by_cases hj : j < xs.length
  · rw [List.getElem?_append_left hj] at e
    obtain ⟨u, h1, h2⟩ := hra j x e
    exact ⟨u, by rw [Array.getElem?_append_left (by omega)]; exact h1, mR _ _ _ _ gr₃.up h2⟩
  · rw [List.getElem?_append_right (by omega)] at e
    obtain ⟨u, h1, h2⟩ := hrb _ x e
    exact ⟨u, by rw [Array.getElem?_append_right (by omega), hsa]; exact h1, mR _ _ _ _ gr₃.up h2⟩

noncomputable def NilV : Value → Heap → Prop := fun v h => ∃ a, v = .ref a ∧ h.IsList a #[]
theorem NilV.mono : MonoV NilV := fun _ _ _ k ⟨a, e, h⟩ => ⟨a, e, isList_mono k h⟩
theorem ev_nil {pos : Pos} : Ev (model prog w) A env (.List [] pos) I NilV :=
  ev_list (Ps := []) evs_nil allV0_mono (fun vs a g h hl => by rw [allV0 h] at hl; exact ⟨a, rfl, hl⟩) allV0_len
theorem nil_lst {h : Heap} {a : Addr} (x : h.IsList a #[]) : h.IsList a ([] : List Value).toArray := x
theorem ev_eqNil {l r : Expr} {pos : Pos} (rm : Room A 0) (hI : Mono2 I) (hl : Ev (model prog w) A env l I NilV) (hr : Ev (model prog w) A env r I NilV) (hm : behindInMarks .Eq r = false := by with_unfolding_all rfl) : Ev (model prog w) A env (.Compare l [.Eq] [r] pos) I (BoolV true) := by
  intro E s g i k
  refine wpAny_Compare1 (hl.then hI i k fun v s₁ g₁ hp i₁ k₁ gr₁ K₁ => ?_) hm
  refine hr.then hI i₁ k₁ fun v' s₂ g₂ hp' i₂ k₂ gr₂ K₂ => ?_
  obtain ⟨a, rfl, hla⟩ := NilV.mono _ _ _ gr₂.up hp
  obtain ⟨b, rfl, hlb⟩ := hp'
  exact eq_intsK (nil_lst (isList_mono k₂ hla)) .nil (nil_lst (isList_mono k₂ hlb)) .nil (by have := rm.un; omega) ⟨g₂, rfl, gr₁.trans (keeps_stays K₁) gr₂, k₂, keeps_trans K₁ K₂⟩
theorem tv_neNil {l r : Expr} {pos : Pos} (rm : Room A 0) (hI : Mono2 I) (hl : Ev (model prog w) A env l I NilV) (hr : Ev (model prog w) A env r I NilV) (hm : behindInMarks .NotEq r = false := by with_unfolding_all rfl) : Tv (model prog w) A env (.Compare l [.NotEq] [r] pos) I false := by
  intro E s g i k
  refine wpAny_isTrue_Compare1 (hl.then hI i k fun v s₁ g₁ hp i₁ k₁ gr₁ K₁ => ?_) hm
  refine hr.then hI i₁ k₁ fun v' s₂ g₂ hp' i₂ k₂ gr₂ K₂ => ?_
  obtain ⟨a, rfl, hla⟩ := NilV.mono _ _ _ gr₂.up hp
  obtain ⟨b, rfl, hlb⟩ := hp'
  exact ne_intsK (nil_lst (isList_mono k₂ hla)) .nil (nil_lst (isList_mono k₂ hlb)) .nil (by have := rm.un; omega) (wpAny_truthy_bool ⟨rfl, g₂, gr₁.trans (keeps_stays K₁) gr₂, k₂, keeps_trans K₁ K₂⟩)
theorem tv_neRat {l r : Expr} {pos : Pos} {x : Int} (rm : Room A 0) (hI : Mono2 I) (hl : Ev (model prog w) A env l I (RatV x)) (hr : Ev (model prog w) A env r I (RatV x)) (hm : behindInMarks .NotEq r = false := by with_unfolding_all rfl) : Tv (model prog w) A env (.Compare l [.NotEq] [r] pos) I false := by
  intro E s g i k
  refine wpAny_isTrue_Compare1 (hl.then hI i k fun v s₁ g₁ hp i₁ k₁ gr₁ K₁ => ?_) hm
  refine hr.then hI i₁ k₁ fun v' s₂ g₂ hp' i₂ k₂ gr₂ K₂ => ?_
  obtain ⟨p, t, u, rfl, hT⟩ := RatV.mono _ _ _ gr₂.up hp
  obtain ⟨p', t', u', rfl, hT'⟩ := hp'
  have ea : ∀ (a : Int) (t t' : Tok), PySem.SeqAt.EqAt A.in1 s₂ (.int a t) (.int a t') true := fun a t t' => by
    have := (MeetsSeq.EqGives.int a a t t').at A.in1 s₂
    rwa [show (a == a) = true by simp] at this
  refine PySem.SeqAt.RcNeAt.tuples (e := fun _ => true) (isTup_mono k₂ hT) (isTup_mono k₂ hT') (by have := rm.un; omega) ?_ prog w _ _ ?_
  · intro j h1 h2
    match j, h1, h2 with
    | 0, _, _ => exact ea x t t'
    | 1, _, _ => exact ea 1 u u'
  · exact wpAny_truthy_bool ⟨rfl, g₂, gr₁.trans (keeps_stays K₁) gr₂, k₂, keeps_trans K₁ K₂⟩
theorem tv_or_nil {pos : Pos} : Tv (model prog w) A env (.BoolOp .Or [] pos) I false := fun E s g i k => isTrue_or_nil ⟨rfl, g, .refl _ _, k, keeps_refl s⟩
theorem tv_or {x : Expr} {rest : List Expr} {pos : Pos} (hI : Mono2 I) (h₁ : Tv (model prog w) A env x I false) (h₂ : Tv (model prog w) A env (.BoolOp .Or rest pos) I false) : Tv (model prog w) A env (.BoolOp .Or (x :: rest) pos) I false := by
  intro E s g i k
  refine isTrue_or (wpAny_mono (h₁ E s g i k) (fun c s₁ q => ?_) fun _ _ e => e)
  obtain ⟨rfl, g₁, gr₁, k₁, K₁⟩ := q
  simp only [Bool.false_eq_true, if_false]
  exact wpAny_mono (h₂ E s₁ g₁ (hI _ _ _ _ (keeps_stays K₁) gr₁.up i) k₁) (fun c s₂ q => by obtain ⟨e, g₂, gr₂, k₂, K₂⟩ := q; exact ⟨e, g₂, gr₁.trans (keeps_stays K₁) gr₂, k₂, keeps_trans K₁ K₂⟩) fun _ _ e => e
theorem rat_pairs {xs : List Int} {v : Value} {g : Heap} (h : RatRow xs v g) : LstV PrV (xs.map fun x => (x, (1 : Int))) v g := by
  obtain ⟨a, its, e, hl, hsz, hit⟩ := h
  refine ⟨a, its, e, hl, by rw [hsz, List.length_map], fun j y hy => ?_⟩
  rw [List.getElem?_map] at hy
  obtain ⟨x, hx, rfl⟩ := Option.map_eq_some_iff.mp hy
  obtain ⟨u, hu, b, t, t', eu, hT⟩ := hit j x hx
  exact ⟨u, hu, b, _, _, eu, hT, ⟨t, rfl⟩, ⟨t', rfl⟩⟩
theorem ctX {scope : Scope} {cl : List (Str × Addr)} {C : Addr} {F : Heap → Prop} (hI : MonoX z I) (xn : ∀ b ∈ z.X, b ∉ ownA (ccEnv scope cl C env) (ccOwn scope C)) : MonoX z (Ct scope cl C env I F val) := by
  rintro h h' g g' k kg ⟨a, ⟨g₀, b, c⟩, d⟩
  exact ⟨hI _ _ _ _ k kg a, ⟨g₀, stays_trans b kg, c⟩, d.ext fun b o hb e => k b o (fun q => xn b q hb) e⟩
theorem ct0 {scope : Scope} {cl : List (Str × Addr)} {C : Addr} {F : Heap → Prop} (hI : Mono2 I) : Mono2 (Ct scope cl C env I F val) := by
  rintro h h' g g' k kg ⟨a, ⟨g₀, b, c⟩, d⟩
  exact ⟨hI _ _ _ _ k kg a, ⟨g₀, stays_trans b kg, c⟩, d.mono k⟩
theorem evx_fact {e : Expr} {P : Value → Heap → Prop} {F : Prop} (h : ∀ a b, I a b → F) (k : F → EvX (model prog w) A z env e I P) : EvX (model prog w) A z env e I P := fun E s g i k' => k (h _ _ i) E s g i k'
end


theorem one_k {k : Nat} (h1 : 1 ≤ k) (h3 : k ≤ 3) : ∀ X, Sq k X → mulZ (unitM k) X = X := by
  match k, h1, h3 with
  | 1, _, _ => exact one1'
  | 2, _, _ => exact one2'
  | 3, _, _ => exact one3'
theorem pw_bd {M : List (List Int)} {k : Nat} (one : ∀ X, Sq k X → mulZ (unitM k) X = X) (hk : k ≤ 3) (h : Sq k M) (b : Bd 2 M) (j : Nat) (h1 : 1 ≤ j) (h6 : j ≤ 6) : Bd 279936 (pw M k j) := by
  obtain ⟨p1, p2, p3, p4, p5, p6⟩ := pw_is one h
  have h2 := mulZ_sq h h
  have h4 := mulZ_sq h2 h2
  have b2 := mulZ_bd h hk b b
  have b4 := mulZ_bd h2 hk b2 b2
  match j, h1, h6 with
  | 1, _, _ => rw [p1]; exact b.mono (by decide)
  | 2, _, _ => rw [p2]; exact b2.mono (by decide)
  | 3, _, _ => rw [p3]; exact (mulZ_bd h2 hk b b2).mono (by decide)
  | 4, _, _ => rw [p4]; exact b4.mono (by decide)
  | 5, _, _ => rw [p5]; exact (mulZ_bd h4 hk b b4).mono (by decide)
  | 6, _, _ => rw [p6]; exact (mulZ_bd h4 hk b2 b4).mono (by decide)
noncomputable def pws (M : List (List Int)) (k : Nat) : List (List (List Int)) := (List.range 6).map fun j => pw M k (j + 1)
theorem pws_tr {M : List (List Int)} {k : Nat} {e1 e2 e3 : Int} (P : Plain M k e1 e2 e3) : (pws M k).map (fun X => trS X k) = trL e1 e2 e3 := by
  have t := P.tr
  show [trS (pw M k 1) k, trS (pw M k 2) k, trS (pw M k 3) k, trS (pw M k 4) k, trS (pw M k 5) k, trS (pw M k 6) k] = _
  rw [t 1 (by decide) (by decide), t 2 (by decide) (by decide), t 3 (by decide) (by decide), t 4 (by decide) (by decide), t 5 (by decide) (by decide), t 6 (by decide) (by decide)]
  rfl
theorem sum_trS (X : List (List Int)) (k : Nat) : ((List.range k).map fun (i : Nat) => (X.getD (0 + (i : Int)).toNat []).getD (0 + (i : Int)).toNat 0).sum = trS X k := by
  unfold trS
  congr 1
  refine List.map_congr_left fun i _ => ?_
  rw [show (0 + (i : Int)).toNat = i by omega]
theorem pws_at {M : List (List Int)} {k p : Nat} (h1 : 1 ≤ p) (h6 : p ≤ 6) : (pws M k)[((p : Int) - 1).toNat]? = some (pw M k p) := by
  unfold pws
  rw [List.getElem?_map, List.getElem?_range (by omega)]
  show some (pw M k (((p : Int) - 1).toNat + 1)) = _
  rw [show ((p : Int) - 1).toNat + 1 = p by omega]
theorem tr_small {M : List (List Int)} {k j : Nat} {e1 e2 e3 : Int} (P : Plain M k e1 e2 e3) (one : ∀ X, Sq k X → mulZ (unitM k) X = X) (hk : k ≤ 3) (h : Sq k M) (b : Bd 2 M) : ∀ z ∈ trL e1 e2 e3, z.natAbs < 2 ^ 64 := by
  rw [← pws_tr P]
  intro z hz
  obtain ⟨X, hX, rfl⟩ := List.mem_map.mp hz
  obtain ⟨j, hj, rfl⟩ := List.mem_map.mp hX
  have hj := List.mem_range.mp hj
  have bd := pw_bd one hk h b (j + 1) (by omega) (by omega)
  have := sum_bd 279936 ((List.range k).map fun (i : Nat) => ((pw M k (j + 1)).getD i []).getD i 0) (fun x hx => by
    obtain ⟨i, _, rfl⟩ := List.mem_map.mp hx
    exact getD_bd2 bd i i)
  rw [List.length_map, List.length_range] at this
  have h3 : k * 279936 ≤ 3 * 279936 := Nat.mul_le_mul_right _ hk
  show (trS _ k).natAbs < _
  unfold trS
  omega

theorem toldL_len {k : Nat} (h1 : 1 ≤ k) (h3 : k ≤ 3) (e1 e2 e3 : Int) : (toldL k e1 e2 e3).length = k + 1 := by
  match k, h1, h3 with
  | 1, _, _ => rfl
  | 2, _, _ => rfl
  | 3, _, _ => rfl
theorem toldL_top {k : Nat} (h1 : 1 ≤ k) (h3 : k ≤ 3) (e1 e2 e3 : Int) : (toldL k e1 e2 e3)[k]? = some 1 := by
  match k, h1, h3 with
  | 1, _, _ => rfl
  | 2, _, _ => rfl
  | 3, _, _ => rfl
theorem md_nil {p : Nat} (i : Nat) (a c : Int) (h : ([] : List Int)[i]? = some a) (_ : ([] : List Int)[i]? = some c) : (a - c) % (p : Int) = 0 := by cases h
theorem md_cons {p : Nat} {x y : Int} {xs ys : List Int} (h : (x - y) % (p : Int) = 0) (t : ∀ (i : Nat) (a c : Int), xs[i]? = some a → ys[i]? = some c → (a - c) % (p : Int) = 0) (i : Nat) (a c : Int) (ha : (x :: xs)[i]? = some a) (hc : (y :: ys)[i]? = some c) : (a - c) % (p : Int) = 0 := by
  cases i with
  | zero => cases ha; cases hc; exact h
  | succ i => exact t i a c ha hc
theorem toldL_mod {k p : Nat} (h1 : 1 ≤ k) (h3 : k ≤ 3) {e1 e2 e3 f1 f2 f3 : Int} (m1 : (f1 - e1) % (p : Int) = 0) (m2 : (f2 - e2) % (p : Int) = 0) (m3 : (f3 - e3) % (p : Int) = 0) :
    ∀ (i : Nat) (a c : Int), (toldL k e1 e2 e3)[i]? = some a → (toldL k f1 f2 f3)[i]? = some c → (a - c) % (p : Int) = 0 := by
  have n1 : (-e1 - -f1) % (p : Int) = 0 := by rw [show -e1 - -f1 = f1 - e1 by omega]; exact m1
  have n2 : (e2 - f2) % (p : Int) = 0 := by rw [show e2 - f2 = -(f2 - e2) by omega]; exact Int.emod_eq_zero_of_dvd (Int.dvd_neg.mpr (Int.dvd_of_emod_eq_zero m2))
  have n3 : (-e3 - -f3) % (p : Int) = 0 := by rw [show -e3 - -f3 = f3 - e3 by omega]; exact m3
  have n4 : ((1 : Int) - 1) % (p : Int) = 0 := by simp
  obtain rfl | rfl | rfl : k = 1 ∨ k = 2 ∨ k = 3 := by omega
  · exact md_cons n1 (md_cons n4 md_nil)
  · exact md_cons n2 (md_cons n1 (md_cons n4 md_nil))
  · exact md_cons n3 (md_cons n2 (md_cons n1 (md_cons n4 md_nil)))
theorem divs_in {n : Nat} (h1 : 1 ≤ n) (h6 : n ≤ 6) : (divs n).length ≤ 4 ∧ ∀ d ∈ divs n, 1 ≤ d ∧ d ≤ 6 ∧ 1 ≤ n / d ∧ n / d ≤ 6 := by
  match n, h1, h6 with
  | 1, _, _ => decide
  | 2, _, _ => decide
  | 3, _, _ => decide
  | 4, _, _ => decide
  | 5, _, _ => decide
  | 6, _, _ => decide
theorem mob_small (n : Nat) : (mob n).natAbs ≤ 1 := by
  unfold mob
  split <;> decide
theorem trL_at {e1 e2 e3 : Int} {d : Nat} (h1 : 1 ≤ d) (h6 : d ≤ 6) : (trL e1 e2 e3).getD (d - 1) 0 = tq e1 e2 e3 d := by
  match d, h1, h6 with
  | 1, _, _ => rfl
  | 2, _, _ => rfl
  | 3, _, _ => rfl
  | 4, _, _ => rfl
  | 5, _, _ => rfl
  | 6, _, _ => rfl
noncomputable def gsF (n : Nat) (e1 e2 e3 : Int) (d : Int) : Int := mob (n / d.toNat) * (trL e1 e2 e3).getD (d.toNat - 1) 0
theorem gsF_sum {n : Nat} (h1 : 1 ≤ n) (h6 : n ≤ 6) (e1 e2 e3 : Int) : ((divL n).map (gsF n e1 e2 e3)).sum % (n : Int) = 0 := by
  have h := gauss h1 h6 e1 e2 e3
  have e : (divL n).map (gsF n e1 e2 e3) = (divs n).map fun d => mob (n / d) * tq e1 e2 e3 d := by
    unfold divL
    rw [List.map_map]
    refine List.map_congr_left fun d hd => ?_
    obtain ⟨a, b, _⟩ := (divs_in h1 h6).2 d hd
    show mob (n / ((d : Nat) : Int).toNat) * (trL e1 e2 e3).getD (((d : Nat) : Int).toNat - 1) 0 = _
    rw [Int.toNat_natCast, trL_at a b]
  rw [e]; exact h

section
variable {prog : Program} {w : World} {A : Around}
theorem tv_neEq {env : Env} {I : Heap → Heap → Prop} {l r : Expr} {pos : Pos} {a b : Int} (hI : Mono2 I) (e : a = b) (hl : Ev (model prog w) A env l I (IntV a)) (hr : Ev (model prog w) A env r I (IntV b)) (hm : behindInMarks .NotEq r = false := by with_unfolding_all rfl) : Tv (model prog w) A env (.Compare l [.NotEq] [r] pos) I false := by
  have := ev_ne (pos := pos) hI hl hr hm
  rw [show (a != b) = false by subst e; simp] at this
  exact this
theorem n_matrix_raised : nsIn (hd.heap_39 w.params) mainGlobals (Str.ofString "matrix_raised") = some (some (.ref 184)) := by k_is
theorem k_matrix_raised : keepIn (hd.heap_39 w.params) (.ref 184) = true := by k_is
theorem n_charpoly : nsIn (hd.heap_39 w.params) mainGlobals (Str.ofString "charpoly") = some (some (.ref 162)) := by k_is
theorem k_charpoly : keepIn (hd.heap_39 w.params) (.ref 162) = true := by k_is
theorem n_from_whole : nsIn (hd.heap_39 w.params) mainGlobals (Str.ofString "from_whole") = some (some (.ref 116)) := by k_is
theorem k_from_whole : keepIn (hd.heap_39 w.params) (.ref 116) = true := by k_is
theorem n_newton : nsIn (hd.heap_39 w.params) mainGlobals (Str.ofString "_law_newton_right") = some (some (.ref 198)) := by k_is
theorem k_newton : keepIn (hd.heap_39 w.params) (.ref 198) = true := by k_is
theorem n_divisors : nsIn (hd.heap_39 w.params) mainGlobals (Str.ofString "divisors") = some (some (.ref 60)) := by k_is
theorem k_divisors : keepIn (hd.heap_39 w.params) (.ref 60) = true := by k_is
theorem n_moebius : nsIn (hd.heap_39 w.params) mainGlobals (Str.ofString "moebius") = some (some (.ref 167)) := by k_is
theorem k_moebius : keepIn (hd.heap_39 w.params) (.ref 167) = true := by k_is
theorem n_zip : nsIn (hd.heap_39 w.params) mainGlobals (Str.ofString "zip") = some none := by k_is
theorem n_law : nsIn (hd.heap_39 w.params) mainGlobals (Str.ofString "law") = some (some (.ref 203)) := by k_is
theorem ev_three {env : Env} {I : Heap → Heap → Prop} {e₁ e₂ e₃ : Expr} {kd : Nat} {pos : Pos} {a b c : Int} (hI : Mono2 I) (h₁ : Ev (model prog w) A env e₁ I (IntV a)) (h₂ : Ev (model prog w) A env e₂ I (IntV b)) (h₃ : Ev (model prog w) A env e₃ I (IntV c))
    (he₁ : starEach [e₁, e₂, e₃] env = (false, eval e₁ env) :: starEach [e₂, e₃] env := by rfl) (he₂ : starEach [e₂, e₃] env = (false, eval e₂ env) :: starEach [e₃] env := by rfl) (he₃ : starEach [e₃] env = (false, eval e₃ env) :: starEach [] env := by rfl) :
    Ev (model prog w) A env (.Tuple [e₁, e₂, e₃] kd pos) I (fun v g => ∃ (d : Addr) (t t' t'' : Tok), v = .ref d ∧ IsTup g d #[.int a t, .int b t', .int c t'']) :=
  ev_tuple (Ps := [IntV a, IntV b, IntV c]) (evs_cons hI IntV.mono h₁ (evs_cons hI IntV.mono h₂ (evs_cons hI IntV.mono h₃ evs_nil he₃) he₂) he₁)
    (fun vs g g' k q => by obtain ⟨u, v, x, rfl, a, b, c⟩ := allV3 q; exact ⟨a, b, c, trivial⟩)
    (fun vs a g q hT => by obtain ⟨u, v, x, rfl, ⟨t, e⟩, ⟨t', e'⟩, t'', e''⟩ := allV3 q; exact ⟨a, t, t', t'', rfl, by rw [← e, ← e', ← e'']; exact hT⟩)
    (fun vs g q => by obtain ⟨u, v, x, rfl, _⟩ := allV3 q; exact (by decide : (3:Nat) ≤ 2 ^ 24))

theorem evx_conseq {z : XZ} {env : Env} {I : Heap → Heap → Prop} {e : Expr} {P P' : Value → Heap → Prop} (h : EvX (model prog w) A z env e I P) (f : ∀ v g, P v g → P' v g) : EvX (model prog w) A z env e I P' :=
  fun E s g i k hz hx => wpAny_mono (h E s g i k hz hx) (fun v s' q => by obtain ⟨g', a, b⟩ := q; exact ⟨g', f _ _ a, b⟩) fun _ _ e => e
theorem law_code {xs : List Int} (r : Room A 9) (hl : xs.length ≤ 63) (u : Value) : ∀ (s : Shared) (g : Heap), (Bs w g ∧ IntRow xs u g) → g.StaysIn s.heap →
    codeAny (model prog w) A (.call (.ref 203) ⟨[u], []⟩) (fun r s' => ∃ v, r = .ok (.ret v) ∧ Post g s (BoolV true) v s') s := by
  refine cd_def (n := 8) (binds := [(Str.ofString "script", u)]) r (fun g i => i.1) (by k_is) (by k_is) rfl rfl (by decide) rfl rfl rfl ?_
  intro L g env he ap i
  subst he
  obtain ⟨B, hu⟩ := i
  have hfl := firsts_len xs
  -- the pool
  refine bx_pool (xs := firsts xs) rfl ap (.inr ⟨rfl, _, rfl, rfl⟩) ?_ ev_int rfl rfl rfl ?_
  · refine Ev.conseq (P := LstV IntV ((firsts xs).map fun y => y)) (comp_list (R := IntV) (R' := IntV) (cl := []) (fun y => y) Cx.mono (fun _ => IntV.mono) (fun _ => IntV.mono) r.hh (by rw [sizeLine_eq]; omega) (by with_unfolding_all rfl) rfl (by decide) (fun _ => rfl)
      (ev_slice12 (xs := xs) Cx.mono (by omega) (ev_var u rfl IntRow.mono hu) (fun _ _ => by with_unfolding_all rfl)) (fun C => .inl rfl) ?_) (fun v g h => by rwa [List.map_id'] at h)
    intro C y v val hy mI
    exact ev_callTG (Ps := [IntV y]) mI (fun h g' c => B.mono c.1.2) n_int boot_int (evs_cons mI IntV.mono (ev_name v (fun h g' c k => c.2.2.sees (.inl rfl) rfl) (fun h g' c => c.2.1) (by rfl) (by decide)) evs_nil) cv_int
  intro D q g₁ k₁ hq nD
  have B₁ := B.mono k₁
  have xn : ∀ b ∈ (poolZ D q).X, b ∉ ownA _ _ := fun b hb => by rw [List.mem_singleton.mp hb]; exact nD
  -- size, p, n
  refine bxx_cons (sxx_assign3 (G₁ := fun a => 1 ≤ a ∧ a ≤ 3) (G₂ := fun a => a = 2 ∨ a = 3 ∨ a = 5) (G₃ := fun a => 1 ≤ a ∧ a ≤ 6) r.hh rfl ap (.inr ⟨rfl, _, rfl, rfl⟩) (.inr ⟨rfl, _, rfl, rfl⟩) (.inr ⟨rfl, _, rfl, rfl⟩) (cxX xn) ?_ ?_ ?_ rfl rfl rfl rfl rfl) ?_
  · exact evx_add (cxX xn) (fun a b x y => by have x : a = 1 := x; omega) evx_int (evx_draw (m := 3) (r.deeper _ |>.less (by decide)) (by decide) (by omega) (fun h g' c => B₁.mono c.2) (fun h g' c => IntRow.mono _ _ _ c.2 hq) (fun h g' c k => c.1.sees (.inr ⟨rfl, _, rfl, rfl⟩) rfl))
  · exact evx_three (cxX xn) (ev_three Cx.mono ev_int ev_int ev_int) (evx_draw (m := 3) (r.deeper _ |>.less (by decide)) (by decide) (by omega) (fun h g' c => B₁.mono c.2) (fun h g' c => IntRow.mono _ _ _ c.2 hq) (fun h g' c k => c.1.sees (.inr ⟨rfl, _, rfl, rfl⟩) rfl)) (fun _ _ _ => by with_unfolding_all rfl)
  · exact evx_add (cxX xn) (fun a b x y => by have x : a = 1 := x; omega) evx_int (evx_draw (m := 6) (r.deeper _ |>.less (by decide)) (by decide) (by omega) (fun h g' c => B₁.mono c.2) (fun h g' c => IntRow.mono _ _ _ c.2 hq) (fun h g' c k => c.1.sees (.inr ⟨rfl, _, rfl, rfl⟩) rfl))
  rintro val₂ g₂ k₂ ⟨a, b, c, t, t', t'', rfl, ha, hb, hc⟩
  have B₂ := B₁.mono k₂
  have hq₂ := IntRow.mono _ _ _ k₂ hq
  obtain ⟨k, rfl⟩ : ∃ k : Nat, a = k := ⟨a.toNat, by omega⟩
  obtain ⟨p, rfl⟩ : ∃ p : Nat, b = p := ⟨b.toNat, by omega⟩
  obtain ⟨n, rfl⟩ : ∃ n : Nat, c = n := ⟨c.toNat, by omega⟩
  -- grid
  refine bxx_cons (sxx_assign (P := fun v h => ∃ M : List (List Int), M.length = k ∧ (∀ row ∈ M, row.length = k ∧ ∀ x ∈ row, x.natAbs ≤ 2) ∧ LstV IntRow M v h) rfl ap (.inr ⟨rfl, _, rfl, rfl⟩) ?_ rfl) ?_
  · refine evx_comp_ex (R := IntRow) (G := fun row => row.length = k ∧ ∀ x ∈ row, x.natAbs ≤ 2) (cl := [(Str.ofString "size", L + 2), (Str.ofString "pool", L + 1)]) (fun _ => IntRow.mono) (cxX xn) (by rw [sizeLine_eq]; omega) (by with_unfolding_all rfl) rfl (by decide) (fun _ => rfl)
      (source_range (a := 0) (b := k) (n := k) r.hh Cx.mono (by decide) (by decide) (by omega) (by omega) (by split <;> omega) (ev_range1 Cx.mono (fun h g' c => B₂.mono c.2) (ev_var (.int k t) rfl IntV.mono ⟨t, rfl⟩ (.inr ⟨rfl, _, rfl, rfl⟩)))) ?_ ?_
    · rintro C i bs g ⟨t, _, rfl⟩ z hz
      rw [List.mem_singleton.mp hz]; exact .inl rfl
    · intro C i bs val hi xnC
      refine evx_conseq (evx_comp_ex (R := IntV) (G := fun x => x.natAbs ≤ 2) (cl := [(Str.ofString "pool", L + 1)]) (fun _ => IntV.mono) (ctX (cxX xn) xnC) (by rw [sizeLine_eq]; omega) (by with_unfolding_all rfl) rfl (by decide) (fun _ => rfl)
        (source_range (a := 0) (b := k) (n := k) r.hh (ct0 Cx.mono) (by decide) (by decide) (by omega) (by omega) (by split <;> omega) (ev_range1 (ct0 Cx.mono) (fun h g' c => B₂.mono c.1.2) (ev_name (.int k t) (fun h g' c k => sees_up c.1.1 rfl rfl rfl rfl rfl) (fun h g' c => ⟨t, rfl⟩) (by rfl) (by decide)))) ?_ ?_) (fun v h q => by obtain ⟨row, h1, h2, h3⟩ := q; exact ⟨row, ⟨h1, h2⟩, h3⟩)
      · rintro C' i bs g ⟨t, _, rfl⟩ z hz
        rw [List.mem_singleton.mp hz]; exact .inl rfl
      · intro C' i' bs' val' hi' xnC'
        refine evx_conseq (evx_sub (G := fun x => x.natAbs ≤ 2) (ctX (ctX (cxX xn) xnC) xnC') (fun a b x y => by have y : b = 2 := y; omega) (evx_draw (m := 5) (r.deeper _ |>.less (by decide)) (by decide) (by omega) (fun h g' c => B₂.mono c.1.1.2) (fun h g' c => IntRow.mono _ _ _ c.1.1.2 hq₂) (fun h g' c k => sees_up c.1.1.1 rfl rfl rfl rfl rfl)) evx_int) (fun v h q => by obtain ⟨x, t, e, hx⟩ := q; exact ⟨x, hx, t, e⟩)
  rintro val₃ g₃ k₃ ⟨vg, rfl, M, hM, hMr, hgrid⟩
  have B₃ := B₂.mono k₃
  have sq : Sq k M := ⟨hM, fun y hy => (hMr y hy).1⟩
  have bd : Bd 2 M := fun y hy => (hMr y hy).2
  refine bxx_of ?_
  have hk1 : 1 ≤ k := by omega
  have hk3 : k ≤ 3 := by omega
  have one := one_k hk1 hk3
  obtain ⟨e1, e2, e3, PL⟩ := plain hk1 hk3 sq
  have hsqj : ∀ j, 1 ≤ j → j ≤ 6 → Sq k (pw M k j) := fun j h1 h6 => pw_sq one sq j h1 h6
  -- powers
  refine bx_cons (Qm := fun v' g' => ∃ f, v' = upd _ (Str.ofString "powers") f ∧ LstV (fun X => IntMat X) (pws M k) f g') (sx_post (GenComp.stored (PJ := LD (fun X => IntMat X) (pws M k)) (fun ys g g' k h => h.mono (fun _ => IntMat.mono) k) rfl ap (.inl rfl) ?_ rfl) fun v' g' q => by obtain ⟨a, its, e, hl, hL⟩ := q; exact ⟨_, e, hL.lst hl⟩) ?_
  · refine gen_det (R' := fun X => IntMat X) (n := 6) (cl := [(Str.ofString "grid", L + 5)]) (fun j => pw M k (j + 1)) Cx.mono (fun _ => IntMat.mono) (by rw [sizeLine_eq]; omega) (by with_unfolding_all rfl) rfl (by decide) (fun _ => rfl)
      (source_range (a := 1) (b := 7) (n := 6) r.hh Cx.mono (by decide) (by decide) (by decide) (by decide) (by decide) (ev_range2 Cx.mono (fun h g' c => B₃.mono c.2) ev_int ev_int)) ?_ ?_
    · rintro C i bs g ⟨t, _, rfl⟩ z hz
      rw [List.mem_singleton.mp hz]; exact .inl rfl
    · intro C i bs val hi
      refine ev_fact (F := ∃ t, bs = [(Str.ofString "many", .int (1 + (i : Int)) t)]) (by rintro _ _ ⟨_, ⟨_, _, t, _, e⟩, _⟩; exact ⟨t, e⟩) ?_
      rintro ⟨tm, e⟩
      subst e
      refine (ev_callG (Ps := [IntMat M, IntV ((i + 1 : Nat) : Int)]) (ct0 Cx.mono) (fun h g' c => B₃.mono c.1.2) n_matrix_raised k_matrix_raised (evs_cons (ct0 Cx.mono) IntMat.mono (ev_name vg (fun h g' c k => sees_up c.1.1 rfl rfl rfl rfl rfl) (fun h g' c => IntMat.mono _ _ _ c.1.2 hgrid) (by rfl) (by decide))
        (evs_cons (ct0 Cx.mono) IntV.mono (ev_name (.int (1 + (i : Int)) tm) (fun h g' c k => c.2.2.sees (.inl rfl) rfl) (fun h g' c => ⟨tm, by rw [show ((i + 1 : Nat) : Int) = 1 + (i : Int) by omega]⟩) (by rfl) (by decide)) evs_nil)) (cv_args2 fun u v => matrix_raised_v (r.deeper _ |>.less (by decide)) hk3 sq bd (by omega) u v)).conseq fun v g h => h.1
  rintro val₄ g₄ k₄ ⟨fp, rfl, hpw⟩
  have B₄ := B₃.mono k₄
  have hgrid₄ := IntMat.mono _ _ _ k₄ hgrid
  have mM : ∀ X : List (List Int), MonoV (IntMat X) := fun _ => IntMat.mono
  -- traces
  refine bx_cons (sx_assign (P := IntRow (trL e1 e2 e3)) rfl ap (.inr ⟨rfl, _, rfl, rfl⟩) ?_ rfl) ?_
  · refine Ev.conseq (comp_list (R := fun X => IntMat X) (R' := IntV) (cl := [(Str.ofString "size", L + 2)]) (fun X => trS X k) Cx.mono mM (fun _ => IntV.mono) r.hh (by rw [sizeLine_eq]; unfold pws; rw [List.length_map, List.length_range]; omega) (by with_unfolding_all rfl) rfl (by decide) (fun _ => rfl) (ev_var fp rfl (LstV.mono mM _) hpw) (fun C => .inr ⟨rfl, _, rfl, rfl⟩) ?_) (fun v g h => by rw [pws_tr PL] at h; exact h)
    intro C X v val hX mI
    have sX : Sq k X := by
      obtain ⟨j, hj, rfl⟩ := List.mem_map.mp hX
      have := List.mem_range.mp hj
      exact hsqj _ (by omega) (by omega)
    refine Ev.conseq (ev_callBG (Ps := [IntRow ((List.range k).map fun (i : Nat) => (X.getD (0 + (i : Int)).toNat []).getD (0 + (i : Int)).toNat 0)]) mI (fun h g' c => B₄.mono c.1.2) n_sum boot_sum (evs_cons mI IntRow.mono ?_ evs_nil) (cv_sum (A := A.deeper _) r.hh)) (fun v g h => by rw [sum_trS] at h; exact h)
    refine comp_range (R' := IntV) (cl := [(Str.ofString "one", C + 1)]) (a := 0) (b := k) (n := k) (fun i => (X.getD i.toNat []).getD i.toNat 0) mI (fun _ => IntV.mono) r.hh (by rw [sizeLine_eq]; omega) (by decide) (by decide) (by omega) (by omega) (by split <;> omega) (by with_unfolding_all rfl) rfl (by decide) (fun _ => rfl)
      (ev_range1 mI (fun h g' c => B₄.mono c.1.2) (ev_name (.int k t) (fun h g' c k => sees_up c.1.1 rfl rfl rfl rfl rfl) (fun h g' c => ⟨t, rfl⟩) (by rfl) (by decide))) (fun C => .inl rfl) ?_
    intro C' i ti val' hi mI'
    have e1 : X[i]? = some (X.getD i []) := by rw [List.getD_eq_getElem?_getD, List.getElem?_eq_getElem (by rw [sX.rows]; exact hi)]; rfl
    have hl : (X.getD i []).length = k := sX.cols _ (List.mem_of_getElem? e1)
    have e2 : (X.getD i [])[i]? = some ((X.getD i []).getD i 0) := getD_some (by rw [hl]; exact hi)
    have et : (0 + (i : Int)).toNat = i := by omega
    rw [et]
    exact ev_subscript (R := IntV) (k := 0 + (i : Int)) (fun _ => IntV.mono) mI' (by omega) (by omega) (by rw [et]; exact e2) (fun _ _ => by with_unfolding_all rfl)
      (ev_subscript (R := fun r => IntRow r) (k := 0 + (i : Int)) (fun _ => IntRow.mono) mI' (by omega) (by omega) (by rw [et]; exact e1) (fun _ _ => by with_unfolding_all rfl) (ev_name v (fun h g' c k => sees_up c.1.2.2 (by simp [upd]) rfl rfl rfl rfl) (fun h g' c => c.1.2.1) (by rfl) (by decide)) (ev_name (.int (0 + (i : Int)) ti) (fun h g' c k => c.2.2.sees (.inl rfl) rfl) (fun h g' c => ⟨ti, rfl⟩) (by rfl) (by decide)))
      (ev_name (.int (0 + (i : Int)) ti) (fun h g' c k => c.2.2.sees (.inl rfl) rfl) (fun h g' c => ⟨ti, rfl⟩) (by rfl) (by decide))
  rintro val₅ g₅ k₅ ⟨ft, rfl, htr⟩
  have B₅ := B₄.mono k₅
  have hgrid₅ := IntMat.mono _ _ _ k₅ hgrid₄
  have hpw₅ := LstV.mono mM _ _ _ _ k₅ hpw
  have hp235 : p = 2 ∨ p = 3 ∨ p = 5 := by omega
  have hp6 : 1 ≤ p ∧ p ≤ 6 := by omega
  obtain ⟨sqp, f1, f2, f3, hdv, hrs, m1, m2, m3⟩ := PL.up p hp235
  have bdp := pw_bd one hk3 sq bd p hp6.1 hp6.2
  -- told, raised
  refine bx_cons (sx_assign2 (P₁ := RatRow (toldL k e1 e2 e3)) (P₂ := RatRow (toldL k f1 f2 f3)) r.hh rfl ap (.inl rfl) (.inl rfl) (ev_pairV Cx.mono RatRow.mono RatRow.mono ?_ ?_) rfl rfl) ?_
  · rw [← PL.told]
    exact ev_callG (Ps := [RatMat M]) Cx.mono (fun h g' c => B₅.mono c.2) n_charpoly k_charpoly (evs_cons Cx.mono RatMat.mono (ev_callG (Ps := [IntMat M]) Cx.mono (fun h g' c => B₅.mono c.2) n_from_whole k_from_whole (evs_cons Cx.mono IntMat.mono (ev_var vg rfl IntMat.mono hgrid₅ (.inr ⟨rfl, _, rfl, rfl⟩)) evs_nil)
      (cv_args1 fun u => from_whole_v (r.deeper _ |>.less (by decide)) (by rw [sq.rows, sizeLine_eq]; omega) (fun x hx => by rw [sq.cols x hx, sizeLine_eq]; omega) u)) evs_nil) (cv_args1 fun u => charpoly_v (b := 2) (r.deeper _ |>.less (by decide)) (by omega) sq bd (by decide) PL.dv u)
  · rw [← hrs]
    exact ev_callG (Ps := [RatMat (pw M k p)]) Cx.mono (fun h g' c => B₅.mono c.2) n_charpoly k_charpoly (evs_cons Cx.mono RatMat.mono (ev_callG (Ps := [IntMat (pw M k p)]) Cx.mono (fun h g' c => B₅.mono c.2) n_from_whole k_from_whole (evs_cons Cx.mono IntMat.mono
      (ev_subscript (R := fun X => IntMat X) (k := (p : Int) - 1) mM Cx.mono (by omega) (by omega) (pws_at hp6.1 hp6.2) (fun _ _ => by with_unfolding_all rfl) (ev_var fp rfl (LstV.mono mM _) hpw₅) (ev_sub Cx.mono (ev_var (.int p t') rfl IntV.mono ⟨t', rfl⟩ (.inr ⟨rfl, _, rfl, rfl⟩)) ev_int)) evs_nil)
      (cv_args1 fun u => from_whole_v (r.deeper _ |>.less (by decide)) (by rw [sqp.rows, sizeLine_eq]; omega) (fun x hx => by rw [sqp.cols x hx, sizeLine_eq]; omega) u)) evs_nil) (cv_args1 fun u => charpoly_v (b := 279936) (r.deeper _ |>.less (by decide)) (by omega) sqp bdp (by decide) hdv u)
  rintro val₆ g₆ k₆ ⟨vt, vr, rfl, hvt, hvr⟩
  have B₆ := B₅.mono k₆
  have htr₆ := IntRow.mono _ _ _ k₆ htr
  have lT := toldL_len hk1 hk3 e1 e2 e3
  have lR := toldL_len hk1 hk3 f1 f2 f3
  have hmu : ∀ x : Int, ∀ z ∈ trL e1 e2 e3, IntMulOk x z := fun x z hz => .of_right (intBits_le_64 (by have := tr_small (j := 0) PL one hk3 sq bd z hz; omega) (by have := tr_small (j := 0) PL one hk3 sq bd z hz; omega))
  -- the first three tests
  refine bx_cons (sx_if_no (b := false) (tv_or Cx.mono ?_ (tv_or Cx.mono ?_ (tv_or Cx.mono ?_ tv_or_nil))) rfl) ?_
  · exact tv_neEq (a := ((toldL k e1 e2 e3).length : Int)) (b := (k : Int) + 1) Cx.mono (by rw [lT]; omega) (ev_len (fun _ => RatV.mono) Cx.mono (fun h g' c => B₆.mono c.2) (by rw [lT]; omega) (ev_var vt rfl RatRow.mono hvt)) (ev_add Cx.mono (ev_var (.int k t) rfl IntV.mono ⟨t, rfl⟩ (.inr ⟨rfl, _, rfl, rfl⟩)) ev_int)
  · exact tv_neEq (a := ((toldL k f1 f2 f3).length : Int)) (b := (k : Int) + 1) Cx.mono (by rw [lR]; omega) (ev_len (fun _ => RatV.mono) Cx.mono (fun h g' c => B₆.mono c.2) (by rw [lR]; omega) (ev_var vr rfl RatRow.mono hvr)) (ev_add Cx.mono (ev_var (.int k t) rfl IntV.mono ⟨t, rfl⟩ (.inr ⟨rfl, _, rfl, rfl⟩)) ev_int)
  · refine tv_neNil (r.deeper _ |>.less (by decide)) Cx.mono ?_ ev_nil
    refine ev_comp_none (cl := []) Cx.mono (by with_unfolding_all rfl) rfl (by decide) (fun _ => rfl) (source_pairs r.hh Cx.mono ((ev_concat (R := RatV) (xs := toldL k e1 e2 e3) (ys := toldL k f1 f2 f3) (fun _ => RatV.mono) Cx.mono (by rw [lT, lR, sizeLine_eq]; omega) (ev_var vt rfl RatRow.mono hvt) (ev_var vr rfl RatRow.mono hvr)).conseq fun v g h => rat_pairs h)) ?_ ?_
    · rintro C i bs g ⟨a, b, y, rfl, _⟩ z hz
      rcases List.mem_cons.mp hz with rfl | hz
      · exact .inl rfl
      · rw [List.mem_singleton.mp hz]; exact .inl rfl
    · intro C i bs val hi
      refine tv_fact (F := ∃ a tb, bs = [(Str.ofString "top", a), (Str.ofString "bottom", .int 1 tb)]) ?_ ?_
      · rintro _ _ ⟨_, ⟨_, _, a, b, y, e, hy, _, tb, eb⟩, _⟩
        rw [List.getElem?_map] at hy
        obtain ⟨x, _, rfl⟩ := Option.map_eq_some_iff.mp hy
        exact ⟨a, tb, by rw [e, eb]⟩
      · rintro ⟨a, tb, e⟩
        subst e
        exact tv_neEq (a := 1) (b := 1) (ct0 Cx.mono) rfl (ev_name (.int 1 tb) (fun h g' c k => c.2.2.sees (.inl rfl) rfl) (fun h g' c => ⟨tb, rfl⟩) (by rfl) (by decide)) ev_int
  rintro val₇ g₇ k₇ rfl
  have B₇ := B₆.mono k₇
  have hvt₇ := RatRow.mono _ _ _ k₇ hvt
  have hvr₇ := RatRow.mono _ _ _ k₇ hvr
  have htr₇ := IntRow.mono _ _ _ k₇ htr₆
  -- Newton
  refine bx_cons (sx_if_no (b := false) (tv_or Cx.mono ?_ (tv_or Cx.mono (tv_not (b := true) (tv_bool ?_)) tv_or_nil)) rfl) ?_
  · exact tv_neRat (x := 1) (r.deeper _ |>.less (by decide)) Cx.mono (ev_subscript (R := RatV) (k := (k : Int)) (fun _ => RatV.mono) Cx.mono (by omega) (by omega) (by rw [Int.toNat_natCast]; exact toldL_top hk1 hk3 e1 e2 e3) (fun _ _ => by with_unfolding_all rfl) (ev_var vt rfl RatRow.mono hvt₇) (ev_var (.int k t) rfl IntV.mono ⟨t, rfl⟩ (.inr ⟨rfl, _, rfl, rfl⟩))) (ev_ratpair Cx.mono ev_int ev_int)
  · refine ev_callG (Ps := [IntRow (toldL k e1 e2 e3), IntRow (trL e1 e2 e3), IntV k]) Cx.mono (fun h g' c => B₇.mono c.2) n_newton k_newton (evs_cons Cx.mono IntRow.mono ?_ (evs_cons Cx.mono IntRow.mono (ev_var ft rfl IntRow.mono htr₇ (.inr ⟨rfl, _, rfl, rfl⟩)) (evs_cons Cx.mono IntV.mono (ev_var (.int k t) rfl IntV.mono ⟨t, rfl⟩ (.inr ⟨rfl, _, rfl, rfl⟩)) evs_nil)))
      (cv_args3 fun u v x => newton_right_v (n := 6) (r.deeper _ |>.less (by decide)) (by omega) lT rfl (by omega) hmu (fun kk h1 h6 => newton hk1 hk3 e1 e2 e3 PL.z3 PL.z2 kk h1 h6) u v x)
    refine Ev.conseq (comp_pairs (cl := []) (R' := IntV) (fun y => y.1) Cx.mono (fun _ => IntV.mono) r.hh (by rw [List.length_map, lT, sizeLine_eq]; omega) (by with_unfolding_all rfl) rfl (by decide) (fun _ => rfl) ((ev_var vt rfl RatRow.mono hvt₇).conseq fun v g h => rat_pairs h) (fun C => .inl rfl) (fun C => .inl rfl) ?_) (fun v g h => by rw [List.map_map, show ((fun y : Int × Int => y.1) ∘ fun x : Int => (x, (1 : Int))) = id from rfl, List.map_id] at h; exact h)
    intro C y u v val hy mI
    exact ev_name u (fun h g' c k => c.2.2.sees (.inl rfl) rfl) (fun h g' c => c.2.1.1) (by rfl) (by decide)
  rintro val₈ g₈ k₈ rfl
  have B₈ := B₇.mono k₈
  have hvt₈ := RatRow.mono _ _ _ k₈ hvt₇
  have hvr₈ := RatRow.mono _ _ _ k₈ hvr₇
  have htr₈ := IntRow.mono _ _ _ k₈ htr₇
  have hn16 : 1 ≤ n ∧ n ≤ 6 := by omega
  have hdin := divs_in hn16.1 hn16.2
  -- Gauss
  refine bx_cons (sx_if_no (b := false) (tv_neEq (a := ((divL n).map (gsF n e1 e2 e3)).sum.fmod (n : Int)) (b := 0) Cx.mono (by rw [Int.fmod_eq_emod_of_nonneg _ (by omega)]; exact gsF_sum hn16.1 hn16.2 e1 e2 e3) (ev_mod Cx.mono (by omega) (ev_callBG (Ps := [IntRow ((divL n).map (gsF n e1 e2 e3))]) Cx.mono (fun h g' c => B₈.mono c.2) n_sum boot_sum (evs_cons Cx.mono IntRow.mono ?_ evs_nil) (cv_sum (A := A.deeper _) r.hh)) (ev_var (.int n t'') rfl IntV.mono ⟨t'', rfl⟩ (.inr ⟨rfl, _, rfl, rfl⟩))) ev_int) rfl) ?_
  · refine comp_list (R := IntV) (R' := IntV) (cl := [(Str.ofString "traces", L + 6), (Str.ofString "n", L + 4)]) (gsF n e1 e2 e3) Cx.mono (fun _ => IntV.mono) (fun _ => IntV.mono) r.hh (by unfold divL; rw [List.length_map, sizeLine_eq]; omega) (by with_unfolding_all rfl) rfl (by decide) (fun _ => rfl)
      (ev_callG (Ps := [IntV n]) Cx.mono (fun h g' c => B₈.mono c.2) n_divisors k_divisors (evs_cons Cx.mono IntV.mono (ev_var (.int n t'') rfl IntV.mono ⟨t'', rfl⟩ (.inr ⟨rfl, _, rfl, rfl⟩)) evs_nil) (cv_args1 fun u => divisors_v (r.deeper _ |>.less (by decide)) hn16.1 hn16.2 u)) (fun C => .inl rfl) ?_
    intro C y v val hy mI
    obtain ⟨d, hd, rfl⟩ := List.mem_map.mp hy
    obtain ⟨d1, d6, q1, q6⟩ := hdin.2 d hd
    show Ev _ _ _ _ _ (IntV (mob (n / ((d : Nat) : Int).toNat) * (trL e1 e2 e3).getD (((d : Nat) : Int).toNat - 1) 0))
    rw [Int.toNat_natCast]
    refine ev_mul mI (.of_left (intBits_le_64 (by have := mob_small (n / d); omega) (by have := mob_small (n / d); omega))) ?_ ?_
    · exact ev_callG (Ps := [IntV ((n / d : Nat) : Int)]) mI (fun h g' c => B₈.mono c.1.2) n_moebius k_moebius (evs_cons mI IntV.mono (by
        rw [← fdivN n d (by omega)]
        exact ev_fdiv mI r.hh (by omega) (PyProof.noPylong_small (by omega)) (ev_name (.int n t'') (fun h g' c k => sees_up c.1.1 rfl rfl rfl rfl rfl) (fun h g' c => ⟨t'', rfl⟩) (by rfl) (by decide)) (ev_name v (fun h g' c k => c.2.2.sees (.inl rfl) rfl) (fun h g' c => c.2.1) (by rfl) (by decide))) evs_nil) (cv_args1 fun u => moebius_v (r.deeper _ |>.less (by decide)) q1 q6 u)
    · exact ev_at (k := ((d : Nat) : Int) - 1) (j := d - 1) mI (by omega) (by show d - 1 < 6; omega) (by show 6 < 1000; omega) (fun _ _ => by with_unfolding_all rfl) (ev_name ft (fun h g' c k => sees_up c.1.1 rfl rfl rfl rfl rfl) (fun h g' c => IntRow.mono _ _ _ c.1.2 htr₈) (by rfl) (by decide)) (ev_sub mI (ev_name v (fun h g' c k => c.2.2.sees (.inl rfl) rfl) (fun h g' c => c.2.1) (by rfl) (by decide)) ev_int)
  rintro val₉ g₉ k₉ rfl
  have B₉ := B₈.mono k₉
  have hvt₉ := RatRow.mono _ _ _ k₉ hvt₈
  have hvr₉ := RatRow.mono _ _ _ k₉ hvr₈
  have hmod := toldL_mod hk1 hk3 m1 m2 m3
  -- the power's numbers
  refine bx_ret (ev_eqNil (r.deeper _ |>.less (by decide)) Cx.mono ?_ ev_nil)
  refine ev_comp_none (cl := [(Str.ofString "p", L + 3)]) Cx.mono (by with_unfolding_all rfl) rfl (by decide) (fun _ => rfl) (source_zip (R := RatV) (R' := RatV) (xs := toldL k e1 e2 e3) (ys := toldL k f1 f2 f3) (fun _ => RatV.mono) (fun _ => RatV.mono) r.hh Cx.mono (by rw [lT, lR]) (ev_var vt rfl RatRow.mono hvt₉) (ev_var vr rfl RatRow.mono hvr₉) (fun h g' c k => sees_built (B₉.mono c.2) k n_zip boot_zip (by decide) rfl rfl rfl) rfl) ?_ ?_
  · rintro C i bs g ⟨a, b, y, z, rfl, _⟩ x hx
    rcases List.mem_cons.mp hx with rfl | hx
    · exact .inl rfl
    · rw [List.mem_singleton.mp hx]; exact .inl rfl
  · intro C i bs val hi
    refine tv_fact (F := ∃ u v a c, bs = [(Str.ofString "one", u), (Str.ofString "other", v)] ∧ (toldL k e1 e2 e3)[i]? = some a ∧ (toldL k f1 f2 f3)[i]? = some c) (by rintro _ _ ⟨_, ⟨_, _, u, v, a, c, e, ha, hc, _⟩, _⟩; exact ⟨u, v, a, c, e, ha, hc⟩) ?_
    rintro ⟨u, v, a, c, e, ha, hc⟩
    subst e
    refine tv_neEq (a := (a - c).fmod (p : Int)) (b := 0) (ct0 Cx.mono) (by rw [Int.fmod_eq_emod_of_nonneg _ (by omega)]; exact hmod i a c ha hc) (ev_mod (ct0 Cx.mono) (by omega) (ev_sub (ct0 Cx.mono) (ev_rat0 (ev_name u (fun h g' x k => x.2.2.sees (.inl rfl) rfl) (fun h g' x => ?_) (by rfl) (by decide))) (ev_rat0 (ev_name v (fun h g' x k => x.2.2.sees (.inl rfl) rfl) (fun h g' x => ?_) (by rfl) (by decide)))) (ev_name (.int p t') (fun h g' c k => sees_up c.1.1 rfl rfl rfl rfl rfl) (fun h g' c => ⟨t', rfl⟩) (by rfl) (by decide))) ev_int
    · obtain ⟨_, ⟨g₀, kg, u', v', a', c', e, ha', hc', hu', hv'⟩, _⟩ := x
      cases e
      rw [ha] at ha'; cases ha'
      exact RatV.mono _ _ _ kg hu'
    · obtain ⟨_, ⟨g₀, kg, u', v', a', c', e, ha', hc', hu', hv'⟩, _⟩ := x
      cases e
      rw [hc] at hc'; cases hc'
      exact RatV.mono _ _ _ kg hv'
end

end Mine

open Mine
set_option maxRecDepth 100000 in
set_option maxHeartbeats 8000000 in
theorem PySem.Challenge.cw_sa0096_01_holds : PySem.Challenge.rw_sa0096_01.Holds := by
  refine Mine.hd ?_
  k_fill
  intro w s₀ s₁ mg mb G Y fa o pm cd doc dV kV ho hd hcd hD hmg hg args vals as hpre hlay hrd hwl hlo
  have KX := kIn_of Y
  refine Ground.open G ?_
  intro T B D TE TW
  try (refine guard_noD D (by decide +kernel) ?_; clear D)
  have hfa := hmg
  clear hmg
  wrow_args hpre hlay hrd hwl hlo
  all_goals (first | refine callC_kw (enter_call ?_) | refine enter_call ?_ | refine callC_kw (enter_callW ?_) | refine enter_callW ?_)
  rename_i xs _ _ _ _ _ _ _ l vs _ hlist _ _ _ hints _ hlen _
  have e : mg (Str.ofString "law") = some (.ref 203) := mg_of KX T.g n_law
  have e2 : (Value.ref fa) = .ref 203 := by
    have h3 := hfa.symm.trans e
    injection h3
  rw [e2]
  obtain ⟨hln, hr⟩ := of_intsAre (g := s₁.heap) hints
  refine codeAny_mono (law_code (xs := xs) ⟨rfl, by decide, by decide⟩ (by omega) _ s₁ s₁.heap ⟨⟨_, _, _, _, _, KX, T⟩, l, vs.toArray, rfl, hlist, by rw [List.size_toArray]; exact hln, fun j x e => by obtain ⟨u, a, b⟩ := hr j x e; exact ⟨u, by rw [List.getElem?_toArray]; exact a, b⟩⟩ (stays_refl _)) fun rr s' q => ?_
  obtain ⟨v, rfl, g', hv, gr, st, h', tk, rfl, kk⟩ := q
  have hv : v = .bool true := hv
  subst hv
  refine ⟨.inl ⟨.bool true, .bool true, [], rfl, fun _ => rfl, .bool true, ?_, unshared_nil⟩, .of_keep kk, rfl, .of_eq hg⟩
  first | rfl | decide | kernel_rfl
