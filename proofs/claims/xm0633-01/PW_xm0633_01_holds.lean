import PyProof.Rows.All
import Wide.All
import OpenK.AllK
import Wide.FinOn
import PyProof.AttrMissHeap
import KE.KDictOf
import KE.KDictList
import KE.KSortTup
import Lean
import PySem.Challenge.RW_xm0633_01
open PySem PySem.W PyProof.Rows
set_option Elab.async false
set_option linter.all false
namespace Mine
set_option maxRecDepth 100000 in
set_option maxHeartbeats 8000000 in
set_option synthInstance.maxSize 1 in
open_top hd for PySem.Challenge.rw_xm0633_01
set_option maxRecDepth 100000
open PySem PySem.W PySem.Spec PySem.Calls PyProof.Rows
section
open PySem PySem.W PySem.Spec PySem.Calls PyProof.Rows

/-! ## heaps: a ghost heap g (what never turns) below the heap h -/
def Le (g h : Heap) : Prop := ∀ b o, g.get? b = some o → h.get? b = some o
theorem Le.refl (g : Heap) : Le g g := fun _ _ e => e
theorem Le.trans {a b c : Heap} (x : Le a b) (y : Le b c) : Le a c := fun _ _ e => y _ _ (x _ _ e)
theorem Le.push (h : Heap) (o : Obj) : Le h (h.push o) := fun _ _ e => Heap.get?_push_of_some o e

structure Grow (g h g' h' : Heap) : Prop where
  gg : Le g g'
  gh : Le g' h'
  hh : Le h h'
  fr : ∀ b o, h.get? b = some o → g.get? b = none → g'.get? b = none
theorem Grow.refl {g h : Heap} (x : Le g h) : Grow g h g h := ⟨Le.refl g, x, Le.refl h, fun _ _ _ e => e⟩
theorem Grow.trans {g h g1 h1 g2 h2 : Heap} (x : Grow g h g1 h1) (y : Grow g1 h1 g2 h2) : Grow g h g2 h2 :=
  ⟨x.gg.trans y.gg, y.gh, x.hh.trans y.hh, fun b o e e' => y.fr b o (x.hh b o e) (x.fr b o e e')⟩

def ghostOf (h : Heap) (P : Addr → Bool) : Heap := ⟨h.objs.mapIdx fun i o => if P i then o else { cls := .none, data := .freed }, {}⟩
theorem ghostOf_get (h : Heap) (P : Addr → Bool) (b : Addr) : (ghostOf h P).get? b = if P b then h.get? b else none := by
  obtain ⟨objs, l⟩ := h
  unfold ghostOf Heap.get?
  simp only [Array.getElem?_mapIdx]
  cases e : objs[b]? with
  | none => by_cases p : P b = true <;> simp [p]
  | some o =>
    by_cases p : P b = true
    · simp [p]
    · simp [p]
theorem ghost_ex {g h : Heap} {a : Addr} {o : Obj} (hg : Le g h) (ha : h.get? a = some o) : ∃ g' : Heap, ∀ b, g'.get? b = if b = a then some o else g.get? b := by
  refine ⟨ghostOf h fun b => decide (b = a) || (g.get? b).isSome, fun b => ?_⟩
  rw [ghostOf_get]
  by_cases hb : b = a
  · subst hb; simp [ha]
  · cases e : g.get? b with
    | none => simp [hb]
    | some o' => simp [hb, hg b o' e]
/-- the heap without one address -/
theorem hide_ex (h : Heap) (a : Addr) : ∃ g' : Heap, ∀ b, g'.get? b = if b = a then none else h.get? b := by
  refine ⟨ghostOf h fun b => decide (b ≠ a), fun b => ?_⟩
  rw [ghostOf_get]
  by_cases hb : b = a <;> simp [hb]

theorem get_fresh (h : Heap) : h.get? h.objs.size = none := Heap.get?_none_of_le (Nat.le_refl _)
theorem Le.none {g h : Heap} (x : Le g h) {b : Addr} (e : h.get? b = none) : g.get? b = none := by
  cases q : g.get? b with
  | none => rfl
  | some o => rw [x b o q] at e; cases e
theorem Grow.push {g h : Heap} (hg : Le g h) (o : Obj) (hf : o.isFreed = false) : ∃ g', Grow g h g' (h.push o) ∧ g'.get? h.objs.size = some o := by
  have ha : (h.push o).get? h.objs.size = some o := Heap.get?_push_size _ hf
  obtain ⟨g', e⟩ := ghost_ex (hg.trans (Le.push h o)) ha
  have n : g.get? h.objs.size = none := hg.none (get_fresh h)
  refine ⟨g', ⟨fun b x q => ?_, fun b x q => ?_, Le.push h o, fun b x q q' => ?_⟩, by rw [e]; simp⟩
  · rw [e]; by_cases hb : b = h.objs.size
    · subst hb; rw [n] at q; cases q
    · rw [if_neg hb]; exact q
  · rw [e] at q; by_cases hb : b = h.objs.size
    · subst hb; rw [if_pos rfl] at q; cases q; exact ha
    · rw [if_neg hb] at q; exact Le.push h o b x (hg b x q)
  · rw [e]; by_cases hb : b = h.objs.size
    · subst hb; rw [get_fresh] at q; cases q
    · rw [if_neg hb]; exact q'
theorem Grow.push0 {g h : Heap} (hg : Le g h) (o : Obj) : Grow g h g (h.push o) := ⟨Le.refl g, hg.trans (Le.push h o), Le.push h o, fun _ _ _ e => e⟩
theorem Grow.of_le {g h h' : Heap} (hg : Le g h) (x : Le h h') : Grow g h g h' := ⟨Le.refl g, hg.trans x, x, fun _ _ _ e => e⟩

/-! ## data read in a heap -/
def Rd (g : Heap) (v : Value) (d : PyData) : Prop := ∃ as, Reads g v d as
def RdAll (g : Heap) (vs : List Value) (ds : List PyData) : Prop := ∃ as, ReadsAll g vs ds as
theorem Rd.mono {g g' : Heap} (x : Le g g') {v : Value} {d : PyData} (r : Rd g v d) : Rd g' v d := let ⟨as, r⟩ := r; ⟨as, Reads.keeps x r⟩
theorem RdAll.mono {g g' : Heap} (x : Le g g') {v : List Value} {d : List PyData} (r : RdAll g v d) : RdAll g' v d := let ⟨as, r⟩ := r; ⟨as, ReadsAll.keeps x r⟩
theorem RdAll.nil {g : Heap} : RdAll g [] [] := ⟨_, .nil⟩
theorem RdAll.cons {g : Heap} {v : Value} {vs : List Value} {d : PyData} {ds : List PyData} (a : Rd g v d) (b : RdAll g vs ds) : RdAll g (v :: vs) (d :: ds) :=
  let ⟨_, a⟩ := a; let ⟨_, b⟩ := b; ⟨_, .cons a b⟩
theorem RdAll.cons_inv {g : Heap} {v : Value} {vs : List Value} {ds : List PyData} (a : RdAll g (v :: vs) ds) : ∃ d ds', ds = d :: ds' ∧ Rd g v d ∧ RdAll g vs ds' := by
  obtain ⟨_, a⟩ := a
  cases a with
  | cons a b => exact ⟨_, _, rfl, ⟨_, a⟩, ⟨_, b⟩⟩
theorem RdAll.cons_inv' {g : Heap} {vs : List Value} {d : PyData} {ds : List PyData} (a : RdAll g vs (d :: ds)) : ∃ v vs', vs = v :: vs' ∧ Rd g v d ∧ RdAll g vs' ds := by
  obtain ⟨_, a⟩ := a
  cases a with
  | cons a b => exact ⟨_, _, rfl, ⟨_, a⟩, ⟨_, b⟩⟩
theorem RdAll.nil_inv {g : Heap} {vs : List Value} (a : RdAll g vs []) : vs = [] := by
  obtain ⟨_, a⟩ := a
  cases a; rfl
theorem RdAll.length {g : Heap} : ∀ {vs : List Value} {ds : List PyData}, RdAll g vs ds → vs.length = ds.length
  | [], ds, r => by obtain ⟨_, r⟩ := r; cases r; rfl
  | v :: vs, ds, r => by
    obtain ⟨d, ds', rfl, _, b⟩ := r.cons_inv
    rw [List.length_cons, List.length_cons, b.length]
theorem RdAll.get {g : Heap} : ∀ {vs : List Value} {ds : List PyData}, RdAll g vs ds → ∀ {k : Nat} {d : PyData}, ds[k]? = some d → ∃ v, vs[k]? = some v ∧ Rd g v d
  | [], ds, r, k, d, e => by obtain ⟨_, r⟩ := r; cases r; simp at e
  | v :: vs, ds, r, k, d, e => by
    obtain ⟨d', ds', rfl, a, b⟩ := r.cons_inv
    cases k with
    | zero => simp at e; subst e; exact ⟨v, rfl, a⟩
    | succ k => simp at e; obtain ⟨u, q, z⟩ := b.get e; exact ⟨u, by simpa using q, z⟩
theorem RdAll.append {g : Heap} : ∀ {vs ws : List Value} {ds es : List PyData}, RdAll g vs ds → RdAll g ws es → RdAll g (vs ++ ws) (ds ++ es)
  | [], ws, ds, es, r, q => by obtain ⟨_, r⟩ := r; cases r; exact q
  | v :: vs, ws, ds, es, r, q => by
    obtain ⟨d', ds', rfl, a, b⟩ := r.cons_inv
    exact .cons a (b.append q)
theorem RdAll.split {g : Heap} : ∀ {vs : List Value} {ds es : List PyData}, RdAll g vs (ds ++ es) → ∃ us ws, vs = us ++ ws ∧ RdAll g us ds ∧ RdAll g ws es
  | vs, [], es, r => ⟨[], vs, rfl, .nil, r⟩
  | vs, d :: ds, es, r => by
    obtain ⟨v, vs', rfl, a, b⟩ := RdAll.cons_inv' r
    obtain ⟨us, ws, rfl, p, q⟩ := RdAll.split b
    exact ⟨v :: us, ws, rfl, .cons a p, q⟩
theorem Rd.none {g : Heap} : Rd g .none .none := ⟨_, .none⟩
theorem Rd.bool {g : Heap} (b : Bool) : Rd g (.bool b) (.bool b) := ⟨_, .bool b⟩
theorem Rd.int {g : Heap} (i : Int) (t : Tok) : Rd g (.int i t) (.int i) := ⟨_, .int i t⟩
theorem Rd.str {g : Heap} (x : Str) (t : Tok) : Rd g (.str x t) (.str x) := ⟨_, .str x t⟩
theorem Rd.bool_inv {g : Heap} {v : Value} {b : Bool} (r : Rd g v (.bool b)) : v = .bool b := by obtain ⟨_, r⟩ := r; cases r; rfl
theorem Rd.none_inv {g : Heap} {v : Value} (r : Rd g v .none) : v = .none := by obtain ⟨_, r⟩ := r; cases r; rfl
theorem Rd.int_inv {g : Heap} {v : Value} {i : Int} (r : Rd g v (.int i)) : ∃ t, v = .int i t := by obtain ⟨_, r⟩ := r; cases r; exact ⟨_, rfl⟩
theorem Rd.str_inv {g : Heap} {v : Value} {x : Str} (r : Rd g v (.str x)) : ∃ t, v = .str x t := by obtain ⟨_, r⟩ := r; cases r; exact ⟨_, rfl⟩
abbrev tupO (vs : List Value) (n : Nat := 0) : Obj := { cls := .type "tuple", data := .seq vs.toArray n }
abbrev lstO (vs : List Value) (n : Nat := 0) : Obj := { cls := .type "list", data := .seq vs.toArray n }
theorem Rd.tuple_inv {g : Heap} {v : Value} {ds : List PyData} (r : Rd g v (.tuple ds)) : ∃ a vs, v = .ref a ∧ IsTup g a vs.toArray ∧ RdAll g vs ds := by
  obtain ⟨_, r⟩ := r
  cases r with
  | @tuple a o vs n _ _ h1 h2 h3 h4 => exact ⟨a, vs.toList, rfl, ⟨o, h1, h2, n, by simpa using h3⟩, ⟨_, h4⟩⟩
theorem Rd.list_inv {g : Heap} {v : Value} {ds : List PyData} (r : Rd g v (.list ds)) : ∃ a vs, v = .ref a ∧ g.IsList a vs.toArray ∧ RdAll g vs ds := by
  obtain ⟨_, r⟩ := r
  cases r with
  | @list a o vs n _ _ h1 h2 h3 h4 => exact ⟨a, vs.toList, rfl, ⟨o, h1, h2, n, by simpa using h3⟩, ⟨_, h4⟩⟩
theorem Rd.tuple {g : Heap} {a : Addr} {vs : List Value} {ds : List PyData} (t : IsTup g a vs.toArray) (r : RdAll g vs ds) : Rd g (.ref a) (.tuple ds) := by
  obtain ⟨o, h1, h2, n, h3⟩ := t
  obtain ⟨_, r⟩ := r
  exact ⟨_, .tuple h1 h2 h3 (by simpa using r)⟩
theorem Rd.list {g : Heap} {a : Addr} {vs : List Value} {ds : List PyData} (t : g.IsList a vs.toArray) (r : RdAll g vs ds) : Rd g (.ref a) (.list ds) := by
  obtain ⟨o, h1, h2, n, h3⟩ := t
  obtain ⟨_, r⟩ := r
  exact ⟨_, .list h1 h2 h3 (by simpa using r)⟩
theorem isTup_of {g : Heap} {a : Addr} {vs : List Value} {n : Nat} (e : g.get? a = some (tupO vs n)) : IsTup g a vs.toArray := ⟨_, e, rfl, n, rfl⟩
theorem isList_of {g : Heap} {a : Addr} {vs : List Value} {n : Nat} (e : g.get? a = some (lstO vs n)) : g.IsList a vs.toArray := ⟨_, e, rfl, n, rfl⟩
theorem IsTup.le {g h : Heap} {a : Addr} {vs : Array Value} (x : Le g h) (t : IsTup g a vs) : IsTup h a vs := IsTup.keeps t x
theorem IsList.le {g h : Heap} {a : Addr} {vs : Array Value} (x : Le g h) (t : g.IsList a vs) : h.IsList a vs := let ⟨o, e, r⟩ := t; ⟨o, x _ _ e, r⟩

/-! ## the situation in a frame; trees that keep it -/
abbrev Mu := List (Addr × Obj)
structure Sit (env : Env) (m : Str → Option Value) (mu : Mu) (g h : Heap) : Prop where
  gh : Le g h
  ns : h.Ns env.locals m
  gL : g.get? env.locals = none
  mu : ∀ p ∈ mu, h.get? p.1 = some p.2 ∧ g.get? p.1 = none
theorem Sit.grow {env : Env} {m : Str → Option Value} {mu : Mu} {g h g' h' : Heap} (x : Sit env m mu g h) (y : Grow g h g' h') : Sit env m mu g' h' :=
  ⟨y.gh, x.ns.keeps y.hh, by obtain ⟨o, _, _, e, _⟩ := x.ns; exact y.fr _ _ e x.gL, fun p hp => ⟨y.hh _ _ (x.mu p hp).1, y.fr _ _ (x.mu p hp).1 (x.mu p hp).2⟩⟩
theorem Sit.drop {env : Env} {m : Str → Option Value} {mu : Mu} {g h : Heap} (x : Sit env m mu g h) : Sit env m [] g h := ⟨x.gh, x.ns, x.gL, fun _ h => nomatch h⟩

abbrev Pd := Heap → Value → Prop
abbrev Da (d : PyData) : Pd := fun g v => Rd g v d
def Tr (prog : Program) (w : World) (A : Around) (env : Env) (m : Str → Option Value) (mu : Mu) (g : Heap) (t : Sem Value) (R : Pd) : Prop :=
  ∀ (s : Shared) (g₁ : Heap) (Q : Value → Shared → Prop) (E : Value → Shared → Prop), Le g g₁ → Sit env m mu g₁ s.heap →
    (∀ v g' h' tk, Grow g₁ s.heap g' h' → R g' v → Q v { s with heap := h', toks := tk }) → wpAny (model prog w) A t Q E s
abbrev Ev (prog : Program) (w : World) (A : Around) (env : Env) (m : Str → Option Value) (mu : Mu) (g : Heap) (e : Expr) (R : Pd) : Prop := Tr prog w A env m mu g (eval e env) R
/-- a test -/
def Ts (prog : Program) (w : World) (A : Around) (env : Env) (m : Str → Option Value) (mu : Mu) (g : Heap) (e : Expr) (b : Bool) : Prop :=
  ∀ (s : Shared) (g₁ : Heap) (Q : Bool → Shared → Prop) (E : Value → Shared → Prop), Le g g₁ → Sit env m mu g₁ s.heap →
    (∀ g' h' tk, Grow g₁ s.heap g' h' → Q b { s with heap := h', toks := tk }) → wpAny (model prog w) A (isTrue e env (eval e env)) Q E s
/-- a row of trees -/
def Sp (prog : Program) (w : World) (A : Around) (env : Env) (m : Str → Option Value) (mu : Mu) (g : Heap) (ts : List (Bool × Sem Value)) (R : Heap → List Value → Prop) : Prop :=
  ∀ (s : Shared) (g₁ : Heap) (Q : List Value → Shared → Prop) (E : Value → Shared → Prop), Le g g₁ → Sit env m mu g₁ s.heap →
    (∀ vs g' h' tk, Grow g₁ s.heap g' h' → R g' vs → Q vs { s with heap := h', toks := tk }) → wpAny (model prog w) A (spliced ts) Q E s

section
variable {prog : Program} {w : World} {A : Around} {env : Env} {m : Str → Option Value} {mu : Mu} {g : Heap}
theorem Tr.mono {g' : Heap} {t : Sem Value} {R : Pd} (h : Tr prog w A env m mu g t R) (x : Le g g') : Tr prog w A env m mu g' t R := fun s g₁ Q E hg => h s g₁ Q E (x.trans hg)
theorem Tr.weak {t : Sem Value} {R R' : Pd} (h : Tr prog w A env m mu g t R) (x : ∀ g v, R g v → R' g v) : Tr prog w A env m mu g t R' :=
  fun s g₁ Q E hg X k => h s g₁ Q E hg X fun v g' h' tk G r => k v g' h' tk G (x _ _ r)
theorem Ts.mono {g' : Heap} {e : Expr} {b : Bool} (h : Ts prog w A env m mu g e b) (x : Le g g') : Ts prog w A env m mu g' e b := fun s g₁ Q E hg => h s g₁ Q E (x.trans hg)

/-- a monotone relation -/
def Mono (R : Pd) : Prop := ∀ g g' v, Le g g' → R g v → R g' v
theorem mono_da (d : PyData) : Mono (Da d) := fun _ _ _ x r => r.mono x

theorem Tr.const_int {i : Int} {k : Nat} {pos : Pos} : Ev prog w A env m mu g (.Constant (.int i) k pos) (Da (.int i)) :=
  fun s _ _ _ _ X k => wpAny_Constant_int (k _ _ s.heap _ (Grow.refl X.gh) (.int _ _))
theorem Tr.const_str {x : Str} {k : Nat} {pos : Pos} : Ev prog w A env m mu g (.Constant (.str x) k pos) (Da (.str x)) :=
  fun s _ _ _ _ X k => Calls.Constant_str (k _ _ s.heap _ (Grow.refl X.gh) (.str _ _))
theorem Tr.const_none {k : Nat} {pos : Pos} : Ev prog w A env m mu g (.Constant .none k pos) (Da .none) :=
  fun s _ _ _ _ X k => wpAny_Constant_none (k _ _ s.heap s.toks (Grow.refl X.gh) .none)
theorem Tr.const_bool {b : Bool} {k : Nat} {pos : Pos} : Ev prog w A env m mu g (.Constant (.bool b) k pos) (Da (.bool b)) :=
  fun s _ _ _ _ X k => wpAny_Constant_bool (k _ _ s.heap s.toks (Grow.refl X.gh) (.bool _))
theorem Tr.name {x : Str} {pos : Pos} {v : Value} {R : Pd} (hv : m x = some v) (hm : Mono R) (r : R g v) (hk : env.scope.kind = .function := by rfl) (hl : env.kindOf x = some .local := by rfl)
    (hd : (x == ("__debug__" : Str)) = false := by decide) : Ev prog w A env m mu g (.Name x pos) R :=
  fun s _ _ _ hg X k => wpAny_Name (wpAny_loadName_local hk hl X.ns hv (k _ _ s.heap s.toks (Grow.refl X.gh) (hm _ _ _ hg r))) hd

theorem Sp.nil : Sp prog w A env m mu g [] (fun _ vs => vs = []) := fun s _ _ _ _ X k => Calls.spliced_nil (k _ _ s.heap s.toks (Grow.refl X.gh) rfl)
theorem Sp.cons {t : Sem Value} {ts : List (Bool × Sem Value)} {R : Pd} {RR : Heap → List Value → Prop} (hm : Mono R) (h : Tr prog w A env m mu g t R) (hs : Sp prog w A env m mu g ts RR) :
    Sp prog w A env m mu g ((false, t) :: ts) (fun g vs => ∃ v us, vs = v :: us ∧ R g v ∧ RR g us) :=
  fun s _ _ _ hg X k => Calls.spliced_cons (h s _ _ _ hg X fun v g' h' tk G r => hs _ _ _ _ (hg.trans G.gg) (X.grow G) fun us g2 h2 tk2 G2 r2 => k _ _ _ _ (G.trans G2) ⟨v, us, rfl, hm _ _ _ G2.gg r, r2⟩)
/-- rows of data -/
abbrev SpD (prog : Program) (w : World) (A : Around) (env : Env) (m : Str → Option Value) (mu : Mu) (g : Heap) (ts : List (Bool × Sem Value)) (ds : List PyData) : Prop := Sp prog w A env m mu g ts (fun g vs => RdAll g vs ds)
theorem SpD.nil : SpD prog w A env m mu g [] [] := fun s _ _ _ _ X k => Calls.spliced_nil (k _ _ s.heap s.toks (Grow.refl X.gh) .nil)
theorem SpD.cons {t : Sem Value} {ts : List (Bool × Sem Value)} {d : PyData} {ds : List PyData} (h : Tr prog w A env m mu g t (Da d)) (hs : SpD prog w A env m mu g ts ds) : SpD prog w A env m mu g ((false, t) :: ts) (d :: ds) :=
  fun s _ _ _ hg X k => Calls.spliced_cons (h s _ _ _ hg X fun v g' h' tk G r => hs _ _ _ _ (hg.trans G.gg) (X.grow G) fun us g2 h2 tk2 G2 r2 => k _ _ _ _ (G.trans G2) (.cons (r.mono G2.gg) r2))

theorem SpE.nil {pos : Pos} : SpD prog w A env m mu g (backTo pos (starEach [] env)) [] := SpD.nil
theorem SpE.cons {pos : Pos} {e : Expr} {rest : List Expr} {d : PyData} {ds : List PyData} (h : Ev prog w A env m mu g e (Da d)) (hs : SpD prog w A env m mu g (backTo pos (starEach rest env)) ds)
    (he : starEach (e :: rest) env = (false, eval e env) :: starEach rest env := by rfl) : SpD prog w A env m mu g (backTo pos (starEach (e :: rest) env)) (d :: ds) := by
  rw [he]
  exact SpD.cons h hs

theorem newTuple_tr {vs : List Value} {ds : List PyData} {s : Shared} {Q : Value → Shared → Prop} {E : Value → Shared → Prop} (hg : Le g s.heap) (r : RdAll g vs ds) (hsz : vs.length ≤ sizeLine)
    (k : ∀ v g' h', Grow g s.heap g' h' → Rd g' v (.tuple ds) → Q v { s with heap := h' }) : wpAny (model prog w) A (newTuple vs) Q E s := by
  obtain ⟨g', G, e⟩ := Grow.push hg (tupO vs) rfl
  exact wpAny_newTuple (k _ g' _ G (.tuple (isTup_of e) (r.mono G.gg))) hsz
theorem newList_tr {vs : List Value} {ds : List PyData} {s : Shared} {Q : Value → Shared → Prop} {E : Value → Shared → Prop} (hg : Le g s.heap) (r : RdAll g vs ds) (hsz : vs.length ≤ sizeLine)
    (k : ∀ v g' h', Grow g s.heap g' h' → Rd g' v (.list ds) → Q v { s with heap := h' }) : wpAny (model prog w) A (newList vs) Q E s := by
  obtain ⟨g', G, e⟩ := Grow.push hg (lstO vs) rfl
  exact wpAny_newList (k _ g' _ G (.list (isList_of e) (r.mono G.gg))) hsz
theorem Tr.tuple {elts : List Expr} {k : Nat} {pos : Pos} {ds : List PyData} (h : SpD prog w A env m mu g (backTo pos (starEach elts env)) ds) (hsz : ds.length ≤ sizeLine := by exact Nat.le_of_ble_eq_true rfl) :
    Ev prog w A env m mu g (.Tuple elts k pos) (Da (.tuple ds)) :=
  fun _ _ _ _ hg X k => Tuple_ (h _ _ _ _ hg X fun _ _ _ _ G r => newTuple_tr G.gh r (by rw [r.length]; exact hsz) fun v g2 h2 G2 r2 => k v g2 h2 _ (G.trans G2) r2)
theorem Tr.list {elts : List Expr} {pos : Pos} {ds : List PyData} (h : SpD prog w A env m mu g (backTo pos (starEach elts env)) ds) (hsz : ds.length ≤ sizeLine := by exact Nat.le_of_ble_eq_true rfl) :
    Ev prog w A env m mu g (.List elts pos) (Da (.list ds)) :=
  fun _ _ _ _ hg X k => List_ (h _ _ _ _ hg X fun _ _ _ _ G r => newList_tr G.gh r (by rw [r.length]; exact hsz) fun v g2 h2 G2 r2 => k v g2 h2 _ (G.trans G2) r2)

theorem Tr.sub_tuple {value slice : Expr} {pos : Pos} {ds : List PyData} {i : Int} {j : Nat} {d : PyData} (h1 : Ev prog w A env m mu g value (Da (.tuple ds))) (h2 : Ev prog w A env m mu g slice (Da (.int i)))
    (hlo : -(2 ^ 63) ≤ i) (hhi : i < 2 ^ 63) (hj : seqIndex? i ds.length = some j) (hd : ds[j]? = some d)
    (hs : ∀ (t : Addr) (i : Int) (u : Tok), subscripted slice false (.ref t) (.int i u) = operate [.ref t, .int i u] (getItem (.ref t) (.int i u)) := by intro _ _ _; with_unfolding_all rfl) :
    Ev prog w A env m mu g (.Subscript value slice pos) (Da d) :=
  fun _ _ _ _ hg X k => Subscript_ (h1 _ _ _ _ hg X fun v g1 h1' tk1 G1 r1 => h2 _ _ _ _ (hg.trans G1.gg) (X.grow G1) fun u g2 h2' tk2 G2 r2 => by
    obtain ⟨t, rfl⟩ := r2.int_inv
    obtain ⟨a, vs, rfl, ht, hr⟩ := (r1.mono G2.gg).tuple_inv
    obtain ⟨x, hx, rx⟩ := hr.get hd
    exact item_tupleT (IsTup.le G2.gh ht) hlo hhi (by rw [hr.length]; exact hj) hx (k _ _ _ _ (G1.trans G2) rx) (hs _ _ _))
theorem Tr.sub_list {value slice : Expr} {pos : Pos} {ds : List PyData} {i : Int} {d : PyData} (h1 : Ev prog w A env m mu g value (Da (.list ds))) (h2 : Ev prog w A env m mu g slice (Da (.int i)))
    (hlo : 0 ≤ i) (hhi : i < 2 ^ 63) (hd : ds[i.toNat]? = some d)
    (hs : ∀ (t : Addr) (i : Int) (u : Tok), subscripted slice false (.ref t) (.int i u) = operate [.ref t, .int i u] (getItem (.ref t) (.int i u)) := by intro _ _ _; with_unfolding_all rfl) :
    Ev prog w A env m mu g (.Subscript value slice pos) (Da d) :=
  fun _ _ _ _ hg X k => Subscript_ (h1 _ _ _ _ hg X fun v g1 h1' tk1 G1 r1 => h2 _ _ _ _ (hg.trans G1.gg) (X.grow G1) fun u g2 h2' tk2 G2 r2 => by
    obtain ⟨t, rfl⟩ := r2.int_inv
    obtain ⟨a, vs, rfl, ht, hr⟩ := (r1.mono G2.gg).list_inv
    obtain ⟨x, hx, rx⟩ := hr.get hd
    have hL := IsList.le G2.gh ht
    exact tail_any hL.typeIs slot_list_getitem.lookup (wpAny_getItem_list hL hlo hhi (by simpa using hx) (k _ _ _ _ (G1.trans G2) rx)) (hs _ _ _))
end

end
section
open PySem PySem.W PySem.Spec PySem.Calls PyProof.Rows

/-! ## growing with a set of addresses that may turn -/
structure GrowX (X : Addr → Prop) (g h g' h' : Heap) : Prop where
  gg : Le g g'
  gh : Le g' h'
  hh : ∀ b o, ¬ X b → h.get? b = some o → h'.get? b = some o
  dm : ∀ b o, h.get? b = some o → ∃ o', h'.get? b = some o'
  fr : ∀ b o, h.get? b = some o → g.get? b = none → g'.get? b = none
theorem Grow.toX {X : Addr → Prop} {g h g' h' : Heap} (x : Grow g h g' h') : GrowX X g h g' h' := ⟨x.gg, x.gh, fun b o _ e => x.hh b o e, fun b o e => ⟨o, x.hh b o e⟩, x.fr⟩
theorem GrowX.refl {X : Addr → Prop} {g h : Heap} (x : Le g h) : GrowX X g h g h := (Grow.refl x).toX
theorem GrowX.trans {X : Addr → Prop} {g h g1 h1 g2 h2 : Heap} (x : GrowX X g h g1 h1) (y : GrowX X g1 h1 g2 h2) : GrowX X g h g2 h2 :=
  ⟨x.gg.trans y.gg, y.gh, fun b o n e => y.hh b o n (x.hh b o n e), fun b o e => let ⟨o', e'⟩ := x.dm b o e; y.dm b o' e',
    fun b o e e' => let ⟨o', q⟩ := x.dm b o e; y.fr b o' q (x.fr b o e e')⟩
theorem GrowX.mono {X Y : Addr → Prop} {g h g' h' : Heap} (x : GrowX X g h g' h') (y : ∀ b, X b → Y b) : GrowX Y g h g' h' := ⟨x.gg, x.gh, fun b o n e => x.hh b o (fun q => n (y b q)) e, x.dm, x.fr⟩
theorem GrowX.toGrow {X : Addr → Prop} {g h g' h' : Heap} (x : GrowX X g h g' h') (n : ∀ b o, h.get? b = some o → ¬ X b) : Grow g h g' h' := ⟨x.gg, x.gh, fun b o e => x.hh b o (n b o e) e, x.fr⟩

def NoX : Addr → Prop := fun _ => False
structure At (X : Addr → Prop) (g₀ e : Heap) (env : Env) (m : Str → Option Value) (mu : Mu) (g h : Heap) : Prop where
  sit : Sit env m mu g h
  gr : GrowX (fun b => b = env.locals ∨ X b) g₀ e g h
  eL : e.get? env.locals = none
  mu : ∀ p ∈ mu, p.1 ≠ env.locals ∧ (X p.1 ∨ e.get? p.1 = none)

def upd (m : Str → Option Value) (x : Str) (v : Value) : Str → Option Value := fun y => if y = x then some v else m y

section
variable {X : Addr → Prop} {g₀ e g h g' h' : Heap} {env : Env} {m m' : Str → Option Value} {mu : Mu}
theorem At.le (a : At X g₀ e env m mu g h) : Le g h := a.sit.gh
theorem At.grow (a : At X g₀ e env m mu g h) (y : Grow g h g' h') : At X g₀ e env m mu g' h' := ⟨a.sit.grow y, a.gr.trans y.toX, a.eL, a.mu⟩
theorem At.done (a : At X g₀ e env m mu g h) : GrowX X g₀ e g h :=
  ⟨a.gr.gg, a.gr.gh, fun b o n q => a.gr.hh b o (fun z => z.elim (fun z => by subst z; rw [a.eL] at q; cases q) n) q, a.gr.dm, a.gr.fr⟩
theorem At.done0 (a : At NoX g₀ e env m mu g h) : Grow g₀ e g h := a.done.toGrow fun _ _ _ x => x
theorem At.get (a : At X g₀ e env m mu g h) {l : Addr} {o : Obj} (hm : (l, o) ∈ mu) : h.get? l = some o := (a.sit.mu _ hm).1
/-- what a turn of the frame alone leaves -/
theorem At.frame (a : At X g₀ e env m mu g h) (y : GrowX (· = env.locals) g h g' h') (hn : h'.Ns env.locals m') : At X g₀ e env m' mu g' h' := by
  obtain ⟨oL, _, _, eL, _⟩ := a.sit.ns
  exact ⟨⟨y.gh, hn, y.fr _ _ eL a.sit.gL, fun p hp => ⟨y.hh _ _ (a.mu p hp).1 (a.sit.mu p hp).1, y.fr _ _ (a.sit.mu p hp).1 (a.sit.mu p hp).2⟩⟩, a.gr.trans (y.mono fun b z => .inl z), a.eL, a.mu⟩
theorem At.store {x : Str} {v : Value} (a : At X g₀ e env m mu g h) (hn : h'.Ns env.locals (fun y => if y = x then some v else m y)) (hs : Heap.SameBut env.locals h h') : At X g₀ e env (upd m x v) mu g h' := by
  have gh' : Le g h' := fun b o q => (hs.2 b (fun z => by subst z; rw [a.sit.gL] at q; cases q)).trans (a.sit.gh b o q)
  refine a.frame ⟨Le.refl g, gh', fun b o n q => (hs.2 b n).trans q, fun b o q => ?_, fun _ _ _ z => z⟩ hn
  by_cases z : b = env.locals
  · subst z; obtain ⟨o', _, _, r, _⟩ := hn; exact ⟨o', r⟩
  · exact ⟨o, (hs.2 b z).trans q⟩
theorem At.sub {nu : Mu} (a : At X g₀ e env m mu g h) (s : ∀ p ∈ nu, p ∈ mu) : At X g₀ e env m nu g h := ⟨⟨a.sit.gh, a.sit.ns, a.sit.gL, fun p hp => a.sit.mu p (s p hp)⟩, a.gr, a.eL, fun p hp => a.mu p (s p hp)⟩
theorem At.heap_none {a : Addr} (x : At X g₀ e env m mu g h) (q : h.get? a = none) : e.get? a = none := by
  cases r : e.get? a with
  | none => rfl
  | some o => obtain ⟨o', z⟩ := x.gr.dm a o r; rw [q] at z; cases z
theorem At.fresh (x : At X g₀ e env m mu g h) : e.get? h.objs.size = none := x.heap_none (get_fresh h)
theorem At.ne_new (x : At X g₀ e env m mu g h) : ∀ p ∈ mu, p.1 ≠ h.objs.size := fun p hp q => by
  have := Heap.lt_size (x.sit.mu p hp).1
  rw [q] at this; exact absurd this (Nat.lt_irrefl _)
/-- a new object that may turn: it lies at an address that h did not have -/
theorem At.new {a : Addr} {o : Obj} (x : At X g₀ e env m mu g h) (le : Le h h') (n : h.get? a = none) (ho : h'.get? a = some o) : At X g₀ e env m ((a, o) :: mu) g h' := by
  have z := x.grow (Grow.of_le x.le le)
  refine ⟨⟨z.sit.gh, z.sit.ns, z.sit.gL, fun p hp => ?_⟩, z.gr, z.eL, fun p hp => ?_⟩
  · rcases List.mem_cons.mp hp with rfl | hp
    · exact ⟨ho, x.le.none n⟩
    · exact z.sit.mu p hp
  · rcases List.mem_cons.mp hp with rfl | hp
    · refine ⟨fun q => ?_, .inr (x.heap_none n)⟩
      obtain ⟨o', _, _, r, _⟩ := x.sit.ns
      rw [← q, n] at r; cases r
    · exact z.mu p hp
theorem At.alloc (a : At X g₀ e env m mu g h) (o : Obj) (hf : o.isFreed = false) : At X g₀ e env m ((h.objs.size, o) :: mu) g (h.push o) := a.new (Le.push h o) (get_fresh h) (Heap.get?_push_size _ hf)
/-- an object that may turn has turned -/
theorem At.turn {a : Addr} {o o' : Obj} (x : At X g₀ e env m ((a, o) :: mu) g h) (hd : ∀ p ∈ mu, p.1 ≠ a) (hs : Heap.SameBut a h h') (ho : h'.get? a = some o') : At X g₀ e env m ((a, o') :: mu) g h' := by
  obtain ⟨p1, p2⟩ := x.sit.mu _ (.head _)
  obtain ⟨p3, hX⟩ := x.mu _ (.head _)
  have gh' : Le g h' := fun b q r => (hs.2 b (fun z => by subst z; rw [p2] at r; cases r)).trans (x.sit.gh b q r)
  refine ⟨⟨gh', x.sit.ns.sameBut hs (Ne.symm p3), x.sit.gL, fun p hp => ?_⟩, ⟨x.gr.gg, gh', fun b q n r => ?_, fun b q r => ?_, x.gr.fr⟩, x.eL, fun p hp => ?_⟩
  · rcases List.mem_cons.mp hp with rfl | hp
    · exact ⟨ho, p2⟩
    · obtain ⟨q1, q2⟩ := x.sit.mu p (.tail _ hp)
      exact ⟨(hs.2 p.1 (hd p hp)).trans q1, q2⟩
  · refine (hs.2 b fun z => ?_).trans (x.gr.hh b q n r)
    subst z
    rcases hX with hX | hX
    · exact n (.inr hX)
    · rw [hX] at r; cases r
  · by_cases z : b = a
    · subst z; exact ⟨o', ho⟩
    · obtain ⟨q', r'⟩ := x.gr.dm b q r
      exact ⟨q', (hs.2 b z).trans r'⟩
  · rcases List.mem_cons.mp hp with rfl | hp
    · exact ⟨p3, hX⟩
    · exact x.mu p (.tail _ hp)
/-- an object that turns no more goes into the ghost -/
theorem At.freeze {a : Addr} {o : Obj} (x : At X g₀ e env m ((a, o) :: mu) g h) (hX : e.get? a = none) (hd : ∀ p ∈ mu, p.1 ≠ a) : ∃ g', Le g g' ∧ g'.get? a = some o ∧ At X g₀ e env m mu g' h := by
  obtain ⟨p1, p2⟩ := x.sit.mu _ (.head _)
  obtain ⟨p3, _⟩ := x.mu _ (.head _)
  obtain ⟨g', q⟩ := ghost_ex x.le p1
  have gg : Le g g' := fun b z r => by rw [q]; by_cases hb : b = a
                                       · subst hb; rw [p2] at r; cases r
                                       · rw [if_neg hb]; exact r
  have gh : Le g' h := fun b z r => by rw [q] at r; by_cases hb : b = a
                                       · subst hb; rw [if_pos rfl] at r; cases r; exact p1
                                       · rw [if_neg hb] at r; exact x.le b z r
  refine ⟨g', gg, by rw [q]; simp, ⟨gh, x.sit.ns, by rw [q, if_neg (Ne.symm p3)]; exact x.sit.gL, fun p hp => ?_⟩, ⟨x.gr.gg.trans gg, gh, x.gr.hh, x.gr.dm, fun b z r n => ?_⟩, x.eL, fun p hp => x.mu p (.tail _ hp)⟩
  · obtain ⟨q1, q2⟩ := x.sit.mu p (.tail _ hp)
    exact ⟨q1, by rw [q, if_neg (hd p hp)]; exact q2⟩
  · rw [q, if_neg (fun hb => by subst hb; rw [hX] at r; cases r)]; exact x.gr.fr b z r n
end

def NextQ (prog : Program) (w : World) (A : Around) (rest : List Stmt) (env : Env) (Q : Flow → Shared → Prop) (E : Value → Shared → Prop) : Flow → Shared → Prop := fun f s' => match f with | .next => wpAny (model prog w) A (execs rest env) Q E s' | f => Q f s'
def RetQ (Q : Value → Shared → Prop) : Flow → Shared → Prop := fun fl s' => Q (match fl with | .ret v => v | _ => .none) s'
/-! ## room, the world's facts, the names of the top -/
structure Rm (n : Nat) (A : Around) : Prop where
  hd : A.handled = none
  dp : A.depth + n < recursionLimit
  un : A.units + 16 * n + 200 < cLine
theorem Rm.le {n k : Nat} {A : Around} (x : Rm n A) (h : k ≤ n) : Rm k A := ⟨x.hd, by have := x.dp; omega, by have := x.un; omega⟩
theorem Rm.deeper {n : Nat} {A : Around} {env : Env} (x : Rm (n + 1) A) : Rm n (A.deeper env) :=
  ⟨x.hd, by have := x.dp; show A.depth + 1 + n < recursionLimit; omega, by have := x.un; show A.units + 3 + 16 * n + 200 < cLine; omega⟩
theorem Rm.room {n : Nat} {A : Around} (x : Rm n A) : A.units + 64 < cLine := by have := x.un; omega
theorem Rm.room1 {n : Nat} {A : Around} (x : Rm n A) : A.units + 65 < cLine := by have := x.un; omega
theorem Rm.depth {n : Nat} {A : Around} (x : Rm n A) : A.depth < recursionLimit := by have := x.dp; omega

structure Wd (w : World) (mg mb : Str → Option Value) (h : Heap) : Prop where
  K : (hd.heap_39 w.params).In h
  g : h.Ns mainGlobals mg
  b : h.Ns builtinsNs mb
  nolimit : h.NoLimit
  bi : ∀ x : Str, x ≠ "__name__" → mb x = bootBuiltins x
theorem Wd.mono {w : World} {mg mb : Str → Option Value} {g h : Heap} (x : Wd w mg mb g) (y : Le g h) : Wd w mg mb h := ⟨x.K.keeps y, x.g.keeps y, x.b.keeps y, x.nolimit.keeps y, x.bi⟩

section
variable {prog : Program} {w : World} {A : Around} {env : Env} {m : Str → Option Value} {mu : Mu} {g : Heap} {mg mb : Str → Option Value}

theorem Tr.glob {x : Str} {pos : Pos} {v : Value} {R : Pd} (W : Wd w mg mb g) (e : nsIn (hd.heap_39 w.params) mainGlobals x = some (some v)) (hm : Mono R) (r : R g v) (hk : env.scope.kind = .function := by rfl) (hl : env.kindOf x = some .globalImplicit := by rfl)
    (hG : env.globals = mainGlobals := by rfl) (hd : (x == ("__debug__" : Str)) = false := by decide) : Ev prog w A env m mu g (.Name x pos) R :=
  fun s _ _ _ hg X k => by
    have W' := W.mono (hg.trans X.gh)
    exact Calls.Name_function_global hk hl (Calls.loadGlobal_global (hG ▸ W'.g) (mg_of W'.K W'.g e) (k _ _ s.heap s.toks (Grow.refl X.gh) (hm _ _ _ hg r))) hd
theorem Tr.bltn {x : Str} {pos : Pos} {v : Value} {R : Pd} (W : Wd w mg mb g) (e : nsIn (hd.heap_39 w.params) mainGlobals x = some none) (hv : bootBuiltins x = some v) (hn : x ≠ "__name__") (hm : Mono R) (r : R g v) (hk : env.scope.kind = .function := by rfl)
    (hl : env.kindOf x = some .globalImplicit := by rfl) (hG : env.globals = mainGlobals := by rfl) (hB : env.builtins = builtinsNs := by rfl) (hd : (x == ("__debug__" : Str)) = false := by decide) : Ev prog w A env m mu g (.Name x pos) R :=
  fun s _ _ _ hg X k => by
    have W' := W.mono (hg.trans X.gh)
    exact Calls.Name_function_global hk hl (Calls.loadGlobal_builtin (hG ▸ W'.g) (mg_none_of W'.K W'.g e) (hB ▸ W'.b) ((W'.bi x hn).trans hv) (k _ _ s.heap s.toks (Grow.refl X.gh) (hm _ _ _ hg r))) hd

/-! ## comparisons -/
def Cp (prog : Program) (w : World) (A : Around) (op : CmpOp) (P R : Pd) (b : Bool) : Prop := ∀ (s : Shared) (g : Heap) (v u : Value) (Q : Value → Shared → Prop) (E : Value → Shared → Prop), Le g s.heap → P g v → R g u →
  (∀ h' tk, Le s.heap h' → Q (.bool b) { s with heap := h', toks := tk }) → wpAny (model prog w) A (compareOp op v u) Q E s
theorem Cp.eq {n : Nat} {d e : PyData} (hR : Rm n A) (hd : SeqAt.shaped d = true) (he : SeqAt.shaped e = true) : Cp prog w A .Eq (Da d) (Da e) (PyData.eqv d e) :=
  fun s _ _ _ _ _ hg ⟨_, r⟩ ⟨_, q⟩ k => SeqAt.compareEq_shaped (Reads.keeps hg r) (Reads.keeps hg q) hd he hR.room (k s.heap s.toks (Le.refl _))
theorem Cp.ne {n : Nat} {d e : PyData} (hR : Rm n A) (hd : SeqAt.shaped d = true) (he : SeqAt.shaped e = true) : Cp prog w A .NotEq (Da d) (Da e) (!PyData.eqv d e) :=
  fun s _ _ _ _ _ hg ⟨_, r⟩ ⟨_, q⟩ k => SeqAt.compareNe_shaped (Reads.keeps hg r) (Reads.keeps hg q) hd he hR.room (k s.heap s.toks (Le.refl _))
theorem Cp.lt {a b : Int} : Cp prog w A .Lt (Da (.int a)) (Da (.int b)) (decide (a < b)) :=
  fun s _ _ _ _ _ _ r q k => by obtain ⟨t, rfl⟩ := r.int_inv; obtain ⟨u, rfl⟩ := q.int_inv; exact PyProof.Rows.lt_int (k s.heap s.toks (Le.refl _))
theorem Cp.gt {a b : Int} : Cp prog w A .Gt (Da (.int a)) (Da (.int b)) (decide (b < a)) :=
  fun s _ _ _ _ _ _ r q k => by obtain ⟨t, rfl⟩ := r.int_inv; obtain ⟨u, rfl⟩ := q.int_inv; exact PyProof.Rows.gt_int (k s.heap s.toks (Le.refl _))
theorem Cp.ge {a b : Int} : Cp prog w A .GtE (Da (.int a)) (Da (.int b)) (decide (b ≤ a)) :=
  fun s _ _ _ _ _ _ r q k => by obtain ⟨t, rfl⟩ := r.int_inv; obtain ⟨u, rfl⟩ := q.int_inv; exact PyProof.Rows.ge_int (k s.heap s.toks (Le.refl _))
theorem Cp.isIn {n : Nat} {d : PyData} {es : List PyData} (hR : Rm n A) (hd : SeqAt.shaped d = true) (he : PyData.canLayAll0 es = true) : Cp prog w A .In (Da d) (Da (.list es)) (es.any fun y => PyData.eqv y d) :=
  fun s _ _ _ _ _ hg ⟨_, r⟩ ⟨_, q⟩ k => SeqAt.in_list_reads (Reads.keeps hg q) (Reads.keeps hg r) he (SeqAt.canLay_of_shaped hd) (by
    have h1 := SeqAt.depth_of_shaped hd
    have h2 : min (PyData.depthAll es) d.depth ≤ d.depth := Nat.min_le_right _ _
    have := hR.room1
    omega) (k s.heap s.toks (Le.refl _))
theorem Cp.notIn {n : Nat} {d : PyData} {es : List PyData} (hR : Rm n A) (hd : SeqAt.shaped d = true) (he : PyData.canLayAll0 es = true) : Cp prog w A .NotIn (Da d) (Da (.list es)) (!es.any fun y => PyData.eqv y d) :=
  fun s _ _ _ _ _ hg ⟨_, r⟩ ⟨_, q⟩ k => SeqAt.notIn_list_reads (Reads.keeps hg q) (Reads.keeps hg r) he (SeqAt.canLay_of_shaped hd) (by
    have h1 := SeqAt.depth_of_shaped hd
    have h2 : min (PyData.depthAll es) d.depth ≤ d.depth := Nat.min_le_right _ _
    have := hR.room1
    omega) (k s.heap s.toks (Le.refl _))

theorem Tr.cmp {l r : Expr} {op : CmpOp} {pos : Pos} {P R : Pd} {b : Bool} (hl : Ev prog w A env m mu g l P) (hm : Mono P) (hr : Ev prog w A env m mu g r R) (hc : Cp prog w A op P R b)
    (hb : behindInMarks op r = false := by with_unfolding_all rfl) : Ev prog w A env m mu g (.Compare l [op] [r] pos) (Da (.bool b)) :=
  fun _ _ _ _ hg X k => wpAny_Compare1 (hl _ _ _ _ hg X fun _ _ _ _ G p => hr _ _ _ _ (hg.trans G.gg) (X.grow G) fun _ _ _ _ G2 q => hc _ _ _ _ _ _ G2.gh (hm _ _ _ G2.gg p) q fun h' tk le =>
    k _ _ _ _ ((G.trans G2).trans (Grow.of_le G2.gh le)) (.bool b)) hb
theorem Ts.cmp {l r : Expr} {op : CmpOp} {pos : Pos} {P R : Pd} {b : Bool} (hl : Ev prog w A env m mu g l P) (hm : Mono P) (hr : Ev prog w A env m mu g r R) (hc : Cp prog w A op P R b)
    (hb : behindInMarks op r = false := by with_unfolding_all rfl) : Ts prog w A env m mu g (.Compare l [op] [r] pos) b :=
  fun _ _ _ _ hg X k => wpAny_isTrue_Compare1 (hl _ _ _ _ hg X fun _ _ _ _ G p => hr _ _ _ _ (hg.trans G.gg) (X.grow G) fun _ _ _ _ G2 q => hc _ _ _ _ _ _ G2.gh (hm _ _ _ G2.gg p) q fun h' tk le =>
    wpAny_truthy_bool (k _ _ _ ((G.trans G2).trans (Grow.of_le G2.gh le)))) hb
theorem Ts.not {x : Expr} {pos : Pos} {b : Bool} (h : Ts prog w A env m mu g x b) : Ts prog w A env m mu g (.UnaryOp .Not x pos) (!b) :=
  fun _ _ _ _ hg X k => wpAny_isTrue_Not (h _ _ _ _ hg X fun g' h' tk G => k g' h' tk G)
theorem Ts.and_nil {pos : Pos} : Ts prog w A env m mu g (.BoolOp .And [] pos) true := fun s _ _ _ _ X k => isTrue_and_nil (k _ s.heap s.toks (Grow.refl X.gh))
theorem Ts.or_nil {pos : Pos} : Ts prog w A env m mu g (.BoolOp .Or [] pos) false := fun s _ _ _ _ X k => isTrue_or_nil (k _ s.heap s.toks (Grow.refl X.gh))
theorem Ts.and {x : Expr} {rest : List Expr} {pos : Pos} {a b : Bool} (h : Ts prog w A env m mu g x a) (hr : a = true → Ts prog w A env m mu g (.BoolOp .And rest pos) b) : Ts prog w A env m mu g (.BoolOp .And (x :: rest) pos) (a && b) :=
  fun _ _ _ _ hg X k => isTrue_and (h _ _ _ _ hg X fun g' h' tk G => by
    cases a with
    | false => exact k _ _ _ G
    | true => exact hr rfl _ _ _ _ (hg.trans G.gg) (X.grow G) fun g2 h2 tk2 G2 => k _ _ _ (G.trans G2))
theorem Ts.or {x : Expr} {rest : List Expr} {pos : Pos} {a b : Bool} (h : Ts prog w A env m mu g x a) (hr : a = false → Ts prog w A env m mu g (.BoolOp .Or rest pos) b) : Ts prog w A env m mu g (.BoolOp .Or (x :: rest) pos) (a || b) :=
  fun _ _ _ _ hg X k => isTrue_or (h _ _ _ _ hg X fun g' h' tk G => by
    cases a with
    | true => exact k _ _ _ G
    | false => exact hr rfl _ _ _ _ (hg.trans G.gg) (X.grow G) fun g2 h2 tk2 G2 => k _ _ _ (G.trans G2))
/-- a test that is a plain expression with a bool value -/
theorem Ts.val {e : Expr} {b : Bool} (h : Ev prog w A env m mu g e (Da (.bool b))) (he : isTrue e env (eval e env) = (do let v ← eval e env; standAt e.pos; holding [v] (truthy v)) := by rfl) : Ts prog w A env m mu g e b :=
  fun _ _ _ _ hg X k => isTrue_plain (h _ _ _ _ hg X fun v g' h' tk G r => by rw [r.bool_inv]; exact wpAny_truthy_bool (k _ _ _ G)) he
theorem Tr.ifexp {test body orelse : Expr} {pos : Pos} {b : Bool} {R : Pd} (ht : Ts prog w A env m mu g test b) (h1 : b = true → Ev prog w A env m mu g body R) (h2 : b = false → Ev prog w A env m mu g orelse R) : Ev prog w A env m mu g (.IfExp test body orelse pos) R :=
  fun _ _ _ _ hg X k => wpAny_IfExp (ht _ _ _ _ hg X fun g' h' tk G => by
    cases b with
    | true => exact h1 rfl _ _ _ _ (hg.trans G.gg) (X.grow G) fun v g2 h2 tk2 G2 r => k _ _ _ _ (G.trans G2) r
    | false => exact h2 rfl _ _ _ _ (hg.trans G.gg) (X.grow G) fun v g2 h2 tk2 G2 r => k _ _ _ _ (G.trans G2) r)
theorem Tr.and2 {x y : Expr} {pos : Pos} {a b : Bool} (h : Ev prog w A env m mu g x (Da (.bool a))) (hr : a = true → Ev prog w A env m mu g y (Da (.bool b))) : Ev prog w A env m mu g (.BoolOp .And [x, y] pos) (Da (.bool (a && b))) :=
  fun _ _ _ _ hg X k => wpAny_And2 (h _ _ _ _ hg X fun v g' h' tk G r => by
    rw [r.bool_inv]
    refine wpAny_truthy_bool ?_
    cases a with
    | false => exact k _ _ _ _ G (.bool _)
    | true => exact hr rfl _ _ _ _ (hg.trans G.gg) (X.grow G) fun v g2 h2 tk2 G2 r => k _ _ _ _ (G.trans G2) r)

/-! ## binary operations -/
def Bo (prog : Program) (w : World) (A : Around) (op : Operator) (P R O : Pd) : Prop := ∀ (s : Shared) (g : Heap) (v u : Value) (Q : Value → Shared → Prop) (E : Value → Shared → Prop), Le g s.heap → P g v → R g u →
  (∀ x g' h' tk, Grow g s.heap g' h' → O g' x → Q x { s with heap := h', toks := tk }) → wpAny (model prog w) A (binaryOp op v u) Q E s
theorem Tr.binop {l r : Expr} {op : Operator} {pos : Pos} {P R O : Pd} (hl : Ev prog w A env m mu g l P) (hm : Mono P) (hr : Ev prog w A env m mu g r R) (hc : Bo prog w A op P R O) : Ev prog w A env m mu g (.BinOp l op r pos) O :=
  fun _ _ _ _ hg X k => wpAny_BinOp (hl _ _ _ _ hg X fun _ _ _ _ G p => hr _ _ _ _ (hg.trans G.gg) (X.grow G) fun _ _ _ _ G2 q => hc _ _ _ _ _ _ G2.gh (hm _ _ _ G2.gg p) q fun x g' h' tk G3 o =>
    k _ _ _ _ ((G.trans G2).trans G3) o)
theorem Bo.add_int {a b : Int} : Bo prog w A .Add (Da (.int a)) (Da (.int b)) (Da (.int (a + b))) :=
  fun s _ _ _ _ _ hg r q k => by obtain ⟨t, rfl⟩ := r.int_inv; obtain ⟨u, rfl⟩ := q.int_inv; exact PyProof.Rows.add_int (k _ _ s.heap _ (Grow.refl hg) (.int _ _))
theorem Bo.add_str {a b : Str} (hsz : a.length + b.length ≤ sizeLine) : Bo prog w A .Add (Da (.str a)) (Da (.str b)) (Da (.str (a ++ b))) :=
  fun s _ _ _ _ _ hg r q k => by obtain ⟨t, rfl⟩ := r.str_inv; obtain ⟨u, rfl⟩ := q.str_inv; exact PyProof.Rows.add_str (fun t' tk => k _ _ s.heap _ (Grow.refl hg) (.str _ _)) hsz

/-! ## calls of the text's own pure defs -/
def Pure (prog : Program) (w : World) (mg mb : Str → Option Value) (n : Nat) (f : Addr) (ds : List PyData) (R : Pd) : Prop :=
  ∀ (A : Around) (s : Shared) (g : Heap) (vs : List Value) (Q : Value → Shared → Prop) (E : Value → Shared → Prop), Rm n A → Wd w mg mb g → Le g s.heap → RdAll g vs ds →
    (∀ v g' h' tk, Grow g s.heap g' h' → R g' v → Q v { s with heap := h', toks := tk }) → wpAny (model prog w) A (call (.ref f) vs) Q E s

theorem Tr.call {x : Str} {np pos : Pos} {n : Nat} {f : Addr} {ds : List PyData} {R : Pd} {e1 : Expr} {rest : List Expr} (W : Wd w mg mb g) (hR : Rm n A) (hf : nsIn (hd.heap_39 w.params) mainGlobals x = some (some (.ref f)))
    (hod : ∃ o fd, (hd.heap_39 w.params).lookup f = some o ∧ o.data = .func fd) (hc : Pure prog w mg mb n f ds R) (ha : SpD prog w A env m mu g (backTo pos (starEach (e1 :: rest) env)) ds)
    (he : starEach (e1 :: rest) env = (false, eval e1 env) :: starEach rest env := by rfl) (hk : env.scope.kind = .function := by rfl) (hl : env.kindOf x = some .globalImplicit := by rfl) (hG : env.globals = mainGlobals := by rfl) (hd : (x == ("__debug__" : Str)) = false := by decide) :
    Ev prog w A env m mu g (.Call (.Name x np) (e1 :: rest) [] pos) R :=
  fun s g₁ Q E hg X k => wpAny_Call_NameR ((Tr.glob (R := fun _ v => v = .ref f) W hf (fun _ _ _ _ r => r) rfl hk hl hG hd) s g₁ _ _ hg X fun v g1 h1 tk1 G1 r => by
    subst r
    obtain ⟨o, fd, ho, hdat⟩ := hod
    exact callWith_def hdat (ha _ _ _ _ (hg.trans G1.gg) (X.grow G1) fun vs g2 h2 tk2 G2 r2 => ⟨(W.mono ((hg.trans G1.gg).trans (G2.gg.trans G2.gh))).K _ _ ho, hc _ _ g2 _ _ _ hR (W.mono ((hg.trans G1.gg).trans G2.gg)) G2.gh r2 fun v g3 h3 tk3 G3 r3 =>
      k _ _ _ _ ((G1.trans G2).trans G3) r3⟩) he)
/-- into a def's body -/
theorem call_at {n : Nat} {f : Addr} {o : Obj} {fd : FuncData} {body : List Stmt} {binds : List (Str × Value)} {vs : List Value} {X : Addr → Prop} {mu : Mu} {s : Shared} {Q : Value → Shared → Prop} {E : Value → Shared → Prop}
    (hR : Rm (n + 1) A) (W : Wd w mg mb g) (hg : Le g s.heap) (hmu : ∀ p ∈ mu, (s.heap.get? p.1 = some p.2 ∧ g.get? p.1 = none) ∧ X p.1)
    (ho : (hd.heap_39 w.params).lookup f = some o) (hdata : o.data = .func fd) (hcd : codeIn (hd.heap_39 w.params) fd.code fd.qualname = true) (hbody : fd.body = .stmts body) (hbind : bindArgs fd ⟨vs, []⟩ = pure binds)
    (hcell : ∀ x ∈ fd.scope.names, x.2 ≠ .cell) (hloc : ∀ x ∈ binds, fd.scope.names.lookup x.1 = some .local)
    (hco : fd.scope.isCoroutine = false) (hgen : fd.scope.isGenerator = false) (hk : fd.scope.kind = .function)
    (h : ∀ L h₁ tk E', At X g s.heap (callEnv fd L f) (fun x => binds.reverse.lookup x) mu g h₁ → Rm n (A.deeper (callEnv fd L f)) →
      wpAny (model prog w) (A.deeper (callEnv fd L f)) (execs body (callEnv fd L f)) (RetQ Q) E' { s with heap := h₁, toks := tk }) :
    wpAny (model prog w) A (call (.ref f) vs) Q E s := by
  have W' := W.mono hg
  refine wpAny_call (codeAny_call_def hR.depth (W'.K _ _ ho) hdata W'.nolimit (codeRec_of W'.K hcd) hbody (BindsTo.of_eq hbind) hcell hloc (fun h₀ hn hk₀ => ?_) hco hgen hk)
  refine h s.heap.objs.size h₀ _ _ ⟨⟨hg.trans hk₀, hn, hg.none (get_fresh _), fun p hp => ⟨hk₀ _ _ (hmu p hp).1.1, (hmu p hp).1.2⟩⟩, ⟨Le.refl g, hg.trans hk₀, fun b o _ e => hk₀ b o e, fun b o e => ⟨o, hk₀ b o e⟩, fun _ _ _ e => e⟩, get_fresh _, fun p hp => ?_⟩ hR.deeper
  refine ⟨fun q => ?_, .inl (hmu p hp).2⟩
  have := Heap.lt_size (hmu p hp).1.1
  rw [q] at this
  exact absurd this (Nat.lt_irrefl _)
end

/-! ## the top's names -/
theorem gf_text_form (w : World) : nsIn (hd.heap_39 w.params) mainGlobals (PySem.Str.ofString "text_form") = some (some (.ref 21)) := by kernel_rfl
theorem gd_text_form (w : World) : ∃ o fd, (hd.heap_39 w.params).lookup 21 = some o ∧ o.data = .func fd := ⟨_, _, rfl, rfl⟩
theorem gf_size_of (w : World) : nsIn (hd.heap_39 w.params) mainGlobals (PySem.Str.ofString "size_of") = some (some (.ref 28)) := by kernel_rfl
theorem gd_size_of (w : World) : ∃ o fd, (hd.heap_39 w.params).lookup 28 = some o ∧ o.data = .func fd := ⟨_, _, rfl, rfl⟩
theorem gf_is_same (w : World) : nsIn (hd.heap_39 w.params) mainGlobals (PySem.Str.ofString "is_same") = some (some (.ref 35)) := by kernel_rfl
theorem gd_is_same (w : World) : ∃ o fd, (hd.heap_39 w.params).lookup 35 = some o ∧ o.data = .func fd := ⟨_, _, rfl, rfl⟩
theorem gf_are_same (w : World) : nsIn (hd.heap_39 w.params) mainGlobals (PySem.Str.ofString "are_same") = some (some (.ref 40)) := by kernel_rfl
theorem gd_are_same (w : World) : ∃ o fd, (hd.heap_39 w.params).lookup 40 = some o ∧ o.data = .func fd := ⟨_, _, rfl, rfl⟩
theorem gf_with_children (w : World) : nsIn (hd.heap_39 w.params) mainGlobals (PySem.Str.ofString "with_children") = some (some (.ref 47)) := by kernel_rfl
theorem gd_with_children (w : World) : ∃ o fd, (hd.heap_39 w.params).lookup 47 = some o ∧ o.data = .func fd := ⟨_, _, rfl, rfl⟩
theorem gf_joined (w : World) : nsIn (hd.heap_39 w.params) mainGlobals (PySem.Str.ofString "joined") = some (some (.ref 54)) := by kernel_rfl
theorem gd_joined (w : World) : ∃ o fd, (hd.heap_39 w.params).lookup 54 = some o ∧ o.data = .func fd := ⟨_, _, rfl, rfl⟩
theorem gf_unlike_attributes (w : World) : nsIn (hd.heap_39 w.params) mainGlobals (PySem.Str.ofString "unlike_attributes") = some (some (.ref 59)) := by kernel_rfl
theorem gd_unlike_attributes (w : World) : ∃ o fd, (hd.heap_39 w.params).lookup 59 = some o ∧ o.data = .func fd := ⟨_, _, rfl, rfl⟩
theorem gf_own_cost (w : World) : nsIn (hd.heap_39 w.params) mainGlobals (PySem.Str.ofString "own_cost") = some (some (.ref 66)) := by kernel_rfl
theorem gd_own_cost (w : World) : ∃ o fd, (hd.heap_39 w.params).lookup 66 = some o ∧ o.data = .func fd := ⟨_, _, rfl, rfl⟩
theorem gf_law_pool (w : World) : nsIn (hd.heap_39 w.params) mainGlobals (PySem.Str.ofString "_law_pool") = some (some (.ref 73)) := by kernel_rfl
theorem gd_law_pool (w : World) : ∃ o fd, (hd.heap_39 w.params).lookup 73 = some o ∧ o.data = .func fd := ⟨_, _, rfl, rfl⟩
theorem gf_law_take (w : World) : nsIn (hd.heap_39 w.params) mainGlobals (PySem.Str.ofString "_law_take") = some (some (.ref 80)) := by kernel_rfl
theorem gd_law_take (w : World) : ∃ o fd, (hd.heap_39 w.params).lookup 80 = some o ∧ o.data = .func fd := ⟨_, _, rfl, rfl⟩
theorem gf_law_one (w : World) : nsIn (hd.heap_39 w.params) mainGlobals (PySem.Str.ofString "_law_one") = some (some (.ref 87)) := by kernel_rfl
theorem gd_law_one (w : World) : ∃ o fd, (hd.heap_39 w.params).lookup 87 = some o ∧ o.data = .func fd := ⟨_, _, rfl, rfl⟩
theorem gf_law_plain (w : World) : nsIn (hd.heap_39 w.params) mainGlobals (PySem.Str.ofString "_law_plain") = some (some (.ref 94)) := by kernel_rfl
theorem gd_law_plain (w : World) : ∃ o fd, (hd.heap_39 w.params).lookup 94 = some o ∧ o.data = .func fd := ⟨_, _, rfl, rfl⟩
theorem gf_law_rows (w : World) : nsIn (hd.heap_39 w.params) mainGlobals (PySem.Str.ofString "_law_rows") = some (some (.ref 99)) := by kernel_rfl
theorem gd_law_rows (w : World) : ∃ o fd, (hd.heap_39 w.params).lookup 99 = some o ∧ o.data = .func fd := ⟨_, _, rfl, rfl⟩
theorem gf_law_built (w : World) : nsIn (hd.heap_39 w.params) mainGlobals (PySem.Str.ofString "_law_built") = some (some (.ref 104)) := by kernel_rfl
theorem gd_law_built (w : World) : ∃ o fd, (hd.heap_39 w.params).lookup 104 = some o ∧ o.data = .func fd := ⟨_, _, rfl, rfl⟩
theorem gf_law_copied (w : World) : nsIn (hd.heap_39 w.params) mainGlobals (PySem.Str.ofString "_law_copied") = some (some (.ref 109)) := by kernel_rfl
theorem gd_law_copied (w : World) : ∃ o fd, (hd.heap_39 w.params).lookup 109 = some o ∧ o.data = .func fd := ⟨_, _, rfl, rfl⟩
theorem gf_law_changed (w : World) : nsIn (hd.heap_39 w.params) mainGlobals (PySem.Str.ofString "_law_changed") = some (some (.ref 116)) := by kernel_rfl
theorem gd_law_changed (w : World) : ∃ o fd, (hd.heap_39 w.params).lookup 116 = some o ∧ o.data = .func fd := ⟨_, _, rfl, rfl⟩
theorem gf_law_many (w : World) : nsIn (hd.heap_39 w.params) mainGlobals (PySem.Str.ofString "_law_many") = some (some (.ref 121)) := by kernel_rfl
theorem gd_law_many (w : World) : ∃ o fd, (hd.heap_39 w.params).lookup 121 = some o ∧ o.data = .func fd := ⟨_, _, rfl, rfl⟩
theorem gf_law_cost (w : World) : nsIn (hd.heap_39 w.params) mainGlobals (PySem.Str.ofString "_law_cost") = some (some (.ref 126)) := by kernel_rfl
theorem gd_law_cost (w : World) : ∃ o fd, (hd.heap_39 w.params).lookup 126 = some o ∧ o.data = .func fd := ⟨_, _, rfl, rfl⟩
theorem gf_law_joined (w : World) : nsIn (hd.heap_39 w.params) mainGlobals (PySem.Str.ofString "_law_joined") = some (some (.ref 133)) := by kernel_rfl
theorem gd_law_joined (w : World) : ∃ o fd, (hd.heap_39 w.params).lookup 133 = some o ∧ o.data = .func fd := ⟨_, _, rfl, rfl⟩
theorem gf_law_right (w : World) : nsIn (hd.heap_39 w.params) mainGlobals (PySem.Str.ofString "_law_right") = some (some (.ref 138)) := by kernel_rfl
theorem gd_law_right (w : World) : ∃ o fd, (hd.heap_39 w.params).lookup 138 = some o ∧ o.data = .func fd := ⟨_, _, rfl, rfl⟩
theorem gi_KIND (w : World) : nsIn (hd.heap_39 w.params) mainGlobals (PySem.Str.ofString "KIND") = some (some (.int 0 189)) := by kernel_rfl
theorem gi_LABEL (w : World) : nsIn (hd.heap_39 w.params) mainGlobals (PySem.Str.ofString "LABEL") = some (some (.int 1 191)) := by kernel_rfl
theorem gi_VALUE (w : World) : nsIn (hd.heap_39 w.params) mainGlobals (PySem.Str.ofString "VALUE") = some (some (.int 2 193)) := by kernel_rfl
theorem gi_ATTRIBUTES (w : World) : nsIn (hd.heap_39 w.params) mainGlobals (PySem.Str.ofString "ATTRIBUTES") = some (some (.int 3 195)) := by kernel_rfl
theorem gi_CHILDREN (w : World) : nsIn (hd.heap_39 w.params) mainGlobals (PySem.Str.ofString "CHILDREN") = some (some (.int 4 197)) := by kernel_rfl
theorem gb_len (w : World) : nsIn (hd.heap_39 w.params) mainGlobals (PySem.Str.ofString "len") = some none := by kernel_rfl
theorem bb_len : bootBuiltins (PySem.Str.ofString "len") = some (.builtin "len") := by kernel_rfl
theorem gb_max (w : World) : nsIn (hd.heap_39 w.params) mainGlobals (PySem.Str.ofString "max") = some none := by kernel_rfl
theorem bb_max : bootBuiltins (PySem.Str.ofString "max") = some (.builtin "max") := by kernel_rfl
theorem gb_all (w : World) : nsIn (hd.heap_39 w.params) mainGlobals (PySem.Str.ofString "all") = some none := by kernel_rfl
theorem bb_all : bootBuiltins (PySem.Str.ofString "all") = some (.builtin "all") := by kernel_rfl
theorem gb_sum (w : World) : nsIn (hd.heap_39 w.params) mainGlobals (PySem.Str.ofString "sum") = some none := by kernel_rfl
theorem bb_sum : bootBuiltins (PySem.Str.ofString "sum") = some (.builtin "sum") := by kernel_rfl
theorem gb_sorted (w : World) : nsIn (hd.heap_39 w.params) mainGlobals (PySem.Str.ofString "sorted") = some none := by kernel_rfl
theorem bb_sorted : bootBuiltins (PySem.Str.ofString "sorted") = some (.builtin "sorted") := by kernel_rfl
theorem gb_int (w : World) : nsIn (hd.heap_39 w.params) mainGlobals (PySem.Str.ofString "int") = some none := by kernel_rfl
theorem bb_int : bootBuiltins (PySem.Str.ofString "int") = some (.type "int") := by kernel_rfl
theorem gb_dict (w : World) : nsIn (hd.heap_39 w.params) mainGlobals (PySem.Str.ofString "dict") = some none := by kernel_rfl
theorem bb_dict : bootBuiltins (PySem.Str.ofString "dict") = some (.type "dict") := by kernel_rfl
theorem gb_list (w : World) : nsIn (hd.heap_39 w.params) mainGlobals (PySem.Str.ofString "list") = some none := by kernel_rfl
theorem bb_list : bootBuiltins (PySem.Str.ofString "list") = some (.type "list") := by kernel_rfl
theorem gb_tuple (w : World) : nsIn (hd.heap_39 w.params) mainGlobals (PySem.Str.ofString "tuple") = some none := by kernel_rfl
theorem bb_tuple : bootBuiltins (PySem.Str.ofString "tuple") = some (.type "tuple") := by kernel_rfl
theorem gb_zip (w : World) : nsIn (hd.heap_39 w.params) mainGlobals (PySem.Str.ofString "zip") = some none := by kernel_rfl
theorem bb_zip : bootBuiltins (PySem.Str.ofString "zip") = some (.type "zip") := by kernel_rfl
theorem gb_range (w : World) : nsIn (hd.heap_39 w.params) mainGlobals (PySem.Str.ofString "range") = some none := by kernel_rfl
theorem bb_range : bootBuiltins (PySem.Str.ofString "range") = some (.type "range") := by kernel_rfl
theorem gb_enumerate (w : World) : nsIn (hd.heap_39 w.params) mainGlobals (PySem.Str.ofString "enumerate") = some none := by kernel_rfl
theorem bb_enumerate : bootBuiltins (PySem.Str.ofString "enumerate") = some (.type "enumerate") := by kernel_rfl
/-! ## statements -/
section
variable {prog : Program} {w : World} {A : Around} {env : Env} {m : Str → Option Value} {g g₀ e₀ : Heap} {mg mb : Str → Option Value} {X : Addr → Prop} {mu : Mu} {s : Shared} {h0 : Heap} {G0 : Array GenState} {D0 : Drawn} {T0 : Nat} {O0 : OsState} {Q : Flow → Shared → Prop} {E : Value → Shared → Prop} {rest : List Stmt}

theorem St.ret {e : Expr} {pos : Pos} {R : Pd} (a : At X g₀ e₀ env m mu g h0) (h : Ev prog w A env m mu g e R) (k : ∀ v g' h' tk, At X g₀ e₀ env m mu g' h' → R g' v → Q (.ret v) (Shared.mk h' G0 D0 tk O0)) :
    wpAny (model prog w) A (execs (.Return (some e) pos :: rest) env) Q E (Shared.mk h0 G0 D0 T0 O0) :=
  wpAny_execs_cons (wpAny_Return_some (h (Shared.mk h0 G0 D0 T0 O0) g _ _ (Le.refl g) a.sit fun v g' h' tk G r => k v g' h' tk (a.grow G) r))
theorem St.assign {x : Str} {pos' pos : Pos} {e : Expr} {R : Pd} (a : At X g₀ e₀ env m mu g h0) (h : Ev prog w A env m mu g e R)
    (k : ∀ v g' h' tk, At X g₀ e₀ env (upd m x v) mu g' h' → Le g g' → R g' v → wpAny (model prog w) A (execs rest env) Q E (Shared.mk h' G0 D0 tk O0))
    (hl : env.kindOf x = some .local := by rfl) (hs : swapsWith e (some (.Name x pos')) pos.line env = pure false := by rfl) (hp : (env.scope.kind == .class || (env.scope.kind == .module && env.locals != env.globals)) = false := by rfl) :
    wpAny (model prog w) A (execs (.Assign [.Name x pos'] e pos :: rest) env) Q E (Shared.mk h0 G0 D0 T0 O0) :=
  wpAny_execs_cons (wpAny_Assign_Name (h (Shared.mk h0 G0 D0 T0 O0) g _ _ (Le.refl g) a.sit fun v g' h' tk G r => wpAny_storeName_local hl (a.grow G).sit.ns (fun h2 hn hs => k v g' h2 _ ((a.grow G).store hn hs) G.gg r) hp) hs)
theorem St.ite {test : Expr} {body orelse : List Stmt} {pos : Pos} {b : Bool} (a : At X g₀ e₀ env m mu g h0) (h : Ts prog w A env m mu g test b)
    (k1 : b = true → ∀ g' h' tk, At X g₀ e₀ env m mu g' h' → Le g g' → wpAny (model prog w) A (execs body env) (NextQ prog w A rest env Q E) E (Shared.mk h' G0 D0 tk O0))
    (k2 : b = false → ∀ g' h' tk, At X g₀ e₀ env m mu g' h' → Le g g' → wpAny (model prog w) A (execs orelse env) (NextQ prog w A rest env Q E) E (Shared.mk h' G0 D0 tk O0)) :
    wpAny (model prog w) A (execs (.If test body orelse pos :: rest) env) Q E (Shared.mk h0 G0 D0 T0 O0) :=
  wpAny_execs_cons (wpAny_If (h (Shared.mk h0 G0 D0 T0 O0) g _ _ (Le.refl g) a.sit fun g' h' tk G => by
    cases b with
    | true => exact k1 rfl _ _ _ (a.grow G) G.gg
    | false => exact k2 rfl _ _ _ (a.grow G) G.gg))
theorem St.nil (k : Q .next (Shared.mk h0 G0 D0 T0 O0)) : wpAny (model prog w) A (execs [] env) Q E (Shared.mk h0 G0 D0 T0 O0) := wpAny_execs_nil k
end

end
section
open PySem PySem.W PySem.Spec PySem.Calls PyProof.Rows

/-! ## iterators -/
structure Itr (prog : Program) (w : World) (A : Around) (T : Expr → Prop) (g : Heap) (it : Addr) (fp : List Addr) (xs : List PyData) (St : Nat → Heap → Prop) (Mid : Nat → Value → Heap → Prop) : Prop where
  off : ∀ b ∈ fp, g.get? b = none
  has : ∀ i h, St i h → ∀ b ∈ fp, ∃ o, h.get? b = some o
  frame : ∀ i h h', St i h → Le g h' → (∀ b ∈ fp, ∀ o, h.get? b = some o → h'.get? b = some o) → St i h'
  item : ∀ (i : Nat) (d : PyData) (s : Shared) (g₁ : Heap) (Q : Option Value → Shared → Prop) (E : Value → Shared → Prop), xs[i]? = some d → St i s.heap → Le g g₁ → Le g₁ s.heap → (∀ b ∈ fp, g₁.get? b = none) →
    (∀ v g' h' tk, GrowX (· ∈ fp) g₁ s.heap g' h' → Mid i v h' → Rd g' v d → Q (some v) { s with heap := h', toks := tk }) → wpAny (model prog w) A (pyNext (.ref it)) Q E s
  go : ∀ (i : Nat) (v : Value) (target : Expr) (s : Shared) (g₁ : Heap) (Q : Unit → Shared → Prop) (E : Value → Shared → Prop), T target → Mid i v s.heap → Le g g₁ → Le g₁ s.heap → (∀ b ∈ fp, g₁.get? b = none) →
    (∀ h', GrowX (· ∈ fp) g₁ s.heap g₁ h' → St (i + 1) h' → Q () { s with heap := h' }) → wpAny (model prog w) A (letOwnedTupleGo target (.ref it) v) Q E s
  done : ∀ (s : Shared) (g₁ : Heap) (Q : Option Value → Shared → Prop) (E : Value → Shared → Prop), St xs.length s.heap → Le g g₁ → Le g₁ s.heap → (∀ b ∈ fp, g₁.get? b = none) →
    (∀ h' tk, (∀ b o, b ∉ fp → s.heap.get? b = some o → h'.get? b = some o) → Q none { s with heap := h', toks := tk }) → wpAny (model prog w) A (pyNext (.ref it)) Q E s
  self : ∀ (s : Shared) (Q : Value → Shared → Prop) (E : Value → Shared → Prop), St 0 s.heap → Q (.ref it) s → wpAny (model prog w) A (pyIter (.ref it)) Q E s

/-- an expression whose iterator hands out these data -/
def Ie (prog : Program) (w : World) (A : Around) (T : Expr → Prop) (env : Env) (m : Str → Option Value) (mu : Mu) (g : Heap) (iter : Expr) (xs : List PyData) : Prop :=
  ∀ (s : Shared) (g₁ : Heap) (Q : Value → Shared → Prop) (E : Value → Shared → Prop), Le g g₁ → Sit env m mu g₁ s.heap →
    (∀ it fp St Mid g' h' tk, Grow g₁ s.heap g' h' → Itr prog w A T g' it fp xs St Mid → St 0 h' → (∀ b ∈ fp, s.heap.get? b = none) → Q (.ref it) { s with heap := h', toks := tk }) →
    wpAny (model prog w) A (eval iter env) (fun v s₁ => wpAny (model prog w) A (pyIter v) Q E s₁) E s

theorem growX_of_same {g h h' : Heap} {it : Addr} {fp : List Addr} (hm : it ∈ fp) (hg : Le g h) (hn : g.get? it = none) (hs : ∀ b o, b ≠ it → h.get? b = some o → h'.get? b = some o) (hi : ∃ o, h'.get? it = some o) : GrowX (· ∈ fp) g h g h' := by
  refine ⟨Le.refl g, fun b o e => hs b o (fun z => ?_) (hg b o e), fun b o n e => hs b o (fun z => n (z ▸ hm)) e, fun b o e => ?_, fun _ _ _ z => z⟩
  · subst z; rw [hn] at e; cases e
  · by_cases z : b = it
    · subst z; exact hi
    · exact ⟨o, hs b o z e⟩

theorem go_plain {M : Model} {A : Around} {E : Value → Shared → Prop} {s : Shared} {target : Expr} {r : Addr} {v : Value} {o : Obj} {n : String} {vs : Array Value} {Q : Unit → Shared → Prop} (ho : s.heap.get? r = some o) (hc : o.cls = .type n) (hd : o.data = .fields vs)
    (hn : (["enumerate", "zip", "dict_itemiterator", "dict_reverseitemiterator", "odict_iterator", "itertools.zip_longest", "itertools.pairwise"].contains n) = false) (h : Q () s) : wpAny M A (letOwnedTupleGo target (.ref r) v) Q E s := by
  have main : ∀ a : Addr, wpAny M A (load r >>= fun o => match o.cls, o.data with
      | .type n, .fields vs => if (["enumerate", "zip", "dict_itemiterator", "dict_reverseitemiterator", "odict_iterator", "itertools.zip_longest", "itertools.pairwise"].contains n && vs[0]? == some (rawInt a)) = true then (do
          rule "for.unpacks-the-owned-tuple"
          updateField r 0 .none) else pure ()
      | _, _ => pure ()) Q E s := by
    intro a
    refine wpAny_bind (wpAny_load ho ?_)
    rw [hc, hd]
    show wpAny M A (if (_ && _) = true then _ else _) Q E s
    rw [hn, Bool.false_and, if_neg (by decide)]
    exact wpAny_pure h
  cases target <;> first | exact wpAny_pure h | (cases v <;> first | exact wpAny_pure h | exact main _)

section
variable {prog : Program} {w : World} {A : Around} {env : Env} {m : Str → Option Value} {mu : Mu} {g : Heap} {mg mb : Str → Option Value}

theorem itr_list {l it : Addr} {vs : List Value} {xs : List PyData} {T : Expr → Prop} (hh : A.handled = none) (hl : g.IsList l vs.toArray) (r : RdAll g vs xs) (hn : g.get? it = none) :
    Itr prog w A T g it [it] xs (fun i h => h.IsListIter it l i ∧ Le g h) (fun i _ h => h.IsListIter it l (i + 1) ∧ Le g h) where
  off := fun b hb => by rw [List.mem_singleton.mp hb]; exact hn
  has := fun i h st b hb => by rw [List.mem_singleton.mp hb]; obtain ⟨o, e, _⟩ := st.1; exact ⟨o, e⟩
  frame := fun i h h' st le k => ⟨by obtain ⟨o, e, q⟩ := st.1; exact ⟨o, k it (List.mem_singleton.mpr rfl) o e, q⟩, le⟩
  item := fun i d s g₁ Q E hd st hg hg1 hoff k => by
    obtain ⟨v, hv, rv⟩ := r.get hd
    have n1 : g₁.get? it = none := hoff it (List.mem_singleton.mpr rfl)
    refine wpAny_pyNext_list_item st.1 (IsList.le (hg.trans hg1) hl) (x := v) (by simpa using hv) fun h' hit hs => ?_
    have G := growX_of_same (fp := [it]) (List.mem_singleton.mpr rfl) hg1 n1 (fun b o hb e => hs.extBut b o hb e) (let ⟨o, e, _⟩ := hit; ⟨o, e⟩)
    exact k v g₁ h' s.toks G ⟨hit, hg.trans G.gh⟩ (rv.mono hg)
  go := fun i v target s g₁ Q E _ mid hg hg1 hoff k => by
    obtain ⟨o, e, hc, hd⟩ := mid.1
    exact go_plain e hc hd (by decide) (k s.heap (GrowX.refl hg1) mid)
  done := fun s g₁ Q E st hg hg1 hoff k => by
    exact wpAny_pyNext_list_end hh st.1 (IsList.le (hg.trans hg1) hl) (by simp [r.length]) fun h' he => k h' s.toks fun b o n e => he b o (fun z => n (List.mem_singleton.mpr z)) e
  self := fun s Q E st hQ => wpAny_pyIter_listiter st.1 hQ
theorem isTuple_of {g : Heap} {a : Addr} {vs : Array Value} (t : IsTup g a vs) : g.IsTuple a vs := t
theorem itr_tuple {l it : Addr} {vs : List Value} {xs : List PyData} {T : Expr → Prop} (hh : A.handled = none) (hl : IsTup g l vs.toArray) (r : RdAll g vs xs) (hn : g.get? it = none) :
    Itr prog w A T g it [it] xs (fun i h => h.IsTupleIter it l i ∧ Le g h) (fun i _ h => h.IsTupleIter it l (i + 1) ∧ Le g h) where
  off := fun b hb => by rw [List.mem_singleton.mp hb]; exact hn
  has := fun i h st b hb => by rw [List.mem_singleton.mp hb]; obtain ⟨o, e, _⟩ := st.1; exact ⟨o, e⟩
  frame := fun i h h' st le k => ⟨by obtain ⟨o, e, q⟩ := st.1; exact ⟨o, k it (List.mem_singleton.mpr rfl) o e, q⟩, le⟩
  item := fun i d s g₁ Q E hd st hg hg1 hoff k => by
    obtain ⟨v, hv, rv⟩ := r.get hd
    have n1 : g₁.get? it = none := hoff it (List.mem_singleton.mpr rfl)
    refine wpAny_pyNext_tuple_item st.1 (isTuple_of (IsTup.le (hg.trans hg1) hl)) (x := v) (by simpa using hv) fun h' hit hs => ?_
    have G := growX_of_same (fp := [it]) (List.mem_singleton.mpr rfl) hg1 n1 (fun b o hb e => hs.extBut b o hb e) (let ⟨o, e, _⟩ := hit; ⟨o, e⟩)
    exact k v g₁ h' s.toks G ⟨hit, hg.trans G.gh⟩ (rv.mono hg)
  go := fun i v target s g₁ Q E _ mid hg hg1 hoff k => by
    obtain ⟨o, e, hc, hd⟩ := mid.1
    exact go_plain e hc hd (by decide) (k s.heap (GrowX.refl hg1) mid)
  done := fun s g₁ Q E st hg hg1 hoff k =>
    wpAny_pyNext_tuple_end hh st.1 (isTuple_of (IsTup.le (hg.trans hg1) hl)) (by simp [r.length]) fun h' he => k h' s.toks fun b o n e => he b o (fun z => n (List.mem_singleton.mpr z)) e
  self := fun s Q E st hQ => wpAny_pyIter_tupleiter st.1 hQ

theorem Ie.list {iter : Expr} {xs : List PyData} {T : Expr → Prop} (hh : A.handled = none) (h : Ev prog w A env m mu g iter (Da (.list xs))) : Ie prog w A T env m mu g iter xs :=
  fun s g₁ Q E hg X k => h s g₁ _ _ hg X fun v g' h' tk G r => by
    obtain ⟨a, vs, rfl, hl, ra⟩ := r.list_inv
    refine wpAny_pyIter_list (IsList.le G.gh hl) ?_
    have n : g'.get? h'.objs.size = none := G.gh.none (get_fresh _)
    refine k _ _ _ _ g' _ _ (G.trans (Grow.push0 G.gh _)) (itr_list hh hl ra n) ⟨⟨_, Heap.get?_push_size _ rfl, rfl, rfl⟩, G.gh.trans (Le.push _ _)⟩ fun b hb => ?_
    rw [List.mem_singleton.mp hb]
    exact G.hh.none (get_fresh _)
theorem Ie.tuple {iter : Expr} {xs : List PyData} {T : Expr → Prop} (hh : A.handled = none) (h : Ev prog w A env m mu g iter (Da (.tuple xs))) : Ie prog w A T env m mu g iter xs :=
  fun s g₁ Q E hg X k => h s g₁ _ _ hg X fun v g' h' tk G r => by
    obtain ⟨a, vs, rfl, hl, ra⟩ := r.tuple_inv
    refine wpAny_pyIter_tuple (isTuple_of (IsTup.le G.gh hl)) ?_
    have n : g'.get? h'.objs.size = none := G.gh.none (get_fresh _)
    refine k _ _ _ _ g' _ _ (G.trans (Grow.push0 G.gh _)) (itr_tuple hh hl ra n) ⟨⟨_, Heap.get?_push_size _ rfl, rfl, rfl⟩, G.gh.trans (Le.push _ _)⟩ fun b hb => ?_
    rw [List.mem_singleton.mp hb]
    exact G.hh.none (get_fresh _)

/-! ## what a target binds -/
def Bd (g : Heap) (m : Str → Option Value) (bs : List (Str × PyData)) : Prop := ∀ p ∈ bs, ∃ v, m p.1 = some v ∧ Rd g v p.2
theorem Bd.mono {g g' : Heap} {m : Str → Option Value} {bs : List (Str × PyData)} (x : Le g g') (b : Bd g m bs) : Bd g' m bs := fun p hp => let ⟨v, e, r⟩ := b p hp; ⟨v, e, r.mono x⟩
def Asg (prog : Program) (w : World) (A : Around) (env : Env) (target : Expr) (d : PyData) (bs : List (Str × PyData)) : Prop :=
  ∀ (s : Shared) (g : Heap) (v : Value) (m : Str → Option Value) (Q : Unit → Shared → Prop) (E : Value → Shared → Prop), Sit env m [] g s.heap → Rd g v d →
    (∀ h' tk m', GrowX (· = env.locals) g s.heap g h' → h'.Ns env.locals m' → Bd g m' bs → (∀ y, y ∉ bs.map (·.1) → m' y = m y) → Q () { s with heap := h', toks := tk }) → wpAny (model prog w) A (assign target env v) Q E s
theorem Sit.stored {m' : Str → Option Value} {h h' : Heap} (X : Sit env m [] g h) (hn : h'.Ns env.locals m') (hs : Heap.SameBut env.locals h h') : GrowX (· = env.locals) g h g h' ∧ Sit env m' [] g h' := by
  have gh' : Le g h' := fun b o q => (hs.2 b (fun z => by subst z; rw [X.gL] at q; cases q)).trans (X.gh b o q)
  refine ⟨⟨Le.refl g, gh', fun b o n q => (hs.2 b n).trans q, fun b o q => ?_, fun _ _ _ z => z⟩, ⟨gh', hn, X.gL, fun _ h => nomatch h⟩⟩
  by_cases z : b = env.locals
  · subst z; obtain ⟨o', _, _, r, _⟩ := hn; exact ⟨o', r⟩
  · exact ⟨o, (hs.2 b z).trans q⟩
theorem store_asg {x : Str} {pos : Pos} {v : Value} {s : Shared} {Q : Unit → Shared → Prop} {E : Value → Shared → Prop} (X : Sit env m [] g s.heap) (hl : env.kindOf x = some .local) (hp : (env.scope.kind == .class || (env.scope.kind == .module && env.locals != env.globals)) = false)
    (k : ∀ h' tk, GrowX (· = env.locals) g s.heap g h' → Sit env (upd m x v) [] g h' → Q () { s with heap := h', toks := tk }) : wpAny (model prog w) A (assign (.Name x pos) env v) Q E s :=
  wpAny_assign_Name (wpAny_storeName_local hl X.ns (fun h' hn hs => let z := X.stored hn hs; k h' _ z.1 z.2) hp)
theorem Asg.name {x : Str} {pos : Pos} {d : PyData} (hl : env.kindOf x = some .local) (hp : (env.scope.kind == .class || (env.scope.kind == .module && env.locals != env.globals)) = false) : Asg prog w A env (.Name x pos) d [(x, d)] :=
  fun s g v m Q E X r k => store_asg X hl hp fun h' tk G Y => k h' tk _ G Y.ns (fun p hp => by
    rw [List.mem_singleton.mp hp]; exact ⟨v, if_pos rfl, r⟩) fun y hy => if_neg fun z => hy (by simp [z])

inductive Names (env : Env) : List Expr → List Str → Prop
  | nil : Names env [] []
  | cons {x : Str} {pos : Pos} {es : List Expr} {xs : List Str} : env.kindOf x = some .local → Names env es xs → Names env (.Name x pos :: es) (x :: xs)
theorem Names.len : ∀ {es : List Expr} {xs : List Str}, Names env es xs → (assignEach es env).length = xs.length
  | _, _, .nil => rfl
  | _, _, .cons _ r => congrArg (· + 1) r.len
theorem Names.star : ∀ {es : List Expr} {xs : List Str}, Names env es xs → (assignEach es env).findIdx? (·.1) = none
  | _, _, .nil => rfl
  | _, _, .cons (es := es) _ r => by
    have h := r.star
    show ((false, _) :: assignEach es env).findIdx? (·.1) = none
    rw [List.findIdx?_cons, h]; rfl
theorem Names.asg (hp : (env.scope.kind == .class || (env.scope.kind == .module && env.locals != env.globals)) = false) : ∀ {es : List Expr} {xs : List Str}, Names env es xs → xs.Nodup → ∀ {vs : List Value} {ds : List PyData} {g : Heap}, xs.length = ds.length → ∀ {s : Shared} {m : Str → Option Value} {Q : Unit → Shared → Prop} {E : Value → Shared → Prop},
    RdAll g vs ds → Sit env m [] g s.heap → (∀ h' tk m', GrowX (· = env.locals) g s.heap g h' → h'.Ns env.locals m' → Bd g m' (xs.zip ds) → (∀ y, y ∉ xs → m' y = m y) → Q () { s with heap := h', toks := tk }) →
    wpAny (model prog w) A (assignInOrder ((assignEach es env).map (·.2)) vs) Q E s
  | _, _, .nil, _, vs, ds, g, hlen, s, m, Q, E, r, X, k => by
    cases ds with
    | nil => obtain rfl := r.nil_inv; exact wpAny_pure (k s.heap s.toks m (GrowX.refl X.gh) X.ns (fun _ hp => nomatch hp) fun _ _ => rfl)
    | cons => cases hlen
  | _, _, .cons (x := x) (xs := xs) hk rest, hnd, vs, ds, g, hlen, s, m, Q, E, r, X, k => by
    cases ds with
    | nil => cases hlen
    | cons d ds =>
      obtain ⟨v, vs', rfl, rv, rr⟩ := r.cons_inv'
      refine wpAny_bind (wpAny_holding (store_asg X hk hp fun h1 tk1 G1 Y => ?_))
      refine rest.asg hp (List.nodup_cons.mp hnd).2 (Nat.succ.inj hlen) rr Y fun h2 tk2 m2 G2 n2 b2 same => ?_
      refine k h2 tk2 m2 (G1.trans G2) n2 (fun p hp => ?_) fun y hy => ?_
      · rcases List.mem_cons.mp hp with rfl | hp
        · exact ⟨v, (same x (List.nodup_cons.mp hnd).1).trans (if_pos rfl), rv⟩
        · exact b2 p hp
      · rw [same y fun z => hy (.tail _ z)]
        exact if_neg fun z => hy (by subst z; exact .head _)
theorem Asg.tuple {elts : List Expr} {k : Nat} {pos : Pos} {xs : List Str} {ds : List PyData} (hh : A.handled = none) (hn : Names env elts xs) (hnd : xs.Nodup) (hlen : xs.length = ds.length)
    (hp : (env.scope.kind == .class || (env.scope.kind == .module && env.locals != env.globals)) = false) : Asg prog w A env (.Tuple elts k pos) (.tuple ds) (xs.zip ds) :=
  fun s g v m Q E X r kk => by
    obtain ⟨a, vs, rfl, ht, ra⟩ := r.tuple_inv
    refine wpAny_assign_Tuple hh (isTuple_of (IsTup.le X.gh ht)) (by rw [hn.len, hlen, ← ra.length]; simp) hn.star fun h' hx => ?_
    have le : Le s.heap h' := fun b o e => hx b o (Nat.ne_of_lt (Heap.lt_size e)) e
    have G := Grow.of_le X.gh le
    refine hn.asg hp hnd hlen ra (X.grow G) fun h2 tk m' G2 n2 b2 same => kk h2 tk m' (G.toX.trans G2) n2 b2 fun y hy => same y fun z => hy ?_
    rw [List.map_fst_zip (Nat.le_of_eq hlen)]; exact z

/-! ## comprehensions -/
theorem compLoop_go {R : Result → Shared → Prop} {s : Shared} {elt target iter : Expr} {ifs : List Expr} {scope : Scope} {pos : Pos} {it acc : Value} {env : Env} (I : Nat → Shared → Prop)
    (turn : ∀ n s E, I n s → wpAny (model prog w) A (pyNext it) (fun r s₁ => match r with
      | none => R (.ok .next) s₁
      | some v => wpAny (model prog w) A (letOwnedTupleGo target it v) (fun _ s₁' => wpAny (model prog w) A (assign target env v) (fun _ s₂ =>
          wpAny (model prog w) A (forIn ifs true fun c r => if r = true then do let ok ← isTrue c env (eval c env); pure (ForInStep.yield ok) else pure (ForInStep.yield r)) (fun ok s₃ =>
            if ok = true then wpAny (model prog w) A (eval elt env) (fun x s₄ =>
              wpAny (model prog w) A (call (.builtin "list.append") [acc, x]) (fun _ s₅ => ∃ m, m < n ∧ I m s₅) E s₄) E s₃
            else ∃ m, m < n ∧ I m s₃) E s₂) E s₁') E s₁) E s)
    (n : Nat) (h : I n s) : codeAny (model prog w) A (.compLoop (.ListComp elt [⟨target, iter, ifs, 0⟩] scope pos) 0 it acc env) R s := by
  refine codeAny_loop rfl I (fun n s hI => ?_) n h
  show wpAny _ A ((compTurn (.ListComp elt [⟨target, iter, ifs, 0⟩] scope pos) 0 it acc env).onRaise (fun x => do noteFrame x env; theTreesLotGoes x)) _ _ s
  refine wpAny_noted ?_
  rw [compTurn_list]
  refine wpAny_bind (wpAny_standAt (wpAny_bind (wpAny_mono (turn n s _ hI) (fun r s₁ h₁ => ?_) fun _ _ h' => h')))
  cases r with
  | none => exact wpAny_pure h₁
  | some v =>
    refine wpAny_bind (wpAny_mono h₁ (fun _ s₁' h₁' => ?_) fun _ _ h' => h')
    refine wpAny_bind (wpAny_mono h₁' (fun _ s₂ h₂ => wpAny_bind (wpAny_mono h₂ (fun ok s₃ h₃ => ?_) fun _ _ h' => h')) fun _ _ h' => h')
    cases ok with
    | false => exact wpAny_pure ⟨rfl, h₃⟩
    | true =>
      exact wpAny_bind (wpAny_bind (wpAny_mono h₃ (fun x s₄ h₄ => wpAny_bind (wpAny_mono h₄ (fun _ s₅ h₅ => wpAny_pure (wpAny_pure ⟨rfl, h₅⟩)) fun _ _ h' => h')) fun _ _ h' => h'))

/-- the tests of a comprehension's clause -/
def Tss (prog : Program) (w : World) (A : Around) (env : Env) (m : Str → Option Value) (mu : Mu) (g : Heap) (ifs : List Expr) (b : Bool) : Prop :=
  ∀ (s : Shared) (g₁ : Heap) (Q : Bool → Shared → Prop) (E : Value → Shared → Prop), Le g g₁ → Sit env m mu g₁ s.heap →
    (∀ g' h' tk, Grow g₁ s.heap g' h' → Q b { s with heap := h', toks := tk }) →
    wpAny (model prog w) A (forIn ifs true fun c r => if r = true then do let ok ← isTrue c env (eval c env); pure (ForInStep.yield ok) else pure (ForInStep.yield r)) Q E s
theorem Tss.nil : Tss prog w A env m mu g [] true := fun s _ _ _ _ X k => wpAny_tests_nil (k _ s.heap s.toks (Grow.refl X.gh))
theorem Tss.one {c : Expr} {b : Bool} (h : Ts prog w A env m mu g c b) : Tss prog w A env m mu g [c] b := fun s _ _ _ hg X k => wpAny_tests_one (h s _ _ _ hg X k)

theorem take_succ_get {α : Type} {l : List α} {i : Nat} {d : α} (h : l[i]? = some d) : l.take (i + 1) = l.take i ++ [d] := by
  rw [List.take_add_one, h]; rfl

set_option maxHeartbeats 1000000 in
theorem Tr.comp {elt target iter : Expr} {ifs : List Expr} {scope : Scope} {pos : Pos} {cl : List (Str × Addr)} {α : Type} {xs : List α} (enc : α → PyData) (bs : α → List (Str × PyData)) (p : α → Bool) (f : α → PyData) {T : Expr → Prop}
    (hsrc : Ie prog w A T env m mu g iter (xs.map enc)) (hT : T target) (hlen : xs.length ≤ sizeLine)
    (hasg : ∀ C d, d ∈ xs → Asg prog w A (compEnvC scope cl C env) target (enc d) (bs d))
    (hifs : ∀ C d g' m', d ∈ xs → Le g g' → Bd g' m' (bs d) → Tss prog w A (compEnvC scope cl C env) m' mu g' ifs (p d))
    (helt : ∀ C d g' m', d ∈ xs → p d = true → Le g g' → Bd g' m' (bs d) → Ev prog w A (compEnvC scope cl C env) m' mu g' elt (Da (f d)))
    (hclos : closureFor scope env = pure cl) (hcell : ∀ y ∈ scope.names, y.2 ≠ .cell) (hkind : scope.kind = .function) (hnames : ∀ y ∈ scope.names, y.2 = .local → scope.names.lookup y.1 = some .local)
    (hs : ∀ x, foldedSetIterable iter env x = pure x := by intro _; rfl) :
    Ev prog w A env m mu g (.ListComp elt [⟨target, iter, ifs, 0⟩] scope pos) (Da (.list ((xs.filter p).map f))) := by
  intro s g₁ Q E hg X k
  rw [eval_ListComp]
  refine wpAny_comprehension_free (use := none) rfl hs hclos hkind hnames (hsrc s g₁ _ _ hg X fun it fp St Mid g2 h2 tk2 G2 It st0 hfresh => ?_)
  refine wpAny_newObj_type (wpAny_newFunctionEnv hcell (by intro y hy; simp at hy) (fun h₁ hns₁ hsb₁ => ?_) hkind)
  dsimp only at hns₁ hsb₁ ⊢
  generalize hH2 : h2.push { cls := .type "list", dict := none, data := .seq ([] : List Value).toArray } = H2 at hns₁ hsb₁ ⊢
  generalize hD : h2.objs.size = D at hns₁ hsb₁ ⊢
  generalize hC : H2.objs.size = C at hns₁ hsb₁ ⊢
  have hCs : C = D + 1 := by rw [← hC, ← hH2, Heap.size_push, hD]
  have hDC : D ≠ C := by rw [hCs]; exact Nat.ne_of_lt (Nat.lt_succ_self _)
  have nD : ∀ b o, h2.get? b = some o → b ≠ D ∧ b ≠ C := fun b o e => by
    have := Heap.lt_size e
    rw [hD] at this
    exact ⟨Nat.ne_of_lt this, by rw [hCs]; exact Nat.ne_of_lt (Nat.lt_succ_of_lt this)⟩
  have old : Le h2 h₁ := fun b o e => hsb₁.extBut b o (nD b o e).2 (Heap.get?_push_of_some _ (hH2 ▸ Heap.get?_push_of_some _ e))
  have hacc : h₁.PlainList D #[] := ⟨_, hsb₁.extBut _ _ hDC (Heap.get?_push_of_some _ (hH2 ▸ hD ▸ Heap.get?_push_size _ rfl))⟩
  have Dfp : D ∉ fp := fun hm => by obtain ⟨o, e⟩ := It.has 0 _ st0 D hm; exact (nD D o e).1 rfl
  have Cfp : C ∉ fp := fun hm => by obtain ⟨o, e⟩ := It.has 0 _ st0 C hm; exact (nD C o e).2 rfl
  have gD : g2.get? D = none := by
    cases q : g2.get? D with
    | none => rfl
    | some o => exact absurd rfl (nD D o (G2.gh D o q)).1
  have gC : g2.get? C = none := by
    cases q : g2.get? C with
    | none => rfl
    | some o => exact absurd rfl (nD C o (G2.gh C o q)).2
  have st1 : St 0 h₁ := It.frame 0 _ _ st0 (G2.gh.trans old) fun b _ o e => old b o e
  have hpE : ((compEnvC scope cl C env).scope.kind == .class || ((compEnvC scope cl C env).scope.kind == .module && (compEnvC scope cl C env).locals != (compEnvC scope cl C env).globals)) = false := by simp [compEnvC, relabel, hkind]
  let Xs : Addr → Prop := fun b => b = C ∨ b = D ∨ b ∈ fp
  have muX : ∀ p ∈ mu, ¬ Xs p.1 ∧ h₁.get? p.1 = some p.2 ∧ g2.get? p.1 = none := fun p hp => by
    have e0 := X.mu p hp
    have e1 := (X.grow G2).mu p hp
    refine ⟨fun z => ?_, old _ _ e1.1, e1.2⟩
    rcases z with z | z | z
    · exact (nD _ _ e1.1).2 z
    · exact (nD _ _ e1.1).1 z
    · rw [hfresh _ z] at e0; cases e0.1
  have muAt : ∀ g' h', GrowX Xs g2 h₁ g' h' → ∀ p ∈ mu, h'.get? p.1 = some p.2 ∧ g'.get? p.1 = none := fun g' h' G p hp => ⟨G.hh _ _ (muX p hp).1 (muX p hp).2.1, G.fr _ _ (muX p hp).2.1 (muX p hp).2.2⟩
  have loop : ∀ tk, codeAny (model prog w) A (.compLoop (.ListComp elt [⟨target, iter, ifs, 0⟩] scope pos) 0 (.ref it) (.ref D) (compEnvC scope cl C env)) (compPost (model prog w) A E none Q (.ref D) C) { s with heap := h₁, toks := tk } := by
    intro tk₁
    refine compLoop_go (fun kk s' => ∃ i g' h' tk mC ys, s' = { s with heap := h', toks := tk } ∧ i ≤ xs.length ∧ kk = xs.length + 1 - i ∧ GrowX Xs g2 h₁ g' h' ∧ St i h' ∧ h'.PlainList D ys ∧ h'.Ns C mC ∧ RdAll g' ys.toList (((xs.take i).filter p).map f)) ?_ (xs.length + 1)
      ⟨0, g2, h₁, tk₁, _, #[], rfl, Nat.zero_le _, rfl, GrowX.refl (G2.gh.trans old), st1, hacc, hns₁, by simpa using RdAll.nil⟩
    rintro kk s' E' ⟨i, g', h', tk, mC, ys, rfl, hi, rfl, G, st, hl, hn, hr⟩
    have off' : ∀ b ∈ fp, g'.get? b = none := fun b hb => by obtain ⟨o, e⟩ := It.has 0 _ st1 b hb; exact G.fr b o e (It.off b hb)
    have gD' : g'.get? D = none := by obtain ⟨n, e⟩ := hacc; exact G.fr D _ e gD
    have gC' : g'.get? C = none := by obtain ⟨o, _, _, e, _⟩ := hns₁; exact G.fr C o e gC
    by_cases hlt : i < xs.length
    · obtain ⟨d, hd⟩ : ∃ d, xs[i]? = some d := ⟨xs[i], by simp [hlt]⟩
      have hmem : d ∈ xs := List.mem_of_getElem? hd
      refine It.item i (enc d) _ g' _ _ (by simp [hd]) st G.gg G.gh off' fun v ga ha tka Ga mid rv => ?_
      have offa : ∀ b ∈ fp, ga.get? b = none := fun b hb => by obtain ⟨o, e⟩ := It.has i _ st b hb; exact Ga.fr b o e (off' b hb)
      refine It.go i v target _ ga _ _ hT mid (G.gg.trans Ga.gg) Ga.gh offa fun hb Gb stb => ?_
      have Gab : GrowX (· ∈ fp) g' h' ga hb := Ga.trans Gb
      have nb : hb.Ns C mC := hn.at' fun o e => Gab.hh C o Cfp e
      have sitb : Sit (compEnvC scope cl C env) mC [] ga hb := ⟨Gab.gh, nb, by obtain ⟨o, _, _, e, _⟩ := hn; exact Gab.fr C o e gC', fun _ h => nomatch h⟩
      refine hasg C d hmem _ ga v mC _ _ sitb rv fun hc tkc mC' Gc nc bd _ => ?_
      have sitc : Sit (compEnvC scope cl C env) mC' mu ga hc := ⟨Gc.gh, nc, sitb.gL, muAt ga hc (G.trans ((Gab.mono fun b hb' => .inr (.inr hb')).trans (Gc.mono fun b hb' => .inl hb')))⟩
      have stc : St (i + 1) hc := It.frame _ _ _ stb (G.gg.trans (Gab.gg.trans Gc.gh)) fun b hb' o e => Gc.hh b o (fun z => Cfp (by have z' : b = C := z; rw [z'] at hb'; exact hb')) e
      refine hifs C d ga mC' hmem ((hg.trans G2.gg).trans (G.gg.trans Gab.gg)) bd _ ga _ _ (Le.refl _) sitc fun gd hd' tkd Gd => ?_
      have std : St (i + 1) hd' := It.frame _ _ _ stc (G.gg.trans (Gab.gg.trans (Gd.gg.trans Gd.gh))) fun b _ o e => Gd.hh b o e
      have toX : GrowX Xs g' h' gd hd' := ((Gab.mono fun b hb' => .inr (.inr hb')).trans (Gc.mono fun b hb' => .inl hb')).trans Gd.toX
      have ld : hd'.PlainList D ys := hl.at fun o e => Gd.hh D o (Gc.hh D o hDC (Gab.hh D o Dfp e))
      have nd : hd'.Ns C mC' := nc.keeps Gd.hh
      cases hp : p d with
      | false =>
        simp only [Bool.false_eq_true, if_false]
        refine ⟨xs.length + 1 - (i + 1), by omega, i + 1, gd, hd', tkd, mC', ys, rfl, hlt, rfl, G.trans toX, std, ld, nd, ?_⟩
        rw [take_succ_get hd, List.filter_append, List.filter_cons_of_neg (by simp [hp]), List.filter_nil, List.append_nil]
        exact hr.mono toX.gg
      | true =>
        simp only [if_true]
        refine helt C d gd mC' hmem hp ((hg.trans G2.gg).trans (G.gg.trans toX.gg)) (bd.mono Gd.gg) _ gd _ _ (Le.refl _) (sitc.grow Gd) fun y ge he tke Ge ry => ?_
        have le_ : he.PlainList D ys := ld.at fun o e => Ge.hh D o e
        have hys : ys.size ≤ sizeLine := by
          have e1 := hr.length
          have e2 := List.length_filter_le p (xs.take i)
          simp only [List.length_map, Array.length_toList] at e1
          have : (xs.take i).length ≤ i := by rw [List.length_take]; exact Nat.min_le_left _ _
          omega
        refine wpAny_list_append_plain (hsz := hys) le_ fun hf lf sf => ?_
        have gDe : ge.get? D = none := by
          obtain ⟨n, e⟩ := le_
          obtain ⟨n', e'⟩ := ld
          obtain ⟨n2, e2⟩ := hl
          exact Ge.fr D _ e' (toX.fr D _ e2 gD')
        have Gf : GrowX Xs ge he ge hf := by
          refine ⟨Le.refl _, fun b o e => (sf.2 b fun z => by subst z; rw [gDe] at e; cases e).trans (Ge.gh b o e), fun b o n e => (sf.2 b fun z => n (.inr (.inl z))).trans e, fun b o e => ?_, fun _ _ _ z => z⟩
          by_cases z : b = D
          · subst z; obtain ⟨n, e⟩ := lf; exact ⟨_, e⟩
          · exact ⟨o, (sf.2 b z).trans e⟩
        refine ⟨xs.length + 1 - (i + 1), by omega, i + 1, ge, hf, tke, mC', ys.push y, rfl, hlt, rfl, (G.trans toX).trans (Ge.toX.trans Gf), ?_, lf, (nd.keeps Ge.hh).sameBut sf (Ne.symm hDC), ?_⟩
        · exact It.frame _ _ _ std (G.gg.trans (toX.gg.trans (Ge.gg.trans Gf.gh))) fun b hb' o e => (sf.2 b fun z => Dfp (z ▸ hb')).trans (Ge.hh b o e)
        · rw [take_succ_get hd, List.filter_append, List.filter_cons_of_pos (by simp [hp]), List.filter_nil, List.map_append, Array.toList_push]
          exact (hr.mono (toX.gg.trans Ge.gg)).append (.cons ry .nil)
    · have hin : i = xs.length := by omega
      subst hin
      refine It.done _ g' _ _ (by simpa using st) G.gg G.gh off' fun hz tkz keep => ?_
      have nz : hz.Ns C mC := hn.at' fun o e => keep C o Cfp e
      refine ⟨mC, nz, fun h'' hs'' => ?_⟩
      obtain ⟨n, el⟩ := hl
      have ez : h''.get? D = some { cls := .type "list", data := .seq ys n } := (hs''.2 D hDC).trans (keep D _ Dfp el)
      have kz : ∀ b o, b ≠ C → b ∉ fp → h'.get? b = some o → h''.get? b = some o := fun b o n1 n2 e => (hs''.2 b n1).trans (keep b o n2 e)
      have lz : Le g' h'' := fun b o e => kz b o (fun z => by subst z; rw [gC'] at e; cases e) (fun z => by rw [off' b z] at e; cases e) (G.gh b o e)
      obtain ⟨gf, q⟩ := ghost_ex lz ez
      rw [List.take_length] at hr
      have gg' : Le g' gf := fun b o e => by rw [q]; by_cases z : b = D
                                             · subst z; rw [gD'] at e; cases e
                                             · rw [if_neg z]; exact e
      refine k (.ref D) gf h'' tkz ⟨G2.gg.trans (G.gg.trans gg'), fun b o e => ?_, fun b o e => ?_, fun b o e e' => ?_⟩ ?_
      · rw [q] at e
        by_cases z : b = D
        · subst z; rw [if_pos rfl] at e; cases e; exact ez
        · rw [if_neg z] at e; exact lz b o e
      · have e2 := G2.hh b o e
        have nf : b ∉ fp := fun z => by rw [hfresh b z] at e; cases e
        have nn := nD b o e2
        exact kz b o nn.2 nf (G.hh b o (fun z => z.elim nn.2 fun z => z.elim nn.1 nf) (old b o e2))
      · have e2 := G2.hh b o e
        rw [q, if_neg (nD b o e2).1]
        exact G.fr b o (old b o e2) (G2.fr b o e e')
      · have rl : Rd gf (.ref D) (.list ((xs.filter p).map f)) := .list (vs := ys.toList) ⟨_, by rw [q, if_pos rfl], rfl, n, by simp⟩ (hr.mono gg')
        exact rl
  exact codeAny_compStart_list (loop _) (It.self _ _ _ st1 (loop _))
theorem Tr.comp0 {elt target iter : Expr} {scope : Scope} {pos : Pos} {cl : List (Str × Addr)} {α : Type} {xs : List α} (enc : α → PyData) (bs : α → List (Str × PyData)) (f : α → PyData) {T : Expr → Prop}
    (hsrc : Ie prog w A T env m mu g iter (xs.map enc)) (hT : T target) (hlen : xs.length ≤ sizeLine)
    (hasg : ∀ C d, d ∈ xs → Asg prog w A (compEnvC scope cl C env) target (enc d) (bs d))
    (helt : ∀ C d g' m', d ∈ xs → Le g g' → Bd g' m' (bs d) → Ev prog w A (compEnvC scope cl C env) m' mu g' elt (Da (f d)))
    (hclos : closureFor scope env = pure cl) (hcell : ∀ y ∈ scope.names, y.2 ≠ .cell) (hkind : scope.kind = .function) (hnames : ∀ y ∈ scope.names, y.2 = .local → scope.names.lookup y.1 = some .local)
    (hs : ∀ x, foldedSetIterable iter env x = pure x := by intro _; rfl) :
    Ev prog w A env m mu g (.ListComp elt [⟨target, iter, [], 0⟩] scope pos) (Da (.list (xs.map f))) := by
  have h := Tr.comp (m := m) (mu := mu) (g := g) (pos := pos) enc bs (fun _ => true) f hsrc hT hlen hasg (fun _ _ _ _ _ _ _ => Tss.nil) (fun C d g' m' hd _ hg bd => helt C d g' m' hd hg bd) hclos hcell hkind hnames hs
  rwa [List.filter_eq_self.mpr fun _ _ => rfl] at h
end

end
section
open PySem PySem.W PySem.Spec PySem.Calls PyProof.Rows

/-! ## built-in calls -/
def Bc (prog : Program) (w : World) (A : Around) (f : Value) (ds : List PyData) (R : Pd) : Prop :=
  ∀ (s : Shared) (g : Heap) (vs : List Value) (Q : Value → Shared → Prop) (E : Value → Shared → Prop), Le g s.heap → RdAll g vs ds →
    (∀ v g' h' tk, Grow g s.heap g' h' → R g' v → Q v { s with heap := h', toks := tk }) → wpAny (model prog w) A (call f vs) Q E s

section
variable {prog : Program} {w : World} {A : Around} {env : Env} {m : Str → Option Value} {mu : Mu} {g : Heap} {mg mb : Str → Option Value}

theorem Tr.bcall {x : Str} {np pos : Pos} {id : String} {ds : List PyData} {R : Pd} {e1 : Expr} {rest : List Expr} (W : Wd w mg mb g) (hf : nsIn (hd.heap_39 w.params) mainGlobals x = some none) (hb : bootBuiltins x = some (.builtin id))
    (hc : Bc prog w A (.builtin id) ds R) (ha : SpD prog w A env m mu g (backTo pos (starEach (e1 :: rest) env)) ds) (hn : x ≠ "__name__" := by decide)
    (he : starEach (e1 :: rest) env = (false, eval e1 env) :: starEach rest env := by rfl) (hpl : (backTo pos (starEach rest env)).any (·.1) = false := by rfl)
    (hk : env.scope.kind = .function := by rfl) (hl : env.kindOf x = some .globalImplicit := by rfl) (hG : env.globals = mainGlobals := by rfl) (hB : env.builtins = builtinsNs := by rfl) (hd : (x == ("__debug__" : Str)) = false := by decide) :
    Ev prog w A env m mu g (.Call (.Name x np) (e1 :: rest) [] pos) R :=
  fun s g₁ Q E hg X k => wpAny_Call_NameR ((Tr.bltn (R := fun _ v => v = .builtin id) W hf hb hn (fun _ _ _ _ r => r) rfl hk hl hG hB hd) s g₁ _ _ hg X fun v g1 h1 tk1 G1 r => by
    subst r
    exact callWith_builtin1 (ha _ _ _ _ (hg.trans G1.gg) (X.grow G1) fun vs g2 h2 tk2 G2 r2 => hc _ g2 _ _ _ G2.gh r2 fun v g3 h3 tk3 G3 r3 => k _ _ _ _ ((G1.trans G2).trans G3) r3) he hpl)
theorem Tr.tcall {x : Str} {np pos : Pos} {T : String} {ds : List PyData} {R : Pd} {e1 : Expr} {rest : List Expr} (W : Wd w mg mb g) (hf : nsIn (hd.heap_39 w.params) mainGlobals x = some none) (hb : bootBuiltins x = some (.type T))
    (hc : Bc prog w A (.type T) ds R) (ha : SpD prog w A env m mu g (backTo pos (starEach (e1 :: rest) env)) ds) (hn : x ≠ "__name__" := by decide)
    (he : starEach (e1 :: rest) env = (false, eval e1 env) :: starEach rest env := by rfl) (hpl : (backTo pos (starEach rest env)).any (·.1) = false := by rfl)
    (hk : env.scope.kind = .function := by rfl) (hl : env.kindOf x = some .globalImplicit := by rfl) (hG : env.globals = mainGlobals := by rfl) (hB : env.builtins = builtinsNs := by rfl) (hd : (x == ("__debug__" : Str)) = false := by decide) :
    Ev prog w A env m mu g (.Call (.Name x np) (e1 :: rest) [] pos) R :=
  fun s g₁ Q E hg X k => wpAny_Call_NameR ((Tr.bltn (R := fun _ v => v = .type T) W hf hb hn (fun _ _ _ _ r => r) rfl hk hl hG hB hd) s g₁ _ _ hg X fun v g1 h1 tk1 G1 r => by
    subst r
    exact PyProof.Rows.callWith_type1 (ha _ _ _ _ (hg.trans G1.gg) (X.grow G1) fun vs g2 h2 tk2 G2 r2 => hc _ g2 _ _ _ G2.gh r2 fun v g3 h3 tk3 G3 r3 => k _ _ _ _ ((G1.trans G2).trans G3) r3) he hpl)

theorem RdAll.one {g : Heap} {vs : List Value} {d : PyData} (r : RdAll g vs [d]) : ∃ v, vs = [v] ∧ Rd g v d := by
  obtain ⟨v, us, rfl, a, b⟩ := r.cons_inv'
  obtain rfl := b.nil_inv
  exact ⟨v, rfl, a⟩
theorem RdAll.two {g : Heap} {vs : List Value} {d e : PyData} (r : RdAll g vs [d, e]) : ∃ v u, vs = [v, u] ∧ Rd g v d ∧ Rd g u e := by
  obtain ⟨v, us, rfl, a, b⟩ := r.cons_inv'
  obtain ⟨u, rfl, b'⟩ := b.one
  exact ⟨v, u, rfl, a, b'⟩

theorem Bc.len_tuple {ds : List PyData} (hsz : ds.length ≤ sizeLine) : Bc prog w A (.builtin "len") [.tuple ds] (Da (.int (ds.length : Int))) :=
  fun s g vs Q E hg r k => by
    obtain ⟨v, rfl, rv⟩ := r.one
    obtain ⟨a, us, rfl, ht, ra⟩ := rv.tuple_inv
    have e : us.toArray.size = ds.length := by simp [ra.length]
    refine PyProof.Rows.len_tuple (IsTup.le hg ht) (by rw [e]; have := sizeLine_eq; omega) ?_
    rw [e]
    exact k _ _ s.heap _ (Grow.refl hg) (.int _ _)
theorem Bc.len_list {ds : List PyData} (hsz : ds.length ≤ sizeLine) : Bc prog w A (.builtin "len") [.list ds] (Da (.int (ds.length : Int))) :=
  fun s g vs Q E hg r k => by
    obtain ⟨v, rfl, rv⟩ := r.one
    obtain ⟨a, us, rfl, ht, ra⟩ := rv.list_inv
    have e : us.toArray.size = ds.length := by simp [ra.length]
    refine Calls.call_len_list (IsList.le hg ht) (by rw [e]; have := sizeLine_eq; omega) ?_
    rw [e]
    exact k _ _ s.heap _ (Grow.refl hg) (.int _ _)
theorem Bc.tuple_list {ds : List PyData} (hsz : ds.length ≤ sizeLine) : Bc prog w A (.type "tuple") [.list ds] (Da (.tuple ds)) :=
  fun s g vs Q E hg r k => by
    obtain ⟨v, rfl, rv⟩ := r.one
    obtain ⟨a, us, rfl, ht, ra⟩ := rv.list_inv
    refine call_tuple_list (IsList.le hg ht) (fun h' hk => ?_) (by simpa [ra.length] using hsz)
    obtain ⟨g', G, e⟩ := Grow.push (hg.trans hk) (tupO us) rfl
    exact k _ g' _ s.toks ((Grow.of_le hg hk).trans G) (.tuple (isTup_of e) (ra.mono G.gg))
theorem Bc.list_seq {ds : List PyData} {d : PyData} (hd : d = .list ds ∨ d = .tuple ds) (hsz : ds.length ≤ sizeLine) : Bc prog w A (.type "list") [d] (Da (.list ds)) :=
  fun s g vs Q E hg r k => by
    obtain ⟨v, rfl, rv⟩ := r.one
    have main : ∀ (a : Addr) (us : List Value) (T : String) (o : Obj) (n : Nat), (T = "list" ∨ T = "tuple") → g.get? a = some o → o.cls = .type T → o.data = .seq us.toArray n → RdAll g us ds → wpAny (model prog w) A (call (.type "list") [.ref a]) Q E s := by
      intro a us T o n hT ho hc hdt ra
      refine call_list_seq a hT (hg _ _ ho) hc hdt (fun h' c' hk e => ?_) (by simpa [ra.length] using hsz)
      have lg : Le g h' := hg.trans hk
      obtain ⟨g', q⟩ := ghost_ex lg e
      have nD : g.get? s.heap.objs.size = none := hg.none (get_fresh _)
      have gg : Le g g' := fun b x e' => by
        rw [q]; by_cases z : b = s.heap.objs.size
        · subst z; rw [nD] at e'; cases e'
        · rw [if_neg z]; exact e'
      refine k _ g' h' s.toks ⟨gg, fun b x e' => ?_, hk, fun b x e' n => ?_⟩ (.list (vs := us) ⟨_, by rw [q, if_pos rfl], rfl, c', rfl⟩ (ra.mono gg))
      · rw [q] at e'; by_cases z : b = s.heap.objs.size
        · subst z; rw [if_pos rfl] at e'; cases e'; exact e
        · rw [if_neg z] at e'; exact lg b x e'
      · rw [q, if_neg fun z => by subst z; rw [get_fresh] at e'; cases e']; exact n
    rcases hd with rfl | rfl
    · obtain ⟨a, us, rfl, ⟨o, h1, h2, n, h3⟩, ra⟩ := rv.list_inv
      exact main a us "list" o n (.inl rfl) h1 h2 h3 ra
    · obtain ⟨a, us, rfl, ⟨o, h1, h2, n, h3⟩, ra⟩ := rv.tuple_inv
      exact main a us "tuple" o n (.inr rfl) h1 h2 h3 ra
theorem ints_of : ∀ {ns : List Int} {vs : List Value}, RdAll g vs (ns.map PyData.int) → AllInts vs.toArray ∧ numsOf vs = ns
  | [], vs, r => by obtain rfl := r.nil_inv; exact ⟨fun v hv => by simp at hv, rfl⟩
  | n :: ns, vs, r => by
    obtain ⟨v, us, rfl, a, b⟩ := r.cons_inv'
    obtain ⟨t, rfl⟩ := a.int_inv
    obtain ⟨h1, h2⟩ := ints_of b
    refine ⟨fun v hv => ?_, by rw [numsOf, h2]⟩
    simp only [List.mem_toArray, List.mem_cons] at hv
    rcases hv with rfl | hv
    · exact ⟨_, _, rfl⟩
    · exact h1 v (by simpa using hv)
theorem Bc.sum {ns : List Int} (hh : A.handled = none) : Bc prog w A (.builtin "sum") [.list (ns.map .int)] (Da (.int ns.sum)) :=
  fun s g vs Q E hg r k => by
    obtain ⟨v, rfl, rv⟩ := r.one
    obtain ⟨a, us, rfl, ht, ra⟩ := rv.list_inv
    obtain ⟨hall, hns⟩ := ints_of ra
    obtain ⟨xs, e⟩ := hall.items
    refine sum_intListG (xs := xs) hh (e ▸ IsList.le hg ht) fun h' tk t' hk => ?_
    have e2 : numsOf us = xs.toList.map (·.1) := by rw [← nums_intItems, ← e]
    rw [preSum_eq, List.take_of_length_le (by simp), ← e2, hns]
    exact k _ g h' tk (Grow.of_le hg hk) (.int _ _)
theorem Bc.int_bool {b : Bool} : Bc prog w A (.type "int") [.bool b] (Da (.int (if b then 1 else 0))) :=
  fun s g vs Q E hg r k => by
    obtain ⟨v, rfl, rv⟩ := r.one
    rw [rv.bool_inv]
    exact call_int_bool (k _ g s.heap _ (Grow.refl hg) (.int _ _))
theorem Bc.max {a b : Int} (hh : A.handled = none) : Bc prog w A (.builtin "max") [.int a, .int b] (Da (.int (if b > a then b else a))) :=
  fun s g vs Q E hg r k => by
    obtain ⟨v, u, rfl, r1, r2⟩ := r.two
    obtain ⟨t, rfl⟩ := r1.int_inv
    obtain ⟨u, rfl⟩ := r2.int_inv
    refine max_two_ints hh fun h' tk hk => k _ g h' tk (Grow.of_le hg hk) ?_
    split
    · exact .int _ _
    · exact .int _ _
theorem bools_of : ∀ {ns : List Bool} {vs : List Value}, RdAll g vs (ns.map PyData.bool) → vs = ns.map Value.bool
  | [], vs, r => r.nil_inv
  | n :: ns, vs, r => by
    obtain ⟨v, us, rfl, a, b⟩ := r.cons_inv'
    rw [a.bool_inv, bools_of b]; rfl
theorem Bc.all {ns : List Bool} (hh : A.handled = none) : Bc prog w A (.builtin "all") [.list (ns.map .bool)] (Da (.bool (ns.all id))) :=
  fun s g vs Q E hg r k => by
    obtain ⟨v, rfl, rv⟩ := r.one
    obtain ⟨a, us, rfl, ht, ra⟩ := rv.list_inv
    have e := bools_of ra
    subst e
    have hL := IsList.le hg ht
    refine call_all_walk (wpAny_pyIter_list hL ?_)
    have hI : a ≠ s.heap.objs.size := by obtain ⟨o, e, _⟩ := hL; exact Nat.ne_of_lt (Heap.lt_size e)
    refine ⟨_, _, _, _, _, _, fun i => ns.getD i true, rfl, Walks.list (A := A.in1) hh _ a hI (ns.map Value.bool).toArray, ⟨⟨_, Heap.get?_push_size _ rfl, rfl, rfl⟩, hL.push _⟩, fun i v s' Q' E' hP hQ => ?_, fun h' tk hk => ?_⟩
    · simp only [List.getElem?_toArray, List.getElem?_map, Option.map_eq_some_iff] at hP
      obtain ⟨b, hb, rfl⟩ := hP
      have : ns.getD i true = b := by simp [List.getD, hb]
      exact wpAny_truthy_bool (this ▸ hQ)
    · have e : (List.range (ns.map Value.bool).toArray.size).all (fun i => ns.getD i true) = ns.all id := by
        simp only [List.size_toArray, List.length_map]
        rw [Bool.eq_iff_iff, List.all_eq_true, List.all_eq_true]
        constructor
        · intro h x hx
          obtain ⟨i, hi, rfl⟩ := List.getElem_of_mem hx
          have := h i (List.mem_range.mpr hi)
          simpa [List.getD, hi] using this
        · intro h i hi
          have hi' := List.mem_range.mp hi
          have := h ns[i] (List.getElem_mem hi')
          simpa [List.getD, hi'] using this
      rw [e]
      exact k _ g h' tk (Grow.of_le hg (fun b o q => hk b o (fun z => by
        rw [List.mem_singleton.mp z, get_fresh] at q; cases q) (Le.push _ _ b o q))) (.bool _)

theorem Bo.add_list {ds es : List PyData} (hsz : ds.length + es.length ≤ sizeLine) : Bo prog w A .Add (Da (.list ds)) (Da (.list es)) (Da (.list (ds ++ es))) :=
  fun s g v u Q E hg r q k => by
    obtain ⟨a, vs, rfl, hl, ra⟩ := r.list_inv
    obtain ⟨b, ws, rfl, hb, rb⟩ := q.list_inv
    obtain ⟨⟨cls, dd, data, sl⟩, ho, hc, n, hd⟩ := IsList.le hg hl
    obtain ⟨⟨cls2, dd2, data2, sl2⟩, ho2, hc2, n2, hd2⟩ := IsList.le hg hb
    simp only at hc hd hc2 hd2
    subst hc hd hc2 hd2
    refine concat_meets ⟨_, ho, rfl⟩ ⟨_, ho2, rfl⟩ noFill_list_add seq_list_add PySem.F.slot_list_add PySem.F.entry_list_add (PySem.F.args_list_add_2 _ _) (list_addW a b vs.toArray ws.toArray n n2 dd dd2 sl sl2 (by simpa [ra.length, rb.length] using hsz)) ⟨ho, ho2, ?_⟩
    obtain ⟨g', G, e⟩ := Grow.push hg (lstO (vs ++ ws)) rfl
    have e2 : vs.toArray ++ ws.toArray = (vs ++ ws).toArray := by simp
    rw [e2]
    exact k _ g' _ _ G (.list (isList_of e) ((ra.append rb).mono G.gg))
theorem Bo.add_tuple {ds es : List PyData} (hsz : ds.length + es.length ≤ sizeLine) : Bo prog w A .Add (Da (.tuple ds)) (Da (.tuple es)) (Da (.tuple (ds ++ es))) :=
  fun s g v u Q E hg r q k => by
    obtain ⟨a, vs, rfl, hl, ra⟩ := r.tuple_inv
    obtain ⟨b, ws, rfl, hb, rb⟩ := q.tuple_inv
    obtain ⟨⟨cls, dd, data, sl⟩, ho, hc, n, hd⟩ := IsTup.le hg hl
    obtain ⟨⟨cls2, dd2, data2, sl2⟩, ho2, hc2, n2, hd2⟩ := IsTup.le hg hb
    simp only at hc hd hc2 hd2
    subst hc hd hc2 hd2
    have e2 : vs.toArray ++ ws.toArray = (vs ++ ws).toArray := by simp
    by_cases hv : vs = []
    · subst hv
      have : ds = [] := by have := ra.length; simpa using this.symm
      subst this
      exact concat_meets ⟨_, ho, rfl⟩ ⟨_, ho2, rfl⟩ noFill_tuple_add seq_tuple_add PySem.F.slot_tuple_add PySem.F.entry_tuple_add (PySem.F.args_tuple_add_2 _ _)
        (tuple_addW0 a b _ ws.toArray n n2 dd dd2 sl sl2 (by simp)) ⟨ho, ho2, k _ g s.heap _ (Grow.refl hg) q⟩
    · by_cases hw : ws = []
      · subst hw
        have : es = [] := by have := rb.length; simpa using this.symm
        subst this
        rw [List.append_nil] at k
        exact concat_meets ⟨_, ho, rfl⟩ ⟨_, ho2, rfl⟩ noFill_tuple_add seq_tuple_add PySem.F.slot_tuple_add PySem.F.entry_tuple_add (PySem.F.args_tuple_add_2 _ _)
          (tuple_addW1 a b vs.toArray _ n n2 dd dd2 sl sl2 (by simpa using hv) (by simp)) ⟨ho, ho2, k _ g s.heap _ (Grow.refl hg) r⟩
      · refine concat_meets ⟨_, ho, rfl⟩ ⟨_, ho2, rfl⟩ noFill_tuple_add seq_tuple_add PySem.F.slot_tuple_add PySem.F.entry_tuple_add (PySem.F.args_tuple_add_2 _ _)
          (tuple_addW2 a b vs.toArray ws.toArray n n2 dd dd2 sl sl2 (by simpa using hv) (by simpa using hw) (by simpa [ra.length, rb.length] using hsz)) ⟨ho, ho2, ?_⟩
        obtain ⟨g', G, e⟩ := Grow.push hg (tupO (vs ++ ws)) rfl
        rw [e2]
        exact k _ g' _ _ G (.tuple (isTup_of e) ((ra.append rb).mono G.gg))
end

end
section
open PySem PySem.W PySem.Spec PySem.Calls PyProof.Rows

/-! ## the datum: a form -/
abbrev S (x : String) : PySem.Str := PySem.Str.ofString x
structure Atr where
  ks : Str
  kn : Str
  name : Str
  value : Str
inductive Fm where
  | mk (kind : Str) (label : Option Str) (value : Str) (attrs : List Atr) (kids : List Fm)
namespace Fm
def kind : Fm → Str | mk k _ _ _ _ => k
def label : Fm → Option Str | mk _ l _ _ _ => l
def value : Fm → Str | mk _ _ v _ _ => v
def attrs : Fm → List Atr | mk _ _ _ a _ => a
def kids : Fm → List Fm | mk _ _ _ _ k => k
end Fm
def labD : Option Str → PyData
  | none => .str (S "")
  | some n => .tuple [.str n, .str (S ""), .str n]
def keyD (a : Atr) : PyData := .tuple [.str a.ks, .str a.kn]
def atrL (a : Atr) : PyData := .list [keyD a, .str a.name, .str a.value]
def atrT (a : Atr) : PyData := .tuple [keyD a, .str a.name, .str a.value]
mutual
def rowsD : Fm → PyData
  | .mk k l v as ks => .list [.str k, labD l, .str v, .list (as.map atrL), .list (rowsAll ks)]
def rowsAll : List Fm → List PyData
  | [] => []
  | f :: r => rowsD f :: rowsAll r
end
mutual
def formD : Fm → PyData
  | .mk k l v as ks => .tuple [.str k, labD l, .str v, .tuple (as.map atrT), .tuple (formAll ks)]
def formAll : List Fm → List PyData
  | [] => []
  | f :: r => formD f :: formAll r
end
theorem rowsAll_eq : ∀ ks : List Fm, rowsAll ks = ks.map rowsD
  | [] => rfl
  | f :: r => by rw [rowsAll, rowsAll_eq r]; rfl
theorem formAll_eq : ∀ ks : List Fm, formAll ks = ks.map formD
  | [] => rfl
  | f :: r => by rw [formAll, formAll_eq r]; rfl
theorem rowsD_mk (k l v as ks) : rowsD (.mk k l v as ks) = .list [.str k, labD l, .str v, .list (as.map atrL), .list (ks.map rowsD)] := by rw [rowsD, rowsAll_eq]
theorem formD_mk (k l v as ks) : formD (.mk k l v as ks) = .tuple [.str k, labD l, .str v, .tuple (as.map atrT), .tuple (ks.map formD)] := by rw [formD, formAll_eq]

/-- small texts, few things, no deeper than n -/
def tok (x : Str) : Bool := PyData.strOk x && decide (x.length ≤ 1000)
def atrOk (a : Atr) : Bool := tok a.ks && tok a.kn && tok a.name && tok a.value
def okF : Nat → Fm → Bool
  | 0, _ => false
  | n + 1, .mk k l v as ks => tok k && (l.all tok) && tok v && decide (as.length ≤ 10) && as.all atrOk && decide ((as.map fun a => (a.ks, a.kn)).Nodup) && decide (ks.length ≤ 100) && ks.all (okF n)
structure OkF (n : Nat) (k : Str) (l : Option Str) (v : Str) (as : List Atr) (ks : List Fm) : Prop where
  kind : tok k = true
  label : l.all tok = true
  value : tok v = true
  alen : as.length ≤ 10
  attrs : ∀ a ∈ as, atrOk a = true
  nodup : (as.map fun a => (a.ks, a.kn)).Nodup
  klen : ks.length ≤ 100
  kids : ∀ f ∈ ks, okF n f = true
theorem okF_succ {n : Nat} {k l v as ks} (h : okF (n + 1) (.mk k l v as ks) = true) : OkF n k l v as ks := by
  simp only [okF, Bool.and_eq_true, decide_eq_true_eq, List.all_eq_true] at h
  obtain ⟨⟨⟨⟨⟨⟨⟨h1, h2⟩, h3⟩, h4⟩, h5⟩, h6⟩, h7⟩, h8⟩ := h
  exact ⟨h1, h2, h3, h4, h5, h6, h7, h8⟩
theorem tok_ok {x : Str} (h : tok x = true) : PyData.strOk x = true := (Bool.and_eq_true_iff.mp h).1
theorem tok_len {x : Str} (h : tok x = true) : x.length ≤ 1000 := of_decide_eq_true (Bool.and_eq_true_iff.mp h).2

/-! ## shaped data -/
theorem canLay_all {α : Type} {f : α → PyData} : ∀ {l : List α}, (∀ x ∈ l, (f x).canLay0 = true) → PyData.canLayAll0 (l.map f) = true
  | [], _ => rfl
  | x :: r, h => by
    rw [List.map_cons, PyData.canLayAll0, h x (.head _), canLay_all fun y hy => h y (.tail _ hy)]; rfl
theorem depth_all {α : Type} {f : α → PyData} {n : Nat} : ∀ {l : List α}, (∀ x ∈ l, (f x).depth ≤ n) → PyData.depthAll (l.map f) ≤ n
  | [], _ => Nat.zero_le _
  | x :: r, h => by
    rw [List.map_cons, PyData.depthAll]
    have h1 := h x (.head _)
    have h2 := depth_all fun y hy => h y (.tail _ hy)
    exact Nat.max_le.mpr ⟨h1, h2⟩
theorem lab_lay {l : Option Str} (h : l.all tok = true) : (labD l).canLay0 = true ∧ (labD l).depth ≤ 1 := by
  cases l with
  | none => exact ⟨by decide +kernel, by decide +kernel⟩
  | some n =>
    have := tok_ok h
    simp only [labD, PyData.canLay0, PyData.canLayAll0, this, PyData.depth, PyData.depthAll]
    exact ⟨by decide +kernel, by decide +kernel⟩
theorem key_lay {a : Atr} (h : atrOk a = true) : (keyD a).canLay0 = true ∧ (keyD a).depth ≤ 1 := by
  simp only [atrOk, Bool.and_eq_true] at h
  simp only [keyD, PyData.canLay0, PyData.canLayAll0, tok_ok h.1.1.1, tok_ok h.1.1.2, PyData.depth, PyData.depthAll]
  exact ⟨by decide +kernel, by decide +kernel⟩
theorem atrL_lay {a : Atr} (h : atrOk a = true) : (atrL a).canLay0 = true ∧ (atrL a).depth ≤ 2 := by
  have k := key_lay h
  simp only [atrOk, Bool.and_eq_true] at h
  simp only [atrL, PyData.canLay0, PyData.canLayAll0, k.1, tok_ok h.1.2, tok_ok h.2, PyData.depth, PyData.depthAll]
  have := k.2
  refine ⟨by decide +kernel, by omega⟩
theorem atrT_lay {a : Atr} (h : atrOk a = true) : (atrT a).canLay0 = true ∧ (atrT a).depth ≤ 2 := by
  have k := key_lay h
  simp only [atrOk, Bool.and_eq_true] at h
  simp only [atrT, PyData.canLay0, PyData.canLayAll0, k.1, tok_ok h.1.2, tok_ok h.2, PyData.depth, PyData.depthAll]
  have := k.2
  refine ⟨by decide +kernel, by omega⟩
theorem rows_lay : ∀ (n : Nat) (f : Fm), okF n f = true → (rowsD f).canLay0 = true ∧ (rowsD f).depth ≤ 2 * n + 4
  | 0, f, h => by cases f; simp [okF] at h
  | n + 1, .mk k l v as ks, h => by
    have o := okF_succ h
    have hl := lab_lay o.label
    have ha1 := canLay_all (f := atrL) fun a ha => (atrL_lay (o.attrs a ha)).1
    have ha2 := depth_all (f := atrL) fun a ha => (atrL_lay (o.attrs a ha)).2
    have hk1 := canLay_all (f := rowsD) fun a ha => (rows_lay n a (o.kids a ha)).1
    have hk2 := depth_all (f := rowsD) fun a ha => (rows_lay n a (o.kids a ha)).2
    rw [rowsD_mk]
    simp only [PyData.canLay0, PyData.canLayAll0, tok_ok o.kind, tok_ok o.value, hl.1, ha1, hk1, PyData.depth, PyData.depthAll]
    have := hl.2
    exact ⟨by decide +kernel, by omega⟩
theorem form_lay : ∀ (n : Nat) (f : Fm), okF n f = true → (formD f).canLay0 = true ∧ (formD f).depth ≤ 2 * n + 4
  | 0, f, h => by cases f; simp [okF] at h
  | n + 1, .mk k l v as ks, h => by
    have o := okF_succ h
    have hl := lab_lay o.label
    have ha1 := canLay_all (f := atrT) fun a ha => (atrT_lay (o.attrs a ha)).1
    have ha2 := depth_all (f := atrT) fun a ha => (atrT_lay (o.attrs a ha)).2
    have hk1 := canLay_all (f := formD) fun a ha => (form_lay n a (o.kids a ha)).1
    have hk2 := depth_all (f := formD) fun a ha => (form_lay n a (o.kids a ha)).2
    rw [formD_mk]
    simp only [PyData.canLay0, PyData.canLayAll0, tok_ok o.kind, tok_ok o.value, hl.1, ha1, hk1, PyData.depth, PyData.depthAll]
    have := hl.2
    exact ⟨by decide +kernel, by omega⟩
theorem shaped_of {d : PyData} {n : Nat} (h1 : d.canLay0 = true) (h2 : d.depth ≤ n) (h3 : n ≤ 64) : SeqAt.shaped d = true := by
  unfold SeqAt.shaped
  rw [h1, Bool.true_and]
  exact decide_eq_true (Nat.le_trans h2 h3)

end
local macro_rules | `(tactic| tb_rel) => `(tactic| first
  | with_reducible assumption
  | exact Tr.const_str
  | exact Tr.const_int
  | exact Tr.const_none
  | exact Tr.const_bool
  | (refine Tr.name rfl (mono_da _) ?_; with_reducible assumption)
  | ((with_reducible show Ev _ _ _ _ _ _ _ (Expr.Name (PySem.Str.ofString "KIND") _) _); exact Tr.glob (by with_reducible assumption) (gi_KIND _) (mono_da _) (.int _ _))
  | ((with_reducible show Ev _ _ _ _ _ _ _ (Expr.Name (PySem.Str.ofString "LABEL") _) _); exact Tr.glob (by with_reducible assumption) (gi_LABEL _) (mono_da _) (.int _ _))
  | ((with_reducible show Ev _ _ _ _ _ _ _ (Expr.Name (PySem.Str.ofString "VALUE") _) _); exact Tr.glob (by with_reducible assumption) (gi_VALUE _) (mono_da _) (.int _ _))
  | ((with_reducible show Ev _ _ _ _ _ _ _ (Expr.Name (PySem.Str.ofString "ATTRIBUTES") _) _); exact Tr.glob (by with_reducible assumption) (gi_ATTRIBUTES _) (mono_da _) (.int _ _))
  | ((with_reducible show Ev _ _ _ _ _ _ _ (Expr.Name (PySem.Str.ofString "CHILDREN") _) _); exact Tr.glob (by with_reducible assumption) (gi_CHILDREN _) (mono_da _) (.int _ _))
  | (refine Tr.tuple ?_; tb_start)
  | (refine Tr.list ?_; tb_start)
  | (refine' Tr.sub_tuple ?ta ?tb ?tc ?td ?te ?tf; (case ta => tb_rel); (case tb => tb_rel); (case tc => decide); (case td => decide); (case te => exact rfl); (case tf => exact rfl))
  | (refine' Tr.sub_list ?ta ?tb ?tc ?td ?te; (case ta => tb_rel); (case tb => tb_rel); (case tc => decide); (case td => decide); (case te => exact rfl)))
local macro_rules | `(tactic| tb_start) => `(tactic| first
  | exact SpE.nil
  | (refine' SpE.cons ?spa ?spb; (case spa => tb_rel); (case spb => tb_start)))
section
open PySem PySem.W PySem.Spec PySem.Calls PyProof.Rows
section
variable {prog : Program} {w : World} {mg mb : Str → Option Value}
def textForm (x : Str) : PyData := .tuple [.str (S "text"), .str (S ""), .str x, .tuple [], .tuple []]
theorem text_form_spec (x : Str) : Pure prog w mg mb 1 21 [.str x] (Da (textForm x)) := by
  intro A s g vs Q E hR W hg r k
  obtain ⟨v, rfl, r1⟩ := r.one
  refine call_at (binds := [(S "text", v)]) (mu := []) (X := NoX) hR W hg (fun _ h => nomatch h) rfl rfl rfl rfl rfl (by decide) (locs rfl) rfl rfl rfl fun L h₁ tk E' a hR' => ?_
  refine St.ret a (R := Da (textForm x)) ?_ fun v g' h' tk a r => k _ _ _ _ a.done0 r
  tb_rel

theorem with_children_spec (a b c d e : PyData) (ds : List PyData) (hsz : ds.length ≤ sizeLine) : Pure prog w mg mb 1 47 [.tuple [a, b, c, d, e], .list ds] (Da (.tuple [a, b, c, d, .tuple ds])) := by
  intro A s g vs Q E hR W hg r k
  obtain ⟨v, u, rfl, r1, r2⟩ := r.two
  refine call_at (binds := [(S "form", v), (S "children", u)]) (mu := []) (X := NoX) hR W hg (fun _ h => nomatch h) rfl rfl rfl rfl rfl (by decide) (locs rfl) rfl rfl rfl fun L h₁ tk E' a' hR' => ?_
  refine St.ret a' (R := Da (.tuple [a, b, c, d, .tuple ds])) ?_ fun v g' h' tk a r => k _ _ _ _ a.done0 r
  refine Tr.tuple (SpE.cons (by tb_rel) (SpE.cons (by tb_rel) (SpE.cons (by tb_rel) (SpE.cons (by tb_rel) (SpE.cons ?_ SpE.nil)))))
  exact Tr.tcall W (gb_tuple _) bb_tuple (Bc.tuple_list hsz) (SpE.cons (by tb_rel) SpE.nil)
end

mutual
def countF : Fm → Int
  | .mk _ _ _ _ ks => 1 + countAll ks
def countAll : List Fm → Int
  | [] => 0
  | f :: r => countF f + countAll r
end
theorem countAll_eq : ∀ ks : List Fm, countAll ks = (ks.map countF).sum
  | [] => rfl
  | f :: r => by rw [countAll, countAll_eq r, List.map_cons, List.sum_cons]
section
variable {prog : Program} {w : World} {mg mb : Str → Option Value}
theorem law_many_spec : ∀ (n : Nat) (f : Fm), okF n f = true → Pure prog w mg mb n 121 [rowsD f] (Da (.int (countF f)))
  | 0, f, h => by cases f; simp [okF] at h
  | n + 1, .mk kd l vl as ks, h => by
    have o := okF_succ h
    intro A s g vs Q E hR W hg r k
    obtain ⟨v, rfl, r1⟩ := r.one
    rw [rowsD_mk] at r1
    refine call_at (binds := [(S "rows", v)]) (mu := []) (X := NoX) hR W hg (fun _ h => nomatch h) rfl rfl rfl rfl rfl (by decide) (locs rfl) rfl rfl rfl fun L h₁ tk E' a hR' => ?_
    refine St.ret a (R := Da (.int (countF (.mk kd l vl as ks)))) ?_ fun v g' h' tk a r => k _ _ _ _ a.done0 r
    rw [countF, countAll_eq]
    refine Tr.binop (by tb_rel) (mono_da _) (Tr.bcall W (gb_sum _) bb_sum (Bc.sum (ns := ks.map countF) hR'.hd) (SpE.cons ?_ SpE.nil)) Bo.add_int
    rw [List.map_map]
    refine Tr.comp0 (cl := []) rowsD (fun f => [(S "row", rowsD f)]) _ (T := fun _ => True) (Ie.list hR'.hd (by tb_rel)) trivial (by have := o.klen; have := sizeLine_eq; omega)
      (fun C d hd => Asg.name rfl rfl) (fun C d g' m' hd hg' bd => ?_) rfl (by decide) rfl (by decide)
    obtain ⟨v', hv, rv⟩ := bd _ (.head _)
    exact Tr.call (W.mono hg') hR' (gf_law_many _) (gd_law_many _) (law_many_spec n d (o.kids d hd)) (SpE.cons (Tr.name hv (mono_da _) rv) SpE.nil)
end

end
section
open PySem PySem.W PySem.Spec PySem.Calls PyProof.Rows
section
variable {prog : Program} {w : World} {mg mb : Str → Option Value}
theorem law_built_spec : ∀ (n : Nat) (f : Fm), okF n f = true → Pure prog w mg mb n 104 [rowsD f] (Da (formD f))
  | 0, f, h => by cases f; simp [okF] at h
  | n + 1, .mk kd l vl as ks, h => by
    have o := okF_succ h
    have h1 := o.alen; have h2 := o.klen; have h3 := sizeLine_eq
    intro A s g vs Q E hR W hg r k
    obtain ⟨v, rfl, r1⟩ := r.one
    rw [rowsD_mk] at r1
    refine call_at (binds := [(S "rows", v)]) (mu := []) (X := NoX) hR W hg (fun _ h => nomatch h) rfl rfl rfl rfl rfl (by decide) (locs rfl) rfl rfl rfl fun L h₁ tk E' a hR' => ?_
    refine St.assign (R := Da (.tuple (as.map atrT))) a ?_ fun u g1 h1' tk1 a1 hg1 r2 => ?_
    · refine Tr.tcall W (gb_tuple _) bb_tuple (Bc.tuple_list (by rw [List.length_map]; omega)) (SpE.cons ?_ SpE.nil)
      refine Tr.comp0 (cl := []) atrL (fun f => [(S "row", atrL f)]) _ (T := fun _ => True) (Ie.list hR'.hd (by tb_rel)) trivial (by omega)
        (fun C d hd => Asg.name rfl rfl) (fun C d g' m' hd hg' bd => ?_) rfl (by decide) rfl (by decide)
      obtain ⟨v', hv, rv⟩ := bd _ (.head _)
      exact Tr.tcall (W.mono hg') (gb_tuple _) bb_tuple (Bc.tuple_list (ds := [keyD d, .str d.name, .str d.value]) (by show 3 ≤ _; omega)) (SpE.cons (Tr.name hv (mono_da _) rv) SpE.nil)
    · have r1 := r1.mono hg1
      have W := W.mono hg1
      rw [formD_mk] at k
      refine St.ret a1 (R := Da (.tuple [.str kd, labD l, .str vl, .tuple (as.map atrT), .tuple (ks.map formD)])) ?_ fun v g' h' tk a r => k _ _ _ _ a.done0 r
      refine Tr.tuple (SpE.cons (by tb_rel) (SpE.cons (by tb_rel) (SpE.cons (by tb_rel) (SpE.cons (by tb_rel) (SpE.cons ?_ SpE.nil)))))
      refine Tr.tcall W (gb_tuple _) bb_tuple (Bc.tuple_list (by rw [List.length_map]; omega)) (SpE.cons ?_ SpE.nil)
      refine Tr.comp0 (cl := []) rowsD (fun f => [(S "row", rowsD f)]) _ (T := fun _ => True) (Ie.list hR'.hd (by tb_rel)) trivial (by omega)
        (fun C d hd => Asg.name rfl rfl) (fun C d g' m' hd hg' bd => ?_) rfl (by decide) rfl (by decide)
      obtain ⟨v', hv, rv⟩ := bd _ (.head _)
      exact Tr.call (W.mono hg') hR' (gf_law_built _) (gd_law_built _) (law_built_spec n d (o.kids d hd)) (SpE.cons (Tr.name hv (mono_da _) rv) SpE.nil)
end

end
section
open PySem PySem.W PySem.Spec PySem.Calls PyProof.Rows

/-! ## lists that turn -/
theorem mapSeq_push (vs : List Value) (n : Nat) (x : Value) : Obj.mapSeq (fun y => y.push x) (lstO vs n) = lstO (vs ++ [x]) (n + 1) := by simp [Obj.mapSeq]
theorem upd_get {h : Heap} {l : Addr} {o o' : Obj} {f : Obj → Obj} (e : h.get? l = some o) (q : f o = o') (hf : o'.isFreed = false) : (h.update l f).get? l = some o' := by
  rw [Heap.get?_update_self _ e (by rw [q]; exact hf), q]

section
variable {prog : Program} {w : World} {A : Around} {E : Value → Shared → Prop} {s : Shared} {l b : Addr} {vs ws : List Value} {n : Nat}
theorem l_append {x : Value} {Q : Value → Shared → Prop} (e : s.heap.get? l = some (lstO vs n)) (hsz : vs.length ≤ sizeLine)
    (k : ∀ h', h'.get? l = some (lstO (vs ++ [x]) (n + 1)) → Heap.SameBut l s.heap h' → Q .none { s with heap := h' }) : wpAny (model prog w) A (call (.builtin "list.append") [.ref l, x]) Q E s :=
  call_meets PySem.F.slot_list_append ⟨_, e, rfl⟩ PySem.F.entry_list_append (PySem.F.args_list_append_2 _ _) (PySem.list_append l vs.toArray n x (by simpa using hsz)) ⟨e, k _ (upd_get e (mapSeq_push ..) rfl) (Heap.SameBut.update ..)⟩

theorem list_extend_any (l b : Addr) (items items2 : Array Value) (n n2 : Nat) (dd : Option Addr) (sl : Array (Option Value)) (T : String) (hT : T = "list" ∨ T = "tuple") (hne : l ≠ b) (hc1 : items.size + items2.size ≤ sizeLine) :
    Meets (Builtin.«list.extend» ⟨[.ref l, .ref b], []⟩) (fun _ R s => s.heap.get? l = some { cls := .type "list", dict := none, data := .seq items n, slots := #[] } ∧ s.heap.get? b = some { cls := .type T, dict := dd, data := .seq items2 n2, slots := sl } ∧ R (.ok (.ret Value.none)) { s with heap := s.heap.update l (Obj.mapSeq fun x => x ++ items2), toks := s.toks }) := by
  rcases hT with rfl | rfl
  · exact .of_wp fun prog w A R s h => by
      obtain ⟨hp, g, d, tk, os⟩ := s; obtain ⟨hl, hb, h⟩ := h; have f1 := AutoSeq1.idx_int; have f2 := AutoSeq1.sub_tuple_tuple; have f3 := AutoSeq1.sub_list_list; have f4 := AutoSeq1.sub_tuple_list; have f5 := AutoSeq1.sub_list_tuple;
      have hs0 : ¬(!items.isEmpty && Builtin.List.listTooLong (items.size + items2.size)) = true := by
        simp only [Builtin.List.listTooLong, Bool.and_eq_true, decide_eq_true_eq, not_and]; intro _; omega
      have hz0 : items.size ≤ sizeLine := by omega
      have hz' : (items ++ items2).size ≤ sizeLine + 1 := by rw [Array.size_append]; omega
      wp_walk using (wpAny_updateSeq hl rfl (hz := hz0) (_hz' := hz')), wpAny_loadPart' hl, wpAny_loadPart' hb; exact ⟨_, rfl, h⟩
  · exact .of_wp fun prog w A R s h => by
      obtain ⟨hp, g, d, tk, os⟩ := s; obtain ⟨hl, hb, h⟩ := h; have f1 := AutoSeq1.idx_int; have f2 := AutoSeq1.sub_tuple_tuple; have f3 := AutoSeq1.sub_list_list; have f4 := AutoSeq1.sub_tuple_list; have f5 := AutoSeq1.sub_list_tuple;
      have hs0 : ¬(!items.isEmpty && Builtin.List.listTooLong (items.size + items2.size)) = true := by
        simp only [Builtin.List.listTooLong, Bool.and_eq_true, decide_eq_true_eq, not_and]; intro _; omega
      have hz0 : items.size ≤ sizeLine := by omega
      have hz' : (items ++ items2).size ≤ sizeLine + 1 := by rw [Array.size_append]; omega
      wp_walk using (wpAny_updateSeq hl rfl (hz := hz0) (_hz' := hz')), wpAny_loadPart' hl, wpAny_loadPart' hb; exact ⟨_, rfl, h⟩
theorem l_extend {Q : Value → Shared → Prop} (e : s.heap.get? l = some (lstO vs n)) {o : Obj} {T : String} {n2 : Nat} (hb : s.heap.get? b = some o) (hc : o.cls = .type T) (hd : o.data = .seq ws.toArray n2) (hT : T = "list" ∨ T = "tuple") (hne : l ≠ b) (hsz : vs.length + ws.length ≤ sizeLine)
    (k : ∀ h' n', h'.get? l = some (lstO (vs ++ ws) n') → Heap.SameBut l s.heap h' → Q .none { s with heap := h' }) : wpAny (model prog w) A (call (.builtin "list.extend") [.ref l, .ref b]) Q E s := by
  obtain ⟨c, dd, dt, sl⟩ := o
  simp only at hc hd
  subst hc hd
  refine call_meets PySem.F.slot_list_extend ⟨_, e, rfl⟩ PySem.F.entry_list_extend (PySem.F.args_list_extend_2 _ _) (list_extend_any l b vs.toArray ws.toArray n n2 dd sl T hT hne (by simpa using hsz)) ⟨e, hb, ?_⟩
  refine k _ _ (upd_get (o' := lstO (vs ++ ws) (if (vs.toArray ++ ws.toArray).size == vs.toArray.size then n else n + 1)) e ?_ rfl) (Heap.SameBut.update ..)
  simp [Obj.mapSeq]
theorem l_pop {y : Value} {Q : Value → Shared → Prop} (e : s.heap.get? l = some (lstO (vs ++ [y]) n)) (hsz : vs.length + 1 ≤ sizeLine)
    (k : ∀ h' n', h'.get? l = some (lstO vs n') → Heap.SameBut l s.heap h' → Q y { s with heap := h' }) : wpAny (model prog w) A (call (.builtin "list.pop") [.ref l]) Q E s := by
  have hy : (vs ++ [y]).toArray[(vs ++ [y]).toArray.size - 1]? = some y := by simp
  refine call_meets PySem.F.slot_list_pop ⟨_, e, rfl⟩ PySem.F.entry_list_pop (PySem.F.args_list_pop_1 _) (PySem.MeetsSeq.list_pop_last l (vs ++ [y]).toArray n y hy (by simpa using hsz)) ⟨e, ?_⟩
  refine k _ (n + 1) (upd_get e ?_ rfl) (Heap.SameBut.update ..)
  have : (vs ++ [y]).toArray.eraseIdxIfInBounds ((vs ++ [y]).toArray.size - 1) = vs.toArray := by
    apply Array.ext'
    simp [Array.toList_eraseIdxIfInBounds, List.eraseIdx_append_of_length_le]
  simp only [Obj.mapSeq, this]
  simp
theorem l_set {k : Int} {t : Tok} {j : Nat} {v : Value} {Q : Unit → Shared → Prop} (e : s.heap.get? l = some (lstO vs n)) (hfit : Builtin.List.listFitsIndex k = true) (hj : seqIndex? k vs.length = some j) (hlt : j < vs.length)
    (hQ : ∀ h', h'.get? l = some (lstO (vs.set j v) n) → Heap.SameBut l s.heap h' → Q () { s with heap := h' }) : wpAny (model prog w) A (setItem (.ref l) (.int k t) v) Q E s := by
  have hl : s.heap.IsList l vs.toArray := isList_of e
  have hx' : vs.toArray[j]? = some vs[j] := by simp [hlt]
  unfold setItem
  try with_reducible refine wpAny_holding ?_
  first | refine wpAny_bind (wpAny_pure ?_) | skip
  refine wpAny_bind (wpAny_sequenceKey hl.typeIs (by decide) ?_)
  refine wpAny_bind (wpAny_callSpecial?_slot (name := Str.ofString "__setitem__") hl.typeIs PySem.slot_list_setitem
    (wpAny_call_entry PySem.slot_list_setitem hl.typeIs PySem.entry_list_setitem ?_ (PySem.args_list_setitem _ _ _)))
  show wpAny _ _ (Builtin.List.listSubscript? (.int k t) >>= _) _ _ s
  refine wpAny_bind (wpAny_listSubscript_int hfit ?_)
  have hfin : (s.heap.update l (Obj.mapSeq (·.setIfInBounds j v))).get? l = some (lstO (vs.set j v) n) := by
    refine upd_get e ?_ rfl
    simp [Obj.mapSeq]
  clear hfit
  cases k with
  | ofNat i =>
    have : i = j := by
      unfold seqIndex? at hj
      have h0 : ¬ ((i : Int) < 0) := by omega
      simp only [Int.ofNat_eq_natCast] at hj
      rw [if_neg h0] at hj
      split at hj
      · simpa using hj
      · cases hj
    subst this
    show wpAny _ _ ((seqItemAt l i >>= fun r => pure (r.map (i, ·))) >>= _) _ _ s
    refine wpAny_bind (wpAny_bind (wpAny_seqItemAt e rfl (wpAny_pure ?_)))
    rw [hx']
    show wpAny _ _ (setSeqItemAt l i v >>= _) _ _ s
    refine wpAny_bind (wpAny_setSeqItemAt e rfl ?_)
    first
      | exact wpAny_bind (wpAny_pure (wpAny_pure ⟨.none, rfl, wpAny_pure (hQ _ hfin (Heap.SameBut.update ..))⟩))
      | exact wpAny_pure ⟨.none, rfl, wpAny_pure (hQ _ hfin (Heap.SameBut.update ..))⟩
  | negSucc i =>
    show wpAny _ _ ((Builtin.List.listItems (.ref l) >>= fun xs => pure ((seqIndex? (Int.negSucc i) xs.size).bind fun i => xs[i]?.map (i, ·))) >>= _) _ _ s
    refine wpAny_bind (wpAny_bind ?_)
    show wpAny _ _ (seqItems? (.ref l) >>= _) _ _ s
    refine wpAny_bind (wpAny_seqItems e rfl (wpAny_pure (wpAny_pure ?_)))
    rw [List.size_toArray, hj]
    simp only [Option.bind_some, hx', Option.map_some]
    show wpAny _ _ (setSeqItemAt l j v >>= _) _ _ s
    refine wpAny_bind (wpAny_setSeqItemAt e rfl ?_)
    first
      | exact wpAny_bind (wpAny_pure (wpAny_pure ⟨.none, rfl, wpAny_pure (hQ _ hfin (Heap.SameBut.update ..))⟩))
      | exact wpAny_pure ⟨.none, rfl, wpAny_pure (hQ _ hfin (Heap.SameBut.update ..))⟩
end

end
section
open PySem PySem.W PySem.Spec PySem.Calls PyProof.Rows

section
variable {prog : Program} {w : World} {A : Around} {env : Env} {m : Str → Option Value} {mu : Mu} {g : Heap} {mg mb : Str → Option Value}
theorem mono_ref (l : Addr) : Mono (fun _ v => v = Value.ref l) := fun _ _ _ _ r => r
theorem Tr.ref {x : Str} {pos : Pos} {l : Addr} (hv : m x = some (.ref l)) (hk : env.scope.kind = .function := by rfl) (hl : env.kindOf x = some .local := by rfl)
    (hd : (x == ("__debug__" : Str)) = false := by decide) : Ev prog w A env m mu g (.Name x pos) (fun _ v => v = .ref l) := Tr.name hv (mono_ref l) rfl hk hl hd
theorem Tr.neg {e : Expr} {pos : Pos} {i : Int} (h : Ev prog w A env m mu g e (Da (.int i))) : Ev prog w A env m mu g (.UnaryOp .USub e pos) (Da (.int (-i))) :=
  fun s g₁ Q E hg X k => wpAny_UnaryOp (h s _ _ _ hg X fun v g' h' tk G r => by
    obtain ⟨t, rfl⟩ := r.int_inv
    exact PyProof.Rows.neg_int (k _ _ h' _ G (.int _ _)))
theorem seqIdx_cases {i : Int} {n j : Nat} (h : seqIndex? i n = some j) : (0 ≤ i ∧ i.toNat = j ∧ j < n) ∨ (i < 0 ∧ (i + n).toNat = j ∧ -(n : Int) ≤ i ∧ j < n) := by
  unfold seqIndex? at h
  dsimp only at h
  by_cases h0 : i < 0
  · rw [if_pos h0] at h
    split at h
    · rename_i q
      simp only [Bool.and_eq_true, decide_eq_true_eq] at q
      cases h
      exact .inr ⟨h0, rfl, by omega, by omega⟩
    · cases h
  · rw [if_neg h0] at h
    split at h
    · rename_i q
      simp only [Bool.and_eq_true, decide_eq_true_eq] at q
      cases h
      exact .inl ⟨by omega, rfl, by omega⟩
    · cases h
/-- an item of a list that may turn -/
theorem Tr.sub_mut {value slice : Expr} {pos : Pos} {l : Addr} {vs : List Value} {n : Nat} {ds : List PyData} {i : Int} {j : Nat} {d : PyData} (hv : Ev prog w A env m mu g value (fun _ v => v = .ref l)) (hm : (l, lstO vs n) ∈ mu) (r : RdAll g vs ds)
    (h2 : Ev prog w A env m mu g slice (Da (.int i))) (hlo : -(2 ^ 63) ≤ i) (hhi : i < 2 ^ 63) (hj : seqIndex? i ds.length = some j) (hd : ds[j]? = some d)
    (hs : ∀ (t : Addr) (i : Int) (u : Tok), subscripted slice false (.ref t) (.int i u) = operate [.ref t, .int i u] (getItem (.ref t) (.int i u)) := by intro _ _ _; with_unfolding_all rfl) :
    Ev prog w A env m mu g (.Subscript value slice pos) (Da d) :=
  fun s g₁ Q E hg X k => Subscript_ (hv s g₁ _ _ hg X fun v g1 h1' tk1 G1 r1 => h2 _ _ _ _ (hg.trans G1.gg) (X.grow G1) fun u g2 h2' tk2 G2 r2 => by
    subst r1
    obtain ⟨t, rfl⟩ := r2.int_inv
    obtain ⟨x, hx, rx⟩ := r.get hd
    have hL : h2'.IsList l vs.toArray := isList_of (((X.grow G1).grow G2).mu _ hm).1
    have kk := k x g2 h2' tk2 (G1.trans G2) (rx.mono (hg.trans (G1.gg.trans G2.gg)))
    have gi : wpAny (model prog w) A (getItem (.ref l) (.int i t)) Q E { s with heap := h2', toks := tk2 } := by
      have hlen := r.length
      rcases seqIdx_cases hj with ⟨h0, e, _⟩ | ⟨h0, e, h1, _⟩
      · exact wpAny_getItem_list hL h0 hhi (by rw [e]; simpa using hx) kk
      · exact wpAny_getItem_list_neg hL h0 (by rw [List.size_toArray, hlen]; exact h1) hlo (by rw [List.size_toArray, hlen, e]; simpa using hx) kk
    exact tail_any hL.typeIs slot_list_getitem.lookup gi (hs _ _ _))
/-- «xs != []» upon a list that may turn -/
theorem Ts.mut_ne_nil {n₀ : Nat} {value : Expr} {pos p2 : Pos} {l : Addr} {vs : List Value} {n : Nat} {ds : List PyData} (hR : Rm n₀ A) (hv : Ev prog w A env m mu g value (fun _ v => v = .ref l)) (hm : (l, lstO vs n) ∈ mu) (r : RdAll g vs ds) (hsh : SeqAt.shaped (.list ds) = true) :
    Ts prog w A env m mu g (.Compare value [.NotEq] [.List [] p2] pos) (!ds.isEmpty) :=
  fun s g₁ Q E hg X k => wpAny_isTrue_Compare1 (hv s g₁ _ _ hg X fun v g1 h1' tk1 G1 r1 => (Tr.list SpE.nil (A := A) (env := env) (m := m) (mu := mu) (g := g)) _ _ _ _ (hg.trans G1.gg) (X.grow G1) fun u g2 h2' tk2 G2 r2 => by
    subst r1
    have hL : h2'.IsList l vs.toArray := isList_of (((X.grow G1).grow G2).mu _ hm).1
    obtain ⟨as, ra⟩ : Rd h2' (.ref l) (.list ds) := .list hL (r.mono (hg.trans (G1.gg.trans (G2.gg.trans G2.gh))))
    obtain ⟨bs, rb⟩ := r2.mono G2.gh
    have e : (!PyData.eqv (.list ds) (.list [])) = !ds.isEmpty := by cases ds <;> simp [PyData.eqv, PyData.eqvAll]
    refine SeqAt.compareNe_shaped ra rb hsh (by decide +kernel) hR.room ?_
    rw [e]
    exact wpAny_truthy_bool (k g2 h2' tk2 (G1.trans G2)))
end

/-! ## method calls upon a list that may turn -/
section
variable {prog : Program} {w : World} {A : Around} {env : Env} {m : Str → Option Value} {mu : Mu} {g g₀ e₀ : Heap} {mg mb : Str → Option Value} {X : Addr → Prop} {s : Shared} {h0 : Heap} {G0 : Array GenState} {D0 : Drawn} {T0 : Nat} {O0 : OsState} {E : Value → Shared → Prop}
theorem meth_call {x nm : Str} {np apos pos : Pos} {args : List Expr} {id : String} {l : Addr} {vs : List Value} {n : Nat} {Q : Value → Shared → Prop} (a : At X g₀ e₀ env m mu g s.heap) (hv : m x = some (.ref l)) (hm : (l, lstO vs n) ∈ mu)
    (slot : Slot "list" nm id) (ty : typeOf (.builtin id) = pure (.type "method_descriptor")) (h : wpAny (model prog w) A (callWith pos (.builtin id) [.ref l] (backTo pos (starEach args env)) []) Q E s)
    (hk : env.scope.kind = .function := by rfl) (hl : env.kindOf x = some .local := by rfl) (hd : (x == ("__debug__" : Str)) = false := by decide)
    (hbase : attributeBase (.Name x np) nm env (eval (.Name x np) env) = eval (.Name x np) env := by rfl)
    (hfew : ((backTo pos (starEach args env)).all (fun x => !x.1) && (backToKw pos (keywordEach [] env)).all (fun x => x.1.isSome) && decide (args.length + ([] : List Keyword).length + (if ([] : List Keyword).isEmpty then 0 else 1) < 30)) = true := by rfl)
    (hline : (apos.endLine == pos.line) = true := by rfl) :
    wpAny (model prog w) A (eval (.Call (.Attribute (.Name x np) nm apos) args [] pos) env) Q E s := by
  refine wpAny_Call_method_late hbase hfew hline rfl (wpAny_Name (wpAny_loadName_local hk hl a.sit.ns hv ?_) hd)
  exact ⟨"list", id, PySem.F.plainAttrs_list, slot, ty, ⟨_, a.get hm, rfl⟩, fun b hb => by cases hb; exact ⟨_, a.get hm, rfl⟩, h⟩

variable {Q : Flow → Shared → Prop} {rest : List Stmt}
theorem St.expr {e : Expr} {pos : Pos} (h : wpAny (model prog w) A (eval e env) (fun _ s' => wpAny (model prog w) A (execs rest env) Q E s') E (Shared.mk h0 G0 D0 T0 O0))
    (hi : interactive env = false := by rfl) (hs : swapsWith e none pos.line env = pure false := by rfl) : wpAny (model prog w) A (execs (.Expr e pos :: rest) env) Q E (Shared.mk h0 G0 D0 T0 O0) :=
  wpAny_execs_cons (wpAny_Expr_any h hi hs)
/-- «xs.append(e)» -/
theorem St.append {x : Str} {np apos pos ep : Pos} {elt : Expr} {l : Addr} {vs : List Value} {n : Nat} {d : PyData} (a : At X g₀ e₀ env m ((l, lstO vs n) :: mu) g h0) (hv : m x = some (.ref l)) (hd : ∀ p ∈ mu, p.1 ≠ l) (hsz : vs.length ≤ sizeLine)
    (he : Ev prog w A env m ((l, lstO vs n) :: mu) g elt (Da d)) (k : ∀ v g' h' tk, At X g₀ e₀ env m ((l, lstO (vs ++ [v]) (n + 1)) :: mu) g' h' → Le g g' → Rd g' v d → wpAny (model prog w) A (execs rest env) Q E (Shared.mk h' G0 D0 tk O0))
    (hk : env.scope.kind = .function := by rfl) (hl : env.kindOf x = some .local := by rfl) (hdb : (x == ("__debug__" : Str)) = false := by decide)
    (hbase : attributeBase (.Name x np) (PySem.Str.ofString "append") env (eval (.Name x np) env) = eval (.Name x np) env := by rfl)
    (hfew : ((backTo pos (starEach [elt] env)).all (fun x => !x.1) && (backToKw pos (keywordEach [] env)).all (fun x => x.1.isSome) && decide (([elt] : List Expr).length + ([] : List Keyword).length + (if ([] : List Keyword).isEmpty then 0 else 1) < 30)) = true := by rfl)
    (hline : (apos.endLine == pos.line) = true := by rfl) (hse : starEach [elt] env = (false, eval elt env) :: starEach [] env := by rfl)
    (hi : interactive env = false := by rfl) (hs : swapsWith (.Call (.Attribute (.Name x np) (PySem.Str.ofString "append") apos) [elt] [] pos) none ep.line env = pure false := by rfl) :
    wpAny (model prog w) A (execs (.Expr (.Call (.Attribute (.Name x np) (PySem.Str.ofString "append") apos) [elt] [] pos) ep :: rest) env) Q E (Shared.mk h0 G0 D0 T0 O0) := by
  refine St.expr (meth_call a hv (.head _) PySem.F.slot_list_append PySem.F.type_list_append ?_ hk hl hdb hbase hfew hline) hi hs
  refine callWith_method1 (args_cons (he (Shared.mk h0 G0 D0 T0 O0) g _ _ (Le.refl g) a.sit fun v g' h' tk G r => args_nil ?_) hse) hse
  have a' := a.grow G
  exact l_append (a'.get (.head _)) hsz fun h2 e2 s2 => k v g' h2 tk (a'.turn hd s2 e2) G.gg r
end

/-! ## loops -/
section
variable {X : Addr → Prop} {g₀ e g h g' h' : Heap} {env : Env} {m m' : Str → Option Value} {mu : Mu}
theorem At.offDone {fp : List Addr} (a : At X g₀ e env m mu g h) (y : ∀ b o, b ∉ fp → h.get? b = some o → h'.get? b = some o) (hf : ∀ b ∈ fp, g.get? b = none ∧ b ≠ env.locals ∧ e.get? b = none ∧ ∀ p ∈ mu, p.1 ≠ b) : At X g₀ e env m mu g h' := by
  have nL : env.locals ∉ fp := fun z => (hf _ z).2.1 rfl
  have gh : Le g h' := fun b o q => y b o (fun z => by rw [(hf b z).1] at q; cases q) (a.le b o q)
  refine ⟨⟨gh, a.sit.ns.at' fun o q => y _ o nL q, a.sit.gL, fun p hp => ⟨y _ _ (fun z => (hf _ z).2.2.2 p hp rfl) (a.sit.mu p hp).1, (a.sit.mu p hp).2⟩⟩, ⟨a.gr.gg, gh, fun b o n q => ?_, fun b o q => ?_, a.gr.fr⟩, a.eL, a.mu⟩
  · exact y b o (fun z => by rw [(hf b z).2.2.1] at q; cases q) (a.gr.hh b o n q)
  · obtain ⟨o', q'⟩ := a.gr.dm b o q
    exact ⟨o', y b o' (fun z => by rw [(hf b z).2.2.1] at q; cases q) q'⟩
theorem At.off {fp : List Addr} (a : At X g₀ e env m mu g h) (y : GrowX (· ∈ fp) g h g' h') (hf : ∀ b ∈ fp, b ≠ env.locals ∧ e.get? b = none ∧ ∀ p ∈ mu, p.1 ≠ b) : At X g₀ e env m mu g' h' := by
  have nL : env.locals ∉ fp := fun z => (hf _ z).1 rfl
  obtain ⟨oL, _, _, eL, _⟩ := a.sit.ns
  refine ⟨⟨y.gh, a.sit.ns.at' fun o q => y.hh _ o nL q, y.fr _ _ eL a.sit.gL, fun p hp => ⟨y.hh _ _ (fun z => (hf _ z).2.2 p hp rfl) (a.sit.mu p hp).1, y.fr _ _ (a.sit.mu p hp).1 (a.sit.mu p hp).2⟩⟩, ⟨a.gr.gg.trans y.gg, y.gh, fun b o n q => ?_, fun b o q => ?_, fun b o q n => ?_⟩, a.eL, a.mu⟩
  · exact y.hh b o (fun z => by rw [(hf b z).2.1] at q; cases q) (a.gr.hh b o n q)
  · obtain ⟨o', q'⟩ := a.gr.dm b o q
    exact y.dm b o' q'
  · obtain ⟨o', q'⟩ := a.gr.dm b o q
    exact y.fr b o' q' (a.gr.fr b o q n)
/-- into a loop's turn, and back -/
theorem At.into (a : At X g₀ e env m mu g h) {as : List Addr} (has : mu.map (·.1) = as) : ∃ e', (∀ b, e'.get? b = if b = env.locals then none else h.get? b) ∧ At (· ∈ as) g e' env m mu g h := by
  obtain ⟨e', q⟩ := hide_ex h env.locals
  have le : ∀ b o, e'.get? b = some o → h.get? b = some o := fun b o z => by rw [q] at z; split at z; · cases z
                                                                             · exact z
  exact ⟨e', q, a.sit, ⟨Le.refl g, a.le, fun b o _ z => le b o z, fun b o z => ⟨o, le b o z⟩, fun _ _ _ z => z⟩, by rw [q, if_pos rfl], fun p hp => ⟨(a.mu p hp).1, .inl (by rw [← has]; exact List.mem_map_of_mem hp)⟩⟩
theorem At.back {as : List Addr} {e' g2 h2 : Heap} {m2 : Str → Option Value} {mu2 : Mu} (a : At X g₀ e env m mu g h) (has : mu.map (·.1) = as) (q : ∀ b, e'.get? b = if b = env.locals then none else h.get? b) (b : At (· ∈ as) g e' env m2 mu2 g2 h2) (has2 : mu2.map (·.1) = as) :
    At X g₀ e env m2 mu2 g2 h2 := by
  have nL : ∀ c o, e.get? c = some o → c ≠ env.locals := fun c o z y => by subst y; rw [a.eL] at z; cases z
  refine ⟨b.sit, ⟨a.gr.gg.trans b.gr.gg, b.gr.gh, fun c o n z => ?_, fun c o z => ?_, fun c o z n => ?_⟩, a.eL, fun p hp => ?_⟩
  · have z1 := a.gr.hh c o n z
    have nc : c ∉ as := fun hc => by
      rw [← has] at hc
      obtain ⟨p, hp, rfl⟩ := List.mem_map.mp hc
      rcases (a.mu p hp).2 with hX | hX
      · exact n (.inr hX)
      · rw [hX] at z; cases z
    exact b.gr.hh c o (fun y => y.elim (nL c o z) nc) (by rw [q, if_neg (nL c o z)]; exact z1)
  · obtain ⟨o', z1⟩ := a.gr.dm c o z
    exact b.gr.dm c o' (by rw [q, if_neg (nL c o z)]; exact z1)
  · obtain ⟨o', z1⟩ := a.gr.dm c o z
    exact b.gr.fr c o' (by rw [q, if_neg (nL c o z)]; exact z1) (a.gr.fr c o z n)
  · have : p.1 ∈ mu.map (·.1) := by rw [has, ← has2]; exact List.mem_map_of_mem hp
    obtain ⟨p', hp', e1⟩ := List.mem_map.mp this
    rw [← e1]
    exact a.mu p' hp'
end

section
variable {prog : Program} {w : World} {A : Around} {env : Env} {m : Str → Option Value} {mu : Mu} {g g₀ e₀ : Heap} {mg mb : Str → Option Value} {X : Addr → Prop} {s : Shared} {h0 : Heap} {G0 : Array GenState} {D0 : Drawn} {T0 : Nat} {O0 : OsState} {E : Value → Shared → Prop} {Q : Flow → Shared → Prop} {rest : List Stmt}
theorem St.while {test : Expr} {body : List Stmt} {pos : Pos} (I : Nat → (Str → Option Value) → Mu → Heap → Prop) (n : Nat) (a : At X g₀ e₀ env m mu g h0) (hI : I n m mu g)
    (turn : ∀ n m mu g h, At X g₀ e₀ env m mu g h → I n m mu g → ∃ b, Ts prog w A env m mu g test b ∧
      (b = true → ∀ g1 h1 tk1 E', At X g₀ e₀ env m mu g1 h1 → Le g g1 → wpAny (model prog w) A (execs body env) (fun f s2 => match f with
        | .next | .cont => ∃ n' m' mu' g' h' tk', s2 = (Shared.mk h' G0 D0 tk' O0) ∧ n' < n ∧ At X g₀ e₀ env m' mu' g' h' ∧ I n' m' mu' g'
        | .brk => False
        | .ret v => Q (.ret v) s2) E' (Shared.mk h1 G0 D0 tk1 O0)) ∧
      (b = false → ∀ g1 h1 tk1, At X g₀ e₀ env m mu g1 h1 → Le g g1 → wpAny (model prog w) A (execs rest env) Q E (Shared.mk h1 G0 D0 tk1 O0))) :
    wpAny (model prog w) A (execs (.While test body [] pos :: rest) env) Q E (Shared.mk h0 G0 D0 T0 O0) := by
  refine wpAny_execs_cons (wpAny_While ?_)
  refine codeAny_whileLoop (fun n s' => ∃ m mu g h tk, s' = (Shared.mk h G0 D0 tk O0) ∧ At X g₀ e₀ env m mu g h ∧ I n m mu g) ?_ n ⟨m, mu, g, h0, T0, rfl, a, hI⟩
  rintro n s' ⟨m, mu, g, h, tk, rfl, a, hI⟩
  obtain ⟨b, hb, h1, h2⟩ := turn n m mu g h a hI
  refine hb _ g _ _ (Le.refl g) a.sit fun g1 h1' tk1 G => ?_
  cases b with
  | true =>
    simp only [if_true]
    refine wpAny_mono (h1 rfl g1 h1' tk1 _ (a.grow G) G.gg) (fun f s2 q => ?_) fun _ _ x => x
    cases f with
    | next => obtain ⟨n', m', mu', g', h', tk', rfl, hn, a', hI'⟩ := q; exact ⟨n', hn, m', mu', g', h', tk', rfl, a', hI'⟩
    | cont => obtain ⟨n', m', mu', g', h', tk', rfl, hn, a', hI'⟩ := q; exact ⟨n', hn, m', mu', g', h', tk', rfl, a', hI'⟩
    | brk => exact q.elim
    | ret v => exact q
  | false =>
    simp only [Bool.false_eq_true, if_false]
    exact wpAny_execs_nil (h2 rfl g1 h1' tk1 (a.grow G) G.gg)

set_option maxHeartbeats 1000000 in
theorem St.for {target iter : Expr} {body : List Stmt} {pos : Pos} {T : Expr → Prop} {xs : List PyData} (I : Nat → (Str → Option Value) → Mu → Heap → Prop) (bs : PyData → List (Str × PyData)) (as : List Addr) (a : At X g₀ e₀ env m mu g h0)
    (hsrc : Ie prog w A T env m mu g iter xs) (hT : T target) (has : mu.map (·.1) = as) (hasg : ∀ d ∈ xs, Asg prog w A env target d (bs d)) (hI : I 0 m mu g) (mono : ∀ i m mu g g', Le g g' → I i m mu g → I i m mu g')
    (turn : ∀ i d m mu g h tk E' m' e', xs[i]? = some d → I i m mu g → mu.map (·.1) = as → Le g₀ g → Bd g m' (bs d) → (∀ y, y ∉ (bs d).map (·.1) → m' y = m y) → At (· ∈ as) g e' env m' mu g h →
      wpAny (model prog w) A (execs body env) (fun f s2 => match f with
        | .next | .cont => ∃ m2 mu2 g2 h2 tk2, s2 = (Shared.mk h2 G0 D0 tk2 O0) ∧ At (· ∈ as) g e' env m2 mu2 g2 h2 ∧ mu2.map (·.1) = as ∧ I (i + 1) m2 mu2 g2
        | .brk => False
        | .ret _ => False) E' (Shared.mk h G0 D0 tk O0))
    (done : ∀ m mu g h tk, I xs.length m mu g → mu.map (·.1) = as → At X g₀ e₀ env m mu g h → wpAny (model prog w) A (execs rest env) Q E (Shared.mk h G0 D0 tk O0))
    (hs : ∀ x, foldedSetIterable iter env x = pure x := by intro _; rfl) :
    wpAny (model prog w) A (execs (.For target iter body [] pos :: rest) env) Q E (Shared.mk h0 G0 D0 T0 O0) := by
  refine wpAny_execs_cons (wpAny_For (hsrc (Shared.mk h0 G0 D0 T0 O0) g _ _ (Le.refl g) a.sit fun it fp St Mid gI hI' tkI GI It st0 hfresh => ?_) hs)
  have aI := a.grow GI
  have fpL : ∀ b ∈ fp, b ≠ env.locals := fun b hb z => by
    subst z; obtain ⟨o, _, _, q, _⟩ := a.sit.ns; rw [hfresh _ hb] at q; cases q
  have fpe : ∀ b ∈ fp, e₀.get? b = none := fun b hb => a.heap_none (hfresh b hb)
  have fpas : ∀ b ∈ fp, b ∉ as := fun b hb z => by
    rw [← has] at z
    obtain ⟨p, hp, rfl⟩ := List.mem_map.mp z
    have := (a.sit.mu p hp).1
    rw [hfresh _ hb] at this; cases this
  have fpmu : ∀ mu : Mu, mu.map (·.1) = as → ∀ b ∈ fp, ∀ p ∈ mu, p.1 ≠ b := fun mu hm b hb p hp z => fpas b hb (by rw [← hm, ← z]; exact List.mem_map_of_mem hp)
  refine codeAny_forLoop_any (fun k s' => ∃ i m mu g h tk, s' = (Shared.mk h G0 D0 tk O0) ∧ i ≤ xs.length ∧ k = xs.length + 1 - i ∧ At X g₀ e₀ env m mu g h ∧ mu.map (·.1) = as ∧ St i h ∧ Le gI g ∧ (∀ b ∈ fp, g.get? b = none) ∧ I i m mu g) ?_ (xs.length + 1)
    ⟨0, m, mu, gI, hI', tkI, rfl, Nat.zero_le _, rfl, aI, has, st0, Le.refl _, It.off, mono _ _ _ _ _ GI.gg hI⟩
  rintro k s' ⟨i, m, mu, g, h, tk, rfl, hi, rfl, a, has, st, leI, off, hi0⟩
  by_cases hlt : i < xs.length
  · obtain ⟨d, hd⟩ : ∃ d, xs[i]? = some d := ⟨xs[i], by simp [hlt]⟩
    refine It.item i d _ g _ _ hd st leI a.le off fun v ga ha tka Ga mid rv => ?_
    have offa : ∀ b ∈ fp, ga.get? b = none := fun b hb => by obtain ⟨o, e⟩ := It.has i _ st b hb; exact Ga.fr b o e (off b hb)
    refine It.go i v target _ ga _ _ hT mid (leI.trans Ga.gg) Ga.gh offa fun hb Gb stb => ?_
    have ab : At X g₀ e₀ env m mu ga hb := a.off (Ga.trans Gb) fun b hb' => ⟨fpL b hb', fpe b hb', fpmu mu has b hb'⟩
    refine hasg d (List.mem_of_getElem? hd) _ ga v m _ _ ab.sit.drop rv fun hc tkc m' Gc nc bd same => ?_
    have ac : At X g₀ e₀ env m' mu ga hc := ab.frame Gc nc
    have stc : St (i + 1) hc := It.frame _ _ _ stb (leI.trans (Ga.gg.trans Gc.gh)) fun b hb' o e => Gc.hh b o (fpL b hb') e
    obtain ⟨e', q, at'⟩ := ac.into has
    refine wpAny_mono (turn i d m mu ga hc tkc _ m' e' hd (mono _ _ _ _ _ Ga.gg hi0) has ac.gr.gg bd same at') (fun f s2 z => ?_) fun _ _ x => x
    have fin : (∃ m2 mu2 g2 h2 tk2, s2 = (Shared.mk h2 G0 D0 tk2 O0) ∧ At (· ∈ as) ga e' env m2 mu2 g2 h2 ∧ mu2.map (·.1) = as ∧ I (i + 1) m2 mu2 g2) →
        ∃ k, k < xs.length + 1 - i ∧ ∃ i m mu g h tk, s2 = (Shared.mk h G0 D0 tk O0) ∧ i ≤ xs.length ∧ k = xs.length + 1 - i ∧ At X g₀ e₀ env m mu g h ∧ mu.map (·.1) = as ∧ St i h ∧ Le gI g ∧ (∀ b ∈ fp, g.get? b = none) ∧ I i m mu g := by
      rintro ⟨m2, mu2, g2, h2, tk2, rfl, a2, has2, hi2⟩
      have keep : ∀ b ∈ fp, ∀ o, hc.get? b = some o → e'.get? b = some o := fun b hb' o e => by rw [q, if_neg (fpL b hb')]; exact e
      refine ⟨xs.length + 1 - (i + 1), by omega, i + 1, m2, mu2, g2, h2, tk2, rfl, hlt, rfl, ac.back has q a2 has2, has2, ?_, leI.trans (Ga.gg.trans a2.gr.gg), fun b hb' => ?_, hi2⟩
      · exact It.frame _ _ _ stc (leI.trans (Ga.gg.trans (a2.gr.gg.trans a2.gr.gh))) fun b hb' o e => a2.gr.hh b o (fun z => z.elim (fpL b hb') (fpas b hb')) (keep b hb' o e)
      · obtain ⟨o, e⟩ := It.has _ _ stc b hb'
        exact a2.gr.fr b o (keep b hb' o e) (offa b hb')
    cases f with
    | next => exact fin z
    | cont => exact fin z
    | brk => exact z.elim
    | ret v => exact z.elim
  · have hin : i = xs.length := by omega
    subst hin
    refine It.done _ g _ _ st leI a.le off fun hz tkz keep => wpAny_execs_nil ?_
    exact done m mu g hz tkz hi0 has (a.offDone keep fun b hb => ⟨off b hb, fpL b hb, fpe b hb, fpmu mu has b hb⟩)
end

end
section
open PySem PySem.W PySem.Spec PySem.Calls PyProof.Rows

/-! ## results told against the heap ahead of the evaluation -/
abbrev Ph := Heap → Pd
def TrH (prog : Program) (w : World) (A : Around) (env : Env) (m : Str → Option Value) (mu : Mu) (g : Heap) (t : Sem Value) (R : Ph) : Prop :=
  ∀ (s : Shared) (g₁ : Heap) (Q : Value → Shared → Prop) (E : Value → Shared → Prop), Le g g₁ → Sit env m mu g₁ s.heap →
    (∀ v g' h' tk, Grow g₁ s.heap g' h' → R s.heap g' v → Q v { s with heap := h', toks := tk }) → wpAny (model prog w) A t Q E s
abbrev EvH (prog : Program) (w : World) (A : Around) (env : Env) (m : Str → Option Value) (mu : Mu) (g : Heap) (e : Expr) (R : Ph) : Prop := TrH prog w A env m mu g (eval e env) R
/-- a new list -/
def FL (ds : List PyData) : Ph := fun e g v => ∃ l vs n, v = .ref l ∧ g.get? l = some (lstO vs n) ∧ e.get? l = none ∧ RdAll g vs ds
def MonoH (R : Ph) : Prop := ∀ e g g' v, Le g g' → R e g v → R e g' v
theorem monoH_FL (ds : List PyData) : MonoH (FL ds) := fun _ _ _ _ x ⟨l, vs, n, e, q, f, r⟩ => ⟨l, vs, n, e, x _ _ q, f, r.mono x⟩

/-! ## data without lists do not see an address -/
mutual
def noL : PyData → Bool
  | .list _ => false
  | .dict _ => false
  | .tuple xs => noLs xs
  | .none | .bool _ | .int _ | .str _ => true
def noLs : List PyData → Bool
  | [] => true
  | x :: xs => noL x && noLs xs
end
theorem noLs_iff : ∀ {xs : List PyData}, noLs xs = true ↔ ∀ x ∈ xs, noL x = true
  | [] => by simp [noLs]
  | x :: xs => by rw [noLs, Bool.and_eq_true, noLs_iff (xs := xs)]; simp
mutual
theorem reads_hide {g g' : Heap} {l : Addr} {o : Obj} (q : ∀ b, g'.get? b = if b = l then none else g.get? b) (ho : g.get? l = some o) (hc : o.cls ≠ .type "tuple") : ∀ {v : Value} {d : PyData} {as : List Addr}, noL d = true → Reads g v d as → Reads g' v d as
  | _, _, _, _, .none => .none
  | _, _, _, _, .bool b => .bool b
  | _, _, _, _, .int i t => .int i t
  | _, _, _, _, .str x t => .str x t
  | _, _, _, h, .list .. => by simp [noL] at h
  | _, _, _, h, .dict .. => by simp [noL] at h
  | _, _, _, h, .tuple h1 h2 h3 h4 => .tuple (by rw [q, if_neg (fun z => by subst z; rw [ho] at h1; cases h1; exact hc h2)]; exact h1) h2 h3 (readsAll_hide q ho hc (by simpa [noL] using h) h4)
theorem readsAll_hide {g g' : Heap} {l : Addr} {o : Obj} (q : ∀ b, g'.get? b = if b = l then none else g.get? b) (ho : g.get? l = some o) (hc : o.cls ≠ .type "tuple") : ∀ {vs : List Value} {ds : List PyData} {as : List Addr}, noLs ds = true → ReadsAll g vs ds as → ReadsAll g' vs ds as
  | _, _, _, _, .nil => .nil
  | _, _, _, h, .cons h1 h2 => by
    rw [noLs, Bool.and_eq_true] at h
    exact .cons (reads_hide q ho hc h.1 h1) (readsAll_hide q ho hc h.2 h2)
end
theorem RdAll.hide {g g' : Heap} {l : Addr} {o : Obj} (q : ∀ b, g'.get? b = if b = l then Option.none else g.get? b) (ho : g.get? l = some o) (hc : o.cls ≠ .type "tuple") {vs : List Value} {ds : List PyData} (h : noLs ds = true) (r : RdAll g vs ds) : RdAll g' vs ds :=
  let ⟨_, r⟩ := r; ⟨_, readsAll_hide q ho hc h r⟩
theorem Rd.hide {g g' : Heap} {l : Addr} {o : Obj} (q : ∀ b, g'.get? b = if b = l then Option.none else g.get? b) (ho : g.get? l = some o) (hc : o.cls ≠ .type "tuple") {v : Value} {d : PyData} (h : noL d = true) (r : Rd g v d) : Rd g' v d :=
  let ⟨_, r⟩ := r; ⟨_, reads_hide q ho hc h r⟩

section
variable {X : Addr → Prop} {g₀ e g h : Heap} {env : Env} {m : Str → Option Value} {mu : Mu}
/-- an object of the ghost that the older ghosts do not have may turn again -/
theorem At.thaw {l : Addr} {o : Obj} (a : At X g₀ e env m mu g h) (ho : g.get? l = some o) (hg : g₀.get? l = none) (he : e.get? l = none) :
    ∃ g', (∀ b, g'.get? b = if b = l then none else g.get? b) ∧ At X g₀ e env m ((l, o) :: mu) g' h := by
  obtain ⟨g', q⟩ := hide_ex g l
  have le : Le g' g := fun b x z => by rw [q] at z; split at z; · cases z
                                       · exact z
  have nL : l ≠ env.locals := fun z => by have := a.sit.gL; rw [← z, ho] at this; cases this
  refine ⟨g', q, ⟨⟨le.trans a.le, a.sit.ns, by rw [q, if_neg (Ne.symm nL)]; exact a.sit.gL, fun p hp => ?_⟩, ⟨fun b x z => ?_, le.trans a.le, a.gr.hh, a.gr.dm, fun b x z n => ?_⟩, a.eL, fun p hp => ?_⟩⟩
  · rcases List.mem_cons.mp hp with rfl | hp
    · exact ⟨a.le _ _ ho, by rw [q, if_pos rfl]⟩
    · exact ⟨(a.sit.mu p hp).1, le.none (a.sit.mu p hp).2⟩
  · rw [q, if_neg fun y => by subst y; rw [hg] at z; cases z]; exact a.gr.gg b x z
  · exact le.none (a.gr.fr b x z n)
  · rcases List.mem_cons.mp hp with rfl | hp
    · exact ⟨nL, .inr he⟩
    · exact a.mu p hp
theorem le_hide {g g1 g' : Heap} {l : Addr} (x : Le g g1) (q : ∀ b, g'.get? b = if b = l then none else g1.get? b) (n : g.get? l = none) : Le g g' := fun b o z => by
  rw [q, if_neg fun y => by subst y; rw [n] at z; cases z]; exact x b o z
end

section
variable {prog : Program} {w : World} {A : Around} {env : Env} {m : Str → Option Value} {mu : Mu} {g g₀ e₀ : Heap} {mg mb : Str → Option Value} {X : Addr → Prop} {s : Shared} {h0 : Heap} {G0 : Array GenState} {D0 : Drawn} {T0 : Nat} {O0 : OsState} {E : Value → Shared → Prop} {Q : Flow → Shared → Prop} {rest : List Stmt}
theorem Tr.toH {t : Sem Value} {R : Pd} (h : Tr prog w A env m mu g t R) : TrH prog w A env m mu g t (fun _ => R) := h
theorem TrH.list {elts : List Expr} {pos : Pos} {ds : List PyData} (h : SpD prog w A env m mu g (backTo pos (starEach elts env)) ds) (hsz : ds.length ≤ sizeLine := by exact Nat.le_of_ble_eq_true rfl) : EvH prog w A env m mu g (.List elts pos) (FL ds) :=
  fun s _ _ _ hg X k => List_ (h _ _ _ _ hg X fun vs g' h' tk G r => by
    obtain ⟨g2, G2, e⟩ := Grow.push G.gh (lstO vs) rfl
    exact wpAny_newList (k _ g2 _ tk (G.trans G2) ⟨_, vs, 0, rfl, e, by
      cases z : s.heap.get? h'.objs.size with
      | none => rfl
      | some o => exact absurd (Heap.lt_size (G.hh _ _ z)) (Nat.lt_irrefl _), r.mono G2.gg⟩) (by rw [r.length]; exact hsz))

theorem St.assignH {x : Str} {pos' pos : Pos} {e : Expr} {R : Ph} (a : At X g₀ e₀ env m mu g h0) (h : EvH prog w A env m mu g e R)
    (k : ∀ v g' h' tk, At X g₀ e₀ env (upd m x v) mu g' h' → Le g g' → R h0 g' v → wpAny (model prog w) A (execs rest env) Q E (Shared.mk h' G0 D0 tk O0))
    (hl : env.kindOf x = some .local := by rfl) (hs : swapsWith e (some (.Name x pos')) pos.line env = pure false := by rfl) (hp : (env.scope.kind == .class || (env.scope.kind == .module && env.locals != env.globals)) = false := by rfl) :
    wpAny (model prog w) A (execs (.Assign [.Name x pos'] e pos :: rest) env) Q E (Shared.mk h0 G0 D0 T0 O0) :=
  wpAny_execs_cons (wpAny_Assign_Name (h (Shared.mk h0 G0 D0 T0 O0) g _ _ (Le.refl g) a.sit fun v g' h' tk G r => wpAny_storeName_local hl (a.grow G).sit.ns (fun h2 hn hs => k v g' h2 _ ((a.grow G).store hn hs) G.gg r) hp) hs)

/-- «xs = []» and the like: the list may turn -/
theorem St.newlist {x : Str} {pos' pos lp : Pos} {elts : List Expr} {ds : List PyData} (a : At X g₀ e₀ env m mu g h0) (h : SpD prog w A env m mu g (backTo lp (starEach elts env)) ds) (hno : noLs ds = true)
    (k : ∀ l vs n g' h' tk, At X g₀ e₀ env (upd m x (.ref l)) ((l, lstO vs n) :: mu) g' h' → Le g g' → RdAll g' vs ds → (∀ p ∈ mu, p.1 ≠ l) → wpAny (model prog w) A (execs rest env) Q E (Shared.mk h' G0 D0 tk O0))
    (hsz : ds.length ≤ sizeLine := by exact Nat.le_of_ble_eq_true rfl) (hl : env.kindOf x = some .local := by rfl) (hs : swapsWith (.List elts lp) (some (.Name x pos')) pos.line env = pure false := by rfl) (hp : (env.scope.kind == .class || (env.scope.kind == .module && env.locals != env.globals)) = false := by rfl) :
    wpAny (model prog w) A (execs (.Assign [.Name x pos'] (.List elts lp) pos :: rest) env) Q E (Shared.mk h0 G0 D0 T0 O0) := by
  refine St.assignH a (TrH.list h hsz) (fun v g' h' tk a' hg ⟨l, vs, n, e1, e2, e3, r⟩ => ?_) hl hs hp
  subst e1
  obtain ⟨g2, q, a2⟩ := a'.thaw e2 (a.gr.gg.trans a.le |>.none e3) (a.heap_none e3)
  refine k l vs n g2 h' tk a2 (le_hide hg q (a.le.none e3)) (r.hide q e2 (fun z => by injection z with z; exact absurd z (by decide)) hno) fun p hp z => ?_
  have := (a.sit.mu p hp).1
  rw [z, e3] at this; cases this

/-- «x, y = (e1, e2)» -/
theorem St.assign2 {x y : Str} {p1 p2 tp vp pos : Pos} {k1 k2 : Nat} {e1 e2 : Expr} {R1 : Ph} {R2 : Pd} (hh : A.handled = none) (a : At X g₀ e₀ env m mu g h0) (h1 : EvH prog w A env m mu g e1 R1) (m1 : MonoH R1) (h2 : Ev prog w A env m mu g e2 R2) (m2 : Mono R2)
    (k : ∀ v1 v2 g' h' tk, At X g₀ e₀ env (upd (upd m y v2) x v1) mu g' h' → Le g g' → R1 h0 g' v1 → R2 g' v2 → wpAny (model prog w) A (execs rest env) Q E (Shared.mk h' G0 D0 tk O0))
    (hlx : env.kindOf x = some .local := by rfl) (hly : env.kindOf y = some .local := by rfl) (he : backTo vp (starEach [e1, e2] env) = [(false, eval e1 env), (false, eval e2 env)] := by rfl)
    (hs : swapsWithSole [.Tuple [.Name x p1, .Name y p2] k1 tp] (.Tuple [e1, e2] k2 vp) pos.line env = pure false := by rfl) (hw : swappedStores [.Tuple [.Name x p1, .Name y p2] k1 tp] (.Tuple [e1, e2] k2 vp) env = pure (some [x, y]) := by rfl)
    (hp : (env.scope.kind == .class || (env.scope.kind == .module && env.locals != env.globals)) = false := by rfl) :
    wpAny (model prog w) A (execs (.Assign [.Tuple [.Name x p1, .Name y p2] k1 tp] (.Tuple [e1, e2] k2 vp) pos :: rest) env) Q E (Shared.mk h0 G0 D0 T0 O0) := by
  refine wpAny_execs_cons (Assign_Tuple_swapped (names := [x, y]) ?_ hs hw)
  refine Tuple_ ?_
  rw [he]
  refine Calls.spliced_cons (h1 (Shared.mk h0 G0 D0 T0 O0) g _ _ (Le.refl g) a.sit fun v1 g1 h1' tk1 G1 r1 => Calls.spliced_cons (h2 _ g1 _ _ G1.gg (a.sit.grow G1) fun v2 g2 h2' tk2 G2 r2 => Calls.spliced_nil ?_))
  have a2 := (a.grow G1).grow G2
  refine wpAny_newTuple ?_ (by show 2 ≤ sizeLine; exact Nat.le_of_ble_eq_true rfl)
  have a3 := a2.grow (Grow.push0 a2.le (tupO [v1, v2]))
  refine wpAny_unpackItems_tuple hh (items := #[v1, v2]) ⟨_, Heap.get?_push_size _ rfl, rfl, 0, rfl⟩ fun h4 ext => ?_
  have le4 : Le (h2'.push (tupO [v1, v2])) h4 := fun b o e => ext b o (Nat.ne_of_lt (Heap.lt_size e)) e
  have a4 := a3.grow (Grow.of_le a3.le le4)
  refine wpAny_bind (wpAny_holding (wpAny_bindName (wpAny_storeName_local hly a4.sit.ns (fun h5 hn5 hs5 => ?_) hp)))
  have a5 := a4.store hn5 hs5
  refine wpAny_bind (wpAny_holding (wpAny_bindName (wpAny_storeName_local hlx a5.sit.ns (fun h6 hn6 hs6 => wpAny_pure ?_) hp)))
  exact k v1 v2 g2 h6 _ (a5.store hn6 hs6) (G1.gg.trans G2.gg) (m1 _ _ _ _ G2.gg r1) r2

/-- «xs.extend(e)» -/
theorem St.extend {x : Str} {np apos pos ep : Pos} {elt : Expr} {l : Addr} {vs : List Value} {n : Nat} {ds : List PyData} (P : Heap → List Value → Prop) (a : At X g₀ e₀ env m ((l, lstO vs n) :: mu) g h0) (hv : m x = some (.ref l)) (hd : ∀ p ∈ mu, p.1 ≠ l)
    (he : ∀ (Q' : Value → Shared → Prop), (∀ b us n' g' h' tk, At X g₀ e₀ env m ((l, lstO us n') :: mu) g' h' → Le g g' → us.length + ds.length ≤ sizeLine → (Rd g' (.ref b) (.tuple ds) ∨ Rd g' (.ref b) (.list ds)) → P g' us → Q' (.ref b) (Shared.mk h' G0 D0 tk O0)) → wpAny (model prog w) A (eval elt env) Q' E (Shared.mk h0 G0 D0 T0 O0))
    (k : ∀ us ws n2 g' h2 tk2, At X g₀ e₀ env m ((l, lstO (us ++ ws) n2) :: mu) g' h2 → Le g g' → RdAll g' ws ds → P g' us → wpAny (model prog w) A (execs rest env) Q E (Shared.mk h2 G0 D0 tk2 O0))
    (hk : env.scope.kind = .function := by rfl) (hl : env.kindOf x = some .local := by rfl) (hdb : (x == ("__debug__" : Str)) = false := by decide)
    (hbase : attributeBase (.Name x np) (PySem.Str.ofString "extend") env (eval (.Name x np) env) = eval (.Name x np) env := by rfl)
    (hfew : ((backTo pos (starEach [elt] env)).all (fun x => !x.1) && (backToKw pos (keywordEach [] env)).all (fun x => x.1.isSome) && decide (([elt] : List Expr).length + ([] : List Keyword).length + (if ([] : List Keyword).isEmpty then 0 else 1) < 30)) = true := by rfl)
    (hline : (apos.endLine == pos.line) = true := by rfl) (hse : starEach [elt] env = (false, eval elt env) :: starEach [] env := by rfl)
    (hi : interactive env = false := by rfl) (hs : swapsWith (.Call (.Attribute (.Name x np) (PySem.Str.ofString "extend") apos) [elt] [] pos) none ep.line env = pure false := by rfl) :
    wpAny (model prog w) A (execs (.Expr (.Call (.Attribute (.Name x np) (PySem.Str.ofString "extend") apos) [elt] [] pos) ep :: rest) env) Q E (Shared.mk h0 G0 D0 T0 O0) := by
  refine St.expr (meth_call a hv (.head _) PySem.F.slot_list_extend PySem.F.type_list_extend ?_ hk hl hdb hbase hfew hline) hi hs
  refine callWith_method1 (args_cons (he _ fun b us n' g' h' tk a' hg hsz r hp => args_nil ?_) hse) hse
  have e := a'.get (.head _)
  have nb : ∀ o, g'.get? b = some o → l ≠ b := fun o z y => by
    have := (a'.sit.mu _ (.head _)).2
    subst y; rw [this] at z; cases z
  rcases r with r | r
  · obtain ⟨b', ws, eb, ⟨o, h1, h2, n2, h3⟩, ra⟩ := r.tuple_inv
    cases eb
    exact l_extend e (a'.le _ _ h1) h2 h3 (.inr rfl) (nb o h1) (by rw [ra.length]; exact hsz) fun h2 n3 e2 s2 => k us ws n3 g' h2 tk (a'.turn hd s2 e2) hg ra hp
  · obtain ⟨b', ws, eb, ⟨o, h1, h2, n2, h3⟩, ra⟩ := r.list_inv
    cases eb
    exact l_extend e (a'.le _ _ h1) h2 h3 (.inl rfl) (nb o h1) (by rw [ra.length]; exact hsz) fun h2 n3 e2 s2 => k us ws n3 g' h2 tk (a'.turn hd s2 e2) hg ra hp
/-- «xs.pop()» -/
theorem ev_pop {x : Str} {np apos pos : Pos} {l : Addr} {vs : List Value} {y : Value} {n : Nat} {Q : Value → Shared → Prop} (a : At X g₀ e₀ env m ((l, lstO (vs ++ [y]) n) :: mu) g s.heap) (hv : m x = some (.ref l)) (hd : ∀ p ∈ mu, p.1 ≠ l) (hsz : vs.length + 1 ≤ sizeLine)
    (k : ∀ n' h', At X g₀ e₀ env m ((l, lstO vs n') :: mu) g h' → Q y { s with heap := h' })
    (hk : env.scope.kind = .function := by rfl) (hl : env.kindOf x = some .local := by rfl) (hdb : (x == ("__debug__" : Str)) = false := by decide)
    (hbase : attributeBase (.Name x np) (PySem.Str.ofString "pop") env (eval (.Name x np) env) = eval (.Name x np) env := by rfl)
    (hfew : ((backTo pos (starEach [] env)).all (fun x => !x.1) && (backToKw pos (keywordEach [] env)).all (fun x => x.1.isSome) && decide (([] : List Expr).length + ([] : List Keyword).length + (if ([] : List Keyword).isEmpty then 0 else 1) < 30)) = true := by rfl)
    (hline : (apos.endLine == pos.line) = true := by rfl) : wpAny (model prog w) A (eval (.Call (.Attribute (.Name x np) (PySem.Str.ofString "pop") apos) [] [] pos) env) Q E s :=
  meth_call a hv (.head _) PySem.F.slot_list_pop PySem.F.type_list_pop (callWith_method0 (l_pop (a.get (.head _)) hsz fun h' n' e2 s2 => k n' h' (a.turn hd s2 e2))) hk hl hdb hbase hfew hline
end

end
section
open PySem PySem.W PySem.Spec PySem.Calls PyProof.Rows

mutual
def nodes : Fm → Nat
  | .mk _ _ _ _ ks => 1 + nodesAll ks
def nodesAll : List Fm → Nat
  | [] => 0
  | f :: r => nodes f + nodesAll r
end
theorem nodes_pos : ∀ f : Fm, 1 ≤ nodes f
  | .mk .. => by rw [nodes]; omega
theorem nodesAll_append : ∀ a b : List Fm, nodesAll (a ++ b) = nodesAll a + nodesAll b
  | [], b => by simp [nodesAll]
  | f :: r, b => by rw [List.cons_append, nodesAll, nodesAll, nodesAll_append r b]; omega
theorem len_le_nodes : ∀ a : List Fm, a.length ≤ nodesAll a
  | [] => Nat.zero_le _
  | f :: r => by rw [List.length_cons, nodesAll]; have := nodes_pos f; have := len_le_nodes r; omega
mutual
theorem count_nodes : ∀ f : Fm, countF f = (nodes f : Int)
  | .mk _ _ _ _ ks => by rw [countF, nodes, countAll_nodes ks]; omega
theorem countAll_nodes : ∀ ks : List Fm, countAll ks = (nodesAll ks : Int)
  | [] => rfl
  | f :: r => by rw [countAll, nodesAll, count_nodes f, countAll_nodes r]; omega
end
def bnd : Nat → Nat
  | 0 => 0
  | n + 1 => 1 + 100 * bnd n
theorem nodesAll_le {b : Nat} : ∀ {ks : List Fm}, (∀ f ∈ ks, nodes f ≤ b) → nodesAll ks ≤ ks.length * b
  | [], _ => Nat.zero_le _
  | f :: r, h => by
    rw [nodesAll, List.length_cons, Nat.succ_mul]
    have h1 := h f (.head _)
    have h2 := nodesAll_le fun x hx => h x (.tail _ hx)
    omega
theorem nodes_le : ∀ (n : Nat) (f : Fm), okF n f = true → nodes f ≤ bnd n
  | 0, f, h => by cases f; simp [okF] at h
  | n + 1, .mk k l v as ks, h => by
    have o := okF_succ h
    rw [nodes, bnd]
    have h1 := nodesAll_le fun f hf => nodes_le n f (o.kids f hf)
    have h2 := Nat.mul_le_mul_right (bnd n) o.klen
    omega
theorem okF_mono : ∀ (n : Nat) (f : Fm), okF n f = true → okF (n + 1) f = true
  | 0, f, h => by cases f; simp [okF] at h
  | n + 1, .mk k l v as ks, h => by
    have o := okF_succ h
    rw [okF]
    simp only [Bool.and_eq_true, decide_eq_true_eq, List.all_eq_true]
    exact ⟨⟨⟨⟨⟨⟨⟨o.kind, o.label⟩, o.value⟩, o.alen⟩, o.attrs⟩, o.nodup⟩, o.klen⟩, fun f hf => okF_mono n f (o.kids f hf)⟩
theorem bnd4 : ∀ n, n ≤ 4 → bnd n ≤ 1010101 := by
  intro n hn
  match n, hn with
  | 0, _ => decide
  | 1, _ => decide
  | 2, _ => decide
  | 3, _ => decide
  | 4, _ => decide
mutual
theorem noL_form : ∀ f : Fm, noL (formD f) = true
  | .mk k l v as ks => by
    have h1 : noL (labD l) = true := by cases l <;> rfl
    have h2 : noLs (as.map atrT) = true := noLs_iff.mpr fun x hx => by obtain ⟨a, _, rfl⟩ := List.mem_map.mp hx; rfl
    rw [formD]
    simp only [noL, noLs, h1, h2, noL_forms ks, Bool.and_self]
theorem noL_forms : ∀ ks : List Fm, noLs (formAll ks) = true
  | [] => rfl
  | f :: r => by rw [formAll, noLs, noL_form f, noL_forms r]; rfl
end
theorem noLs_forms (ks : List Fm) : noLs (ks.map formD) = true := by rw [← formAll_eq]; exact noL_forms ks
theorem forms_shaped {n : Nat} (hn : n ≤ 4) {ks : List Fm} (h : ∀ f ∈ ks, okF n f = true) : SeqAt.shaped (.list (ks.map formD)) = true := by
  refine shaped_of (n := 2 * n + 5) ?_ ?_ (by omega)
  · rw [PyData.canLay0]; exact canLay_all fun f hf => (form_lay n f (h f hf)).1
  · rw [PyData.depth]; have := depth_all fun f hf => (form_lay n f (h f hf)).2; omega
theorem upd_self {m : Str → Option Value} {x : Str} {v : Value} : upd m x v x = some v := if_pos rfl
theorem upd_ne {m : Str → Option Value} {x y : Str} {v : Value} {r : Option Value} (h : (y == x) = false) (e : m y = r) : upd m x v y = r := (if_neg (by simpa using h)).trans e
theorem last_split {α : Type} : ∀ {l : List α}, l ≠ [] → ∃ a x, l = a ++ [x]
  | l, h => ⟨l.dropLast, l.getLast h, (List.dropLast_concat_getLast h).symm⟩

section
variable {prog : Program} {w : World} {mg mb : Str → Option Value}
theorem size_of_spec {N : Nat} (hN : N ≤ 4) (f : Fm) (hf : okF N f = true) : Pure prog w mg mb 1 28 [formD f] (Da (.int (countF f))) := by
  intro A s g vs Q E hR W hg r k
  obtain ⟨v, rfl, r1⟩ := r.one
  have hb := Nat.le_trans (nodes_le N f hf) (bnd4 N hN)
  have hz := sizeLine_eq
  refine call_at (binds := [(S "form", v)]) (mu := []) (X := NoX) hR W hg (fun _ h => nomatch h) rfl rfl rfl rfl rfl (by decide) (locs rfl) rfl rfl rfl fun L h₁ tk E' a hR' => ?_
  refine St.assign2 (R1 := FL [formD f]) (R2 := Da (.int 0)) hR'.hd a (TrH.list (SpE.cons (Tr.name rfl (mono_da _) r1) SpE.nil)) (monoH_FL _) Tr.const_int (mono_da _) fun v1 v2 g1 h1 tk1 a1 hg1 r1' r2' => ?_
  obtain ⟨l, us, n0, rfl, e2, e3, ru⟩ := r1'
  obtain ⟨t0, rfl⟩ := r2'.int_inv
  obtain ⟨g2, q2, a2⟩ := a1.thaw e2 (a.le.none e3) (a.heap_none e3)
  have hg2 := le_hide hg1 q2 (a.le.none e3)
  have ru := ru.hide q2 e2 (fun z => by injection z with z; exact absurd z (by decide)) (by rw [noLs, noL_form, noLs]; rfl)
  refine St.while (fun n m mu g' => ∃ l us n' fs c t, m (S "left") = some (.ref l) ∧ m (S "many") = some (.int c t) ∧ mu = [(l, lstO us n')] ∧ RdAll g' us (fs.map formD) ∧ (∀ f ∈ fs, okF N f = true) ∧ 0 ≤ c ∧ c + (nodesAll fs : Int) = (nodes f : Int) ∧ n = nodesAll fs ∧ Le g g')
    (nodesAll [f]) a2 ⟨l, us, n0, [f], 0, t0, upd_self, upd_ne rfl upd_self, rfl, ru, fun x hx => by rw [List.mem_singleton.mp hx]; exact hf, by omega, by simp [nodesAll], rfl, hg2⟩ ?_
  rintro n m mu gW hW aW ⟨l, us, n', fs, c, t, m1, m2, rfl, rf, hok, hc0, hc, rfl, leW⟩
  refine ⟨!(fs.map formD).isEmpty, Ts.mut_ne_nil hR' (Tr.ref m1) (.head _) rf (forms_shaped hN hok), fun hb1 g3 h3 tk3 E3 a3 hg3 => ?_, fun hb1 g3 h3 tk3 a3 hg3 => ?_⟩
  · have hne : fs ≠ [] := by intro z; subst z; cases hb1
    obtain ⟨fs', ⟨kd, lb, vl, as, ks⟩, rfl⟩ := last_split hne
    rw [List.map_append, List.map_cons, List.map_nil] at rf
    obtain ⟨us', ws, rfl, rf1, rf2⟩ := rf.split
    obtain ⟨y, rfl, ry⟩ := rf2.one
    rw [nodesAll_append, nodesAll, nodesAll, nodes] at hc
    have hlen := rf1.length
    rw [List.length_map] at hlen
    have hle := len_le_nodes fs'
    refine St.assign (R := Da (.int (c + 1))) a3 (Tr.binop (Tr.name m2 (mono_da _) (.int _ _)) (mono_da _) Tr.const_int Bo.add_int) fun v4 g4 h4 tk4 a4 hg4 r4 => ?_
    obtain ⟨t4, rfl⟩ := r4.int_inv
    have m1' : upd m (S "many") (.int (c + 1) t4) (S "left") = some (.ref l) := upd_ne rfl m1
    refine St.extend (ds := ks.map formD) (fun g us => us = us' ∧ RdAll g us (fs'.map formD)) a4 m1' (fun _ h => nomatch h) (fun Q' kk => ?_) fun us ws n2 g5 h5 tk5 a5 hg5 rw_ hp => St.nil ?_
    · refine Subscript_ (ev_pop a4 m1' (fun _ h => nomatch h) (by omega) fun n5 h5 a5 => ?_)
      refine (Tr.glob (R := Da (.int 4)) (W.mono (leW.trans (hg3.trans hg4))) (gi_CHILDREN _) (mono_da _) (.int _ _)) _ g4 _ _ (Le.refl _) a5.sit fun i g6 h6 tk6 G6 ri => ?_
      obtain ⟨ti, rfl⟩ := ri.int_inv
      have ry6 : Rd g6 y (formD (.mk kd lb vl as ks)) := ry.mono (hg3.trans (hg4.trans G6.gg))
      rw [formD_mk] at ry6
      obtain ⟨ya, yvs, rfl, yt, yr⟩ := ry6.tuple_inv
      obtain ⟨x, hx, rx⟩ := yr.get (k := 4) rfl
      have a6 := a5.grow G6
      refine item_tupleT (IsTup.le a6.le yt) (j := 4) (by decide) (by decide) (by rw [yr.length]; rfl) hx ?_
      obtain ⟨xa, xvs, rfl, _, _⟩ := rx.tuple_inv
      exact kk xa us' n5 g6 h6 tk6 a6 (hg4.trans G6.gg |> fun z => G6.gg) (by rw [List.length_map]; have := len_le_nodes ks; omega) (.inl rx) ⟨rfl, rf1.mono (hg3.trans (hg4.trans G6.gg))⟩
    · obtain ⟨rfl, rus⟩ := hp
      refine ⟨nodesAll (fs' ++ ks), _, _, g5, h5, tk5, rfl, ?_, a5, l, us ++ ws, n2, fs' ++ ks, c + 1, t4, m1', upd_self, rfl, ?_, fun x hx => ?_, by omega, ?_, rfl, leW.trans (hg3.trans (hg4.trans hg5))⟩
      · rw [nodesAll_append, nodesAll_append, nodesAll, nodesAll, nodes]; omega
      · rw [List.map_append]; exact rus.append rw_
      · rcases List.mem_append.mp hx with hx | hx
        · exact hok x (List.mem_append.mpr (.inl hx))
        · have h1 := hok _ (List.mem_append.mpr (.inr (.head _)))
          cases N with
          | zero => simp [okF] at h1
          | succ M => exact okF_mono _ _ ((okF_succ h1).kids x hx)
      · rw [nodesAll_append]; omega
  · have hne : fs = [] := by cases fs with | nil => rfl | cons => cases hb1
    subst hne
    rw [count_nodes] at k
    refine St.ret a3 (R := Da (.int (nodes f : Int))) ?_ fun v g' h' tk a r => k _ _ _ _ (a.done0) r
    rw [nodesAll] at hc
    have : c = (nodes f : Int) := by omega
    subst this
    exact Tr.name m2 (mono_da _) (.int _ _)
end

end
section
open PySem PySem.W PySem.Spec PySem.Calls PyProof.Rows

/-! ## likeness of forms -/
def headD (k : Str) (l : Option Str) (v : Str) (as : List Atr) : List PyData := [.str k, labD l, .str v, .tuple (as.map atrT)]
mutual
def sameF : Fm → Fm → Bool
  | .mk k l v as ks, .mk k' l' v' as' ks' => PyData.eqvAll (headD k l v as) (headD k' l' v' as') && sameAll ks ks'
def sameAll : List Fm → List Fm → Bool
  | [], [] => true
  | f :: r, g :: s => sameF f g && sameAll r s
  | [], _ :: _ => false
  | _ :: _, [] => false
end
theorem eqvAll_atr : ∀ as bs : List Atr, PyData.eqvAll (as.map atrL) (bs.map atrL) = PyData.eqvAll (as.map atrT) (bs.map atrT)
  | [], [] => rfl
  | [], _ :: _ => rfl
  | _ :: _, [] => rfl
  | a :: as, b :: bs => by
    rw [List.map_cons, List.map_cons, List.map_cons, List.map_cons, PyData.eqvAll, PyData.eqvAll, eqvAll_atr as bs]
    rfl
mutual
theorem eqv_rows : ∀ f g : Fm, PyData.eqv (rowsD f) (rowsD g) = sameF f g
  | .mk k l v as ks, .mk k' l' v' as' ks' => by
    rw [rowsD, rowsD, sameF, headD, headD]
    simp only [PyData.eqv, PyData.eqvAll, eqvAll_atr, eqvAll_rows ks ks', Bool.and_true]
    simp only [Bool.and_assoc]
theorem eqvAll_rows : ∀ ks ks' : List Fm, PyData.eqvAll (rowsAll ks) (rowsAll ks') = sameAll ks ks'
  | [], [] => rfl
  | [], _ :: _ => rfl
  | _ :: _, [] => rfl
  | f :: r, g :: s => by rw [rowsAll, rowsAll, PyData.eqvAll, sameAll, eqv_rows f g, eqvAll_rows r s]
end
mutual
theorem eqv_forms : ∀ f g : Fm, PyData.eqv (formD f) (formD g) = sameF f g
  | .mk k l v as ks, .mk k' l' v' as' ks' => by
    rw [formD, formD, sameF, headD, headD]
    simp only [PyData.eqv, PyData.eqvAll, eqvAll_forms ks ks', Bool.and_true]
    simp only [Bool.and_assoc]
theorem eqvAll_forms : ∀ ks ks' : List Fm, PyData.eqvAll (formAll ks) (formAll ks') = sameAll ks ks'
  | [], [] => rfl
  | [], _ :: _ => rfl
  | _ :: _, [] => rfl
  | f :: r, g :: s => by rw [formAll, formAll, PyData.eqvAll, sameAll, eqv_forms f g, eqvAll_forms r s]
end
theorem sameAll_zip : ∀ {ks ks' : List Fm}, ks.length = ks'.length → sameAll ks ks' = (ks.zip ks').all fun p => sameF p.1 p.2
  | [], [], _ => rfl
  | f :: r, g :: s, h => by rw [sameAll, List.zip_cons_cons, List.all_cons, sameAll_zip (Nat.succ.inj h)]
theorem sameAll_len : ∀ {ks ks' : List Fm}, ks.length ≠ ks'.length → sameAll ks ks' = false
  | [], [], h => absurd rfl h
  | [], _ :: _, _ => rfl
  | _ :: _, [], _ => rfl
  | f :: r, g :: s, h => by rw [sameAll, sameAll_len fun z => h (congrArg (· + 1) z), Bool.and_false]
theorem eqv_str (x : Str) : PyData.eqv (.str x) (.str x) = true := by rw [PyData.eqv]; exact beq_self_eq_true x
theorem eqv_lab (l : Option Str) : PyData.eqv (labD l) (labD l) = true := by
  cases l with
  | none => exact eqv_str _
  | some n => simp only [labD, PyData.eqv, PyData.eqvAll, beq_self_eq_true, Bool.and_self]
theorem eqv_atr : ∀ as : List Atr, PyData.eqvAll (as.map atrT) (as.map atrT) = true
  | [] => rfl
  | a :: as => by
    rw [List.map_cons, PyData.eqvAll, eqv_atr as]
    simp only [atrT, keyD, PyData.eqv, PyData.eqvAll, beq_self_eq_true, Bool.and_self]
mutual
theorem sameF_refl : ∀ f : Fm, sameF f f = true
  | .mk k l v as ks => by
    rw [sameF, sameAll_refl ks, headD]
    simp only [PyData.eqvAll, eqv_str, eqv_lab, PyData.eqv, eqv_atr, beq_self_eq_true, Bool.and_self]
theorem sameAll_refl : ∀ ks : List Fm, sameAll ks ks = true
  | [] => rfl
  | f :: r => by rw [sameAll, sameF_refl f, sameAll_refl r]; rfl
end
theorem head_shaped {n : Nat} {k l v as ks} (o : OkF n k l v as ks) : SeqAt.shaped (.tuple (headD k l v as)) = true := by
  have hl := lab_lay o.label
  have ha1 := canLay_all (f := atrT) fun a ha => (atrT_lay (o.attrs a ha)).1
  have ha2 := depth_all (f := atrT) fun a ha => (atrT_lay (o.attrs a ha)).2
  refine shaped_of (n := 6) ?_ ?_ (by decide)
  · simp only [headD, PyData.canLay0, PyData.canLayAll0, tok_ok o.kind, tok_ok o.value, hl.1, ha1, Bool.and_self]
  · simp only [headD, PyData.depth, PyData.depthAll]
    have := hl.2
    omega
theorem int_shaped (i : Int) : SeqAt.shaped (.int i) = true := shaped_of (n := 1) rfl (by simp [PyData.depth]) (by decide)
theorem str_shaped {x : Str} (h : tok x = true) : SeqAt.shaped (.str x) = true := shaped_of (n := 1) (by rw [PyData.canLay0]; exact tok_ok h) (by simp [PyData.depth]) (by decide)

end
section
open PySem PySem.W PySem.Spec PySem.Calls PyProof.Rows

theorem wpAny_alive {M : Model} {A : Around} {E : Value → Shared → Prop} {s : Shared} {a : Addr} {Q : Option Obj → Shared → Prop} (h : Q (s.heap.get? a) s) : wpAny M A (loadIfAlive a) Q E s := fun _ _ _ => h

theorem an (a b : Nat) (h : a ≠ b := by omega) : @Ne Addr a b := h

section
variable {prog : Program} {w : World} {A : Around} {E : Value → Shared → Prop} {s : Shared}
/-- a fresh StopIteration is raised -/
theorem stop_raised {α : Type} {Q : α → Shared → Prop} (hh : A.handled = none)
    (hE : ∀ h' e, Le s.heap h' → (∃ o, h'.get? e = some o ∧ o.cls = .type "StopIteration") → E (.ref e) { s with heap := h' }) :
    wpAny (model prog w) A (newExc (.type "StopIteration") [] >>= fun e => (raiseNew e : Sem α)) Q E s := by
  have first : firstArgMember (.type "StopIteration") [] = pure Value.none := rfl
  unfold newExc newTuple
  wp_walk using wpAny_newObj_type, wpAny_of_eq first, wpAny_raiseNew_none hh
  · exact hE _ _ ((Le.push _ _).trans (Le.push _ _)) ⟨_, Heap.get?_push_size _ rfl, rfl⟩
  · size_fits
  · size_fits
/-- the turn of a tuple's iterator, both ways -/
theorem nextOf_tup {it t : Addr} {i : Nat} {items : Array Value} {Q : Value → Shared → Prop} (hh : items[i]? = none → A.handled = none) (hit : s.heap.IsTupleIter it t i) (ht : IsTup s.heap t items)
    (hQ : ∀ x, items[i]? = some x → ∀ h', h'.IsTupleIter it t (i + 1) → Heap.SameBut it s.heap h' → Q x { s with heap := h' })
    (hE : items[i]? = none → ∀ h' e, Heap.ExtBut it s.heap h' → (∃ o, h'.get? e = some o ∧ o.cls = .type "StopIteration") → E (.ref e) { s with heap := h' }) :
    wpAny (model prog w) A (Builtin.SmallTypes.nextOf (.ref it)) Q E s := by
  have T := hit.typeIs
  obtain ⟨o, ho, hc, hd⟩ := hit
  obtain ⟨ol, hol, _, nl, hdl⟩ := ht
  refine wpAny_bind (wpAny_callSpecial?_slot (name := Str.ofString "__next__") T PySem.F.slot_tuple_iterator_next (wpAny_call_entry PySem.F.slot_tuple_iterator_next T PySem.F.entry_tuple_iterator_next ?_ (PySem.F.args_tuple_iterator_next_1 _)))
  wp_walk using wpAny_field ho hd rfl
  rw [hdl]
  wp_walk
  rw [Int.toNat_natCast]
  cases hx : items[i]? with
  | some x =>
    refine wpAny_bind (wpAny_setField ho hd (Nat.lt_succ_self 1) (wpAny_pure ⟨_, rfl, wpAny_pure (hQ x hx _ ⟨_, Heap.get?_update_self _ ho ?_, (Obj.cls_mapFields ..).trans hc, ?_⟩ (.update ..))⟩))
    · exact Obj.isFreed_of_fields (Obj.data_mapFields hd _)
    · rw [Obj.data_mapFields hd]; rfl
  | none =>
    refine wpAny_bind (wpAny_rule (wpAny_bind (wpAny_setField ho hd (Nat.succ_pos 1) (stop_raised (hh hx) fun h' e le k => hE hx h' e (fun b o' nb g => le _ _ ?_) k))))
    exact (Heap.SameBut.update ..).2 b nb |>.trans g
theorem nextOf_tuple {it t : Addr} {i : Nat} {items : Array Value} {x : Value} {Q : Value → Shared → Prop} (hit : s.heap.IsTupleIter it t i) (ht : IsTup s.heap t items) (hx : items[i]? = some x)
    (hQ : ∀ h', h'.IsTupleIter it t (i + 1) → Heap.SameBut it s.heap h' → Q x { s with heap := h' }) : wpAny (model prog w) A (Builtin.SmallTypes.nextOf (.ref it)) Q E s :=
  nextOf_tup (fun e => by rw [hx] at e; cases e) hit ht (fun y e => by rw [hx] at e; cases e; exact hQ) fun e => by rw [hx] at e; cases e
theorem nextOf_tuple_end {it t : Addr} {i : Nat} {items : Array Value} {Q : Value → Shared → Prop} (hh : A.handled = none) (hit : s.heap.IsTupleIter it t i) (ht : IsTup s.heap t items) (hx : items[i]? = none)
    (hE : ∀ h' e, Heap.ExtBut it s.heap h' → (∃ o, h'.get? e = some o ∧ o.cls = .type "StopIteration") → E (.ref e) { s with heap := h' }) : wpAny (model prog w) A (Builtin.SmallTypes.nextOf (.ref it)) Q E s :=
  nextOf_tup (fun _ => hh) hit ht (fun y e => by rw [hx] at e; cases e) fun _ => hE

abbrev zipO (f0 : Value) (f1 : Bool) (n : Nat) : Obj := { cls := .type "zip", dict := none, data := .fields #[f0, .bool f1, .bool false, .ref (n + 2), .ref (n + 3)], slots := #[] }
/-- a zip over two tuples, laid from address n on -/
structure Zip (n l1 l2 : Addr) (f0 : Value) (f1 : Bool) (i : Nat) (h : Heap) : Prop where
  z : h.get? (n + 4) = some (zipO f0 f1 n)
  ti : IsPair h (n + 2) (.ref n) (.ref (n + 1))
  to : ∃ a b, IsPair h (n + 3) a b
  i1 : h.IsTupleIter n l1 i
  i2 : h.IsTupleIter (n + 1) l2 i
abbrev Off (n : Nat) (b : Addr) : Prop := b ≠ n ∧ b ≠ n + 1 ∧ b ≠ n + 3 ∧ b ≠ n + 4

theorem isTup_off {n : Nat} {l : Addr} {h h' : Heap} {vs : Array Value} (t : IsTup h l vs) (o : Off n l) (k : ∀ b o, Off n b → h.get? b = some o → h'.get? b = some o) : IsTup h' l vs := let ⟨x, e, r⟩ := t; ⟨x, k _ _ o e, r⟩

/-- the owned pair is free: a pair is handed out -/
theorem zip_nextA {n l1 l2 : Addr} {i : Nat} {f1 : Bool} {xs ys : Array Value} {x y : Value} {Q : Value → Shared → Prop} (Z : Zip n l1 l2 .none f1 i s.heap) (o1 : Off n l1) (o2 : Off n l2)
    (hl1 : IsTup s.heap l1 xs) (hl2 : IsTup s.heap l2 ys) (hx : xs[i]? = some x) (hy : ys[i]? = some y)
    (hQ : ∀ h', Zip n l1 l2 (rawInt s.heap.objs.size) false (i + 1) h' → IsPair h' s.heap.objs.size x y → (∀ b o, Off n b → s.heap.get? b = some o → h'.get? b = some o) → Q (.ref s.heap.objs.size) { s with heap := h' }) :
    wpAny (model prog w) A (Builtin.«zip.__next__» ⟨[.ref (n + 4)], []⟩) (fun fin s' => ∃ v, fin = .done (.ret v) ∧ Q v s') E s := by
  obtain ⟨hz, hti, ⟨a, b, hto⟩, h1, h2⟩ := Z
  show wpAny _ _ (field (.ref (n + 4)) 2 >>= _) _ _ _
  refine wpAny_bind (wpAny_field hz rfl (x := .bool false) rfl ?_)
  show wpAny _ _ (field (.ref (n + 4)) 3 >>= _) _ _ _
  refine wpAny_bind (wpAny_field hz rfl (x := .ref (n + 2)) rfl ?_)
  refine wpAny_bind (wpAny_seqItems hti rfl ?_)
  show wpAny _ _ (Builtin.SmallTypes.ownedTupleIsFree (.ref (n + 4)) >>= _) _ _ _
  refine wpAny_bind ?_
  unfold Builtin.SmallTypes.ownedTupleIsFree
  refine wpAny_bind (wpAny_field hz rfl (x := .none) rfl (wpAny_pure ?_))
  simp only [if_true]
  refine wpAny_bind (wpAny_rule ?_)
  refine wpAny_bind (wpAny_field hz rfl (x := .ref (n + 3)) rfl ?_)
  refine wpAny_bind (wpAny_setField_rec hz (by simp) fun ha hza hsa => ?_)
  replace hza : ha.get? (n + 4) = some (zipO .ellipsis f1 n) := hza
  refine wpAny_bind ?_
  simp only [List.zipIdx_cons, List.zipIdx_nil, List.forIn_cons, List.forIn_nil]
  refine wpAny_bind (wpAny_bind (wpAny_onRaise ?_))
  show wpAny _ _ (Builtin.SmallTypes.nextOf (.ref n) >>= _) _ _ _
  refine wpAny_bind (nextOf_tuple (h1.extBut hsa.extBut (an _ _)) (show IsTup ha l1 xs from isTuple_of hl1 |>.extBut hsa.extBut o1.2.2.2) hx fun hb h1b hsb => wpAny_pure ?_)
  have htob : IsPair hb (n + 3) a b := hsb.extBut _ _ (an _ _) (hsa.extBut _ _ (an _ _) hto)
  refine wpAny_bind (wpAny_seqItems htob rfl ?_)
  refine wpAny_bind (wpAny_updateSeq_pair htob fun hc htoc hsc => ?_)
  replace htoc : IsPair hc (n + 3) x b := htoc
  refine wpAny_bind (wpAny_letGo (wpAny_pure ?_))
  have kc : ∀ c o, Off n c → s.heap.get? c = some o → hc.get? c = some o := fun c o k e => hsc.extBut _ _ k.2.2.1 (hsb.extBut _ _ k.1 (hsa.extBut _ _ k.2.2.2 e))
  refine wpAny_bind (wpAny_bind (wpAny_onRaise ?_))
  show wpAny _ _ (Builtin.SmallTypes.nextOf (.ref (n + 1)) >>= _) _ _ _
  refine wpAny_bind (nextOf_tuple (((h2.extBut hsa.extBut (an _ _)).extBut hsb.extBut (an _ _)).extBut hsc.extBut (an _ _)) (isTup_off hl2 o2 kc) hy fun hd h2d hsd => wpAny_pure ?_)
  have htod : IsPair hd (n + 3) x b := hsd.extBut _ _ (an _ _) htoc
  refine wpAny_bind (wpAny_seqItems htod rfl ?_)
  refine wpAny_bind (wpAny_updateSeq_pair htod fun he htoe hse => ?_)
  replace htoe : IsPair he (n + 3) x y := htoe
  refine wpAny_bind (wpAny_letGo (wpAny_pure (wpAny_pure ?_)))
  refine wpAny_bind (wpAny_seqItems htoe rfl ?_)
  refine wpAny_bind (wpAny_newTuple ?_)
  have hsz : he.objs.size = s.heap.objs.size := by rw [hse.1, hsd.1, hsc.1, hsb.1, hsa.1]
  have hze : he.get? (n + 4) = some (zipO .ellipsis f1 n) := hse.extBut _ _ (an _ _) (hsd.extBut _ _ (an _ _) (hsc.extBut _ _ (an _ _) (hsb.extBut _ _ (an _ _) hza)))
  have ke : ∀ c o, Off n c → s.heap.get? c = some o → he.get? c = some o := fun c o k e => hse.extBut _ _ k.2.2.1 (hsd.extBut _ _ k.2.1 (kc c o k e))
  have h1e : he.IsTupleIter n l1 (i + 1) := ((h1b.extBut hsc.extBut (an _ _)).extBut hsd.extBut (an _ _)).extBut hse.extBut (an _ _)
  have h2e : he.IsTupleIter (n + 1) l2 (i + 1) := h2d.extBut hse.extBut (an _ _)
  have hlt : n + 4 < he.objs.size := Heap.lt_size hze
  show wpAny _ _ (Builtin.SmallTypes.ownedTupleHandOut (.ref (n + 4)) (.ref he.objs.size) >>= _) _ _ _
  refine wpAny_bind ?_
  unfold Builtin.SmallTypes.ownedTupleHandOut
  have hzf : (he.push { cls := .type "tuple", data := .seq #[x, y] }).get? (n + 4) = some (zipO .ellipsis f1 n) := Heap.get?_push_of_some _ hze
  refine wpAny_bind (wpAny_setField_rec hzf (by simp) fun hg hzg hsg => ?_)
  replace hzg : hg.get? (n + 4) = some (zipO (rawInt he.objs.size) f1 n) := hzg
  refine wpAny_setField_rec hzg (by simp) fun hk hzk hsk => ?_
  replace hzk : hk.get? (n + 4) = some (zipO (rawInt he.objs.size) false n) := hzk
  have up : ∀ c o, c ≠ n + 4 → he.get? c = some o → hk.get? c = some o := fun c o c1 e => hsk.extBut _ _ c1 (hsg.extBut _ _ c1 (Heap.get?_push_of_some _ e))
  have hT : IsPair hk he.objs.size x y := hsk.extBut _ _ (Nat.ne_of_gt hlt) (hsg.extBut _ _ (Nat.ne_of_gt hlt) (Heap.get?_push_size _ rfl))
  rw [hsz] at hzk hT
  refine wpAny_pure ⟨_, rfl, ?_⟩
  show Q (.ref he.objs.size) _
  rw [hsz]
  refine hQ hk ⟨hzk, up _ _ (an _ _) (ke _ _ ⟨an _ _, an _ _, an _ _, an _ _⟩ hti), ⟨x, y, up _ _ (an _ _) htoe⟩, ?_, ?_⟩ hT fun c o k e => up c o k.2.2.2 (ke c o k e)
  · obtain ⟨o, e, r⟩ := h1e; exact ⟨o, up _ _ (an _ _) e, r⟩
  · obtain ⟨o, e, r⟩ := h2e; exact ⟨o, up _ _ (an _ _) e, r⟩

/-- the pair handed out last still lives: a new pair -/
theorem zip_nextB {n l1 l2 T : Addr} {i : Nat} {f1 : Bool} {xs ys : Array Value} {x y : Value} {Q : Value → Shared → Prop} (Z : Zip n l1 l2 (rawInt T) f1 i s.heap) (hT : ∃ o, s.heap.get? T = some o) (o1 : Off n l1) (o2 : Off n l2)
    (hl1 : IsTup s.heap l1 xs) (hl2 : IsTup s.heap l2 ys) (hx : xs[i]? = some x) (hy : ys[i]? = some y)
    (hQ : ∀ h', Zip n l1 l2 (rawInt T) true (i + 1) h' → IsPair h' s.heap.objs.size x y → (∀ b o, Off n b → s.heap.get? b = some o → h'.get? b = some o) → Q (.ref s.heap.objs.size) { s with heap := h' }) :
    wpAny (model prog w) A (Builtin.«zip.__next__» ⟨[.ref (n + 4)], []⟩) (fun fin s' => ∃ v, fin = .done (.ret v) ∧ Q v s') E s := by
  obtain ⟨hz, hti, ⟨a, b, hto⟩, h1, h2⟩ := Z
  obtain ⟨oT, hT⟩ := hT
  show wpAny _ _ (field (.ref (n + 4)) 2 >>= _) _ _ _
  refine wpAny_bind (wpAny_field hz rfl (x := .bool false) rfl ?_)
  show wpAny _ _ (field (.ref (n + 4)) 3 >>= _) _ _ _
  refine wpAny_bind (wpAny_field hz rfl (x := .ref (n + 2)) rfl ?_)
  refine wpAny_bind (wpAny_seqItems hti rfl ?_)
  show wpAny _ _ (Builtin.SmallTypes.ownedTupleIsFree (.ref (n + 4)) >>= _) _ _ _
  have free : wpAny (model prog w) A (Builtin.SmallTypes.ownedTupleIsFree (.ref (n + 4))) (fun b s' => b = false ∧ ∃ h', s' = { s with heap := h' } ∧ h'.get? (n + 4) = some (zipO (rawInt T) true n) ∧ Heap.SameBut (n + 4) s.heap h') E s := by
    unfold Builtin.SmallTypes.ownedTupleIsFree
    refine wpAny_bind (wpAny_field hz rfl (x := rawInt T) rfl ?_)
    show wpAny _ _ (loadIfAlive _ >>= _) _ _ _
    refine wpAny_bind (wpAny_alive ?_)
    have e : ((T : Int)).toNat = T := Int.toNat_natCast T
    rw [e, hT]
    show wpAny _ _ (field (.ref (n + 4)) 1 >>= _) _ _ _
    refine wpAny_bind (wpAny_field hz rfl (x := .bool f1) rfl ?_)
    cases f1 with
    | true => exact wpAny_pure ⟨rfl, s.heap, rfl, hz, Heap.SameBut.refl ..⟩
    | false =>
      show wpAny _ _ (setField (.ref (n + 4)) 1 (.bool true) >>= _) _ _ _
      exact wpAny_bind (wpAny_setField_rec hz (by simp) fun h' hz' hs' => wpAny_pure ⟨rfl, h', rfl, hz', hs'⟩)
  refine wpAny_bind (wpAny_mono free (fun bb s' q => ?_) fun _ _ e => e)
  obtain ⟨rfl, ha, rfl, hza, hsa⟩ := q
  simp only [Bool.false_eq_true, if_false]
  refine wpAny_bind ?_
  rw [← Array.forIn_toList]
  simp only [List.forIn_cons, List.forIn_nil]
  refine wpAny_bind ?_
  refine wpAny_bind (wpAny_holding ?_)
  show wpAny _ _ (Builtin.SmallTypes.nextOf (.ref n) >>= _) _ _ _
  have ka : ∀ c o, Off n c → s.heap.get? c = some o → ha.get? c = some o := fun c o k e => hsa.extBut _ _ k.2.2.2 e
  refine wpAny_bind (nextOf_tuple (h1.extBut hsa.extBut (an _ _)) (isTup_off hl1 o1 ka) hx fun hb h1b hsb => wpAny_pure (wpAny_pure ?_))
  have kb : ∀ c o, Off n c → s.heap.get? c = some o → hb.get? c = some o := fun c o k e => hsb.extBut _ _ k.1 (ka c o k e)
  dsimp only
  refine wpAny_bind (wpAny_bind (wpAny_holding ?_))
  show wpAny _ _ (Builtin.SmallTypes.nextOf (.ref (n + 1)) >>= _) _ _ _
  refine wpAny_bind (nextOf_tuple ((h2.extBut hsa.extBut (an _ _)).extBut hsb.extBut (an _ _)) (isTup_off hl2 o2 kb) hy fun hd h2d hsd => wpAny_pure (wpAny_pure (wpAny_pure ?_)))
  have hsz : hd.objs.size = s.heap.objs.size := by rw [hsd.1, hsb.1, hsa.1]
  have kd : ∀ c o, Off n c → s.heap.get? c = some o → hd.get? c = some o := fun c o k e => hsd.extBut _ _ k.2.1 (kb c o k e)
  show wpAny _ _ (newTuple [x, y] >>= fun v => ret v) _ _ _
  refine wpAny_bind (wpAny_newTuple (wpAny_pure ⟨_, rfl, ?_⟩))
  show Q (.ref hd.objs.size) _
  rw [hsz]
  have hlt : n + 4 < s.heap.objs.size := Heap.lt_size hz
  have pu : ∀ {c o}, hd.get? c = some o → (hd.push { cls := .type "tuple", data := .seq #[x, y] }).get? c = some o := fun e => Heap.get?_push_of_some _ e
  refine hQ _ ⟨pu (hsd.extBut _ _ (an _ _) (hsb.extBut _ _ (an _ _) hza)), pu (kd _ _ ⟨an _ _, an _ _, an _ _, an _ _⟩ hti), ⟨a, b, pu (hsd.extBut _ _ (an _ _) (hsb.extBut _ _ (an _ _) (hsa.extBut _ _ (an _ _) hto)))⟩, ?_, ?_⟩ (by rw [← hsz]; exact Heap.get?_push_size _ rfl) fun c o k e => pu (kd c o k e)
  · obtain ⟨o, e, r⟩ := h1b; exact ⟨o, pu (hsd.extBut _ _ (an _ _) e), r⟩
  · obtain ⟨o, e, r⟩ := h2d; exact ⟨o, pu e, r⟩

/-- one of the two is at its end -/
theorem zip_nextE {n l1 l2 : Addr} {i : Nat} {f0 : Value} {f1 : Bool} {xs ys : Array Value} {Q : Fin → Shared → Prop} (hh : A.handled = none) (Z : Zip n l1 l2 f0 f1 i s.heap) (hT : f0 = .none ∨ ∃ T : Addr, f0 = rawInt T ∧ ∃ o, s.heap.get? T = some o) (o1 : Off n l1) (o2 : Off n l2)
    (hl1 : IsTup s.heap l1 xs) (hl2 : IsTup s.heap l2 ys) (hend : xs[i]? = none ∨ ys[i]? = none)
    (hE : ∀ h' e, (∀ b o, Off n b → s.heap.get? b = some o → h'.get? b = some o) → (∃ o, h'.get? e = some o ∧ o.cls = .type "StopIteration") → E (.ref e) { s with heap := h' }) :
    wpAny (model prog w) A (Builtin.«zip.__next__» ⟨[.ref (n + 4)], []⟩) Q E s := by
  obtain ⟨hz, hti, ⟨a, b, hto⟩, h1, h2⟩ := Z
  show wpAny _ _ (field (.ref (n + 4)) 2 >>= _) _ _ _
  refine wpAny_bind (wpAny_field hz rfl (x := .bool false) rfl ?_)
  show wpAny _ _ (field (.ref (n + 4)) 3 >>= _) _ _ _
  refine wpAny_bind (wpAny_field hz rfl (x := .ref (n + 2)) rfl ?_)
  refine wpAny_bind (wpAny_seqItems hti rfl ?_)
  show wpAny _ _ (Builtin.SmallTypes.ownedTupleIsFree (.ref (n + 4)) >>= _) _ _ _
  rcases hT with rfl | ⟨T, rfl, oT, hT⟩
  · refine wpAny_bind ?_
    unfold Builtin.SmallTypes.ownedTupleIsFree
    refine wpAny_bind (wpAny_field hz rfl (x := .none) rfl (wpAny_pure ?_))
    simp only [if_true]
    refine wpAny_bind (wpAny_rule ?_)
    refine wpAny_bind (wpAny_field hz rfl (x := .ref (n + 3)) rfl ?_)
    refine wpAny_bind (wpAny_setField_rec hz (by simp) fun ha hza hsa => ?_)
    replace hza : ha.get? (n + 4) = some (zipO .ellipsis f1 n) := hza
    have ka : ∀ c o, Off n c → s.heap.get? c = some o → ha.get? c = some o := fun c o k e => hsa.extBut _ _ k.2.2.2 e
    refine wpAny_bind ?_
    simp only [List.zipIdx_cons, List.zipIdx_nil, List.forIn_cons, List.forIn_nil]
    refine wpAny_bind (wpAny_bind (wpAny_onRaise ?_))
    show wpAny _ _ (Builtin.SmallTypes.nextOf (.ref n) >>= _) _ _ _
    have nz : ∀ {h : Heap} {e : Addr} {f : Value}, h.get? (n + 4) = some (zipO f f1 n) → (∃ o, h.get? e = some o ∧ o.cls = .type "StopIteration") → e ≠ n + 4 := fun q ⟨o, x, c⟩ z => by
      subst z; rw [q] at x; cases x; simp at c
    cases hx : xs[i]? with
    | none =>
      refine wpAny_bind (nextOf_tuple_end hh (h1.extBut hsa.extBut (an _ _)) (isTup_off hl1 o1 ka) hx fun hb e hsb he => ?_)
      have hzb : hb.get? (n + 4) = some (zipO .ellipsis f1 n) := hsb _ _ (an _ _) hza
      have hez := nz hzb he
      obtain ⟨oe, hoe, hce⟩ := he
      exact wpAny_setField_rec hzb (by simp) fun hc _ hsc => hE hc e (fun c o k x => hsc.extBut _ _ k.2.2.2 (hsb _ _ k.1 (ka c o k x))) ⟨oe, hsc.extBut _ _ hez hoe, hce⟩
    | some x =>
      have hy : ys[i]? = none := by rcases hend with h | h; · rw [hx] at h; cases h
                                    · exact h
      refine wpAny_bind (nextOf_tuple (h1.extBut hsa.extBut (an _ _)) (isTup_off hl1 o1 ka) hx fun hb h1b hsb => wpAny_pure ?_)
      have htob : IsPair hb (n + 3) a b := hsb.extBut _ _ (an _ _) (hsa.extBut _ _ (an _ _) hto)
      refine wpAny_bind (wpAny_seqItems htob rfl ?_)
      refine wpAny_bind (wpAny_updateSeq_pair htob fun hc htoc hsc => ?_)
      have kc : ∀ c o, Off n c → s.heap.get? c = some o → hc.get? c = some o := fun c o k e => hsc.extBut _ _ k.2.2.1 (hsb.extBut _ _ k.1 (ka c o k e))
      refine wpAny_bind (wpAny_letGo (wpAny_pure ?_))
      refine wpAny_bind (wpAny_bind (wpAny_onRaise ?_))
      show wpAny _ _ (Builtin.SmallTypes.nextOf (.ref (n + 1)) >>= _) _ _ _
      refine wpAny_bind (nextOf_tuple_end hh (((h2.extBut hsa.extBut (an _ _)).extBut hsb.extBut (an _ _)).extBut hsc.extBut (an _ _)) (isTup_off hl2 o2 kc) hy fun hd e hsd he => ?_)
      have hzd : hd.get? (n + 4) = some (zipO .ellipsis f1 n) := hsd _ _ (an _ _) (hsc.extBut _ _ (an _ _) (hsb.extBut _ _ (an _ _) hza))
      have hez := nz hzd he
      obtain ⟨oe, hoe, hce⟩ := he
      exact wpAny_setField_rec hzd (by simp) fun hf _ hsf => hE hf e (fun c o k x => hsf.extBut _ _ k.2.2.2 (hsd _ _ k.2.1 (kc c o k x))) ⟨oe, hsf.extBut _ _ hez hoe, hce⟩
  · have free : wpAny (model prog w) A (Builtin.SmallTypes.ownedTupleIsFree (.ref (n + 4))) (fun b s' => b = false ∧ ∃ h', s' = { s with heap := h' } ∧ Heap.SameBut (n + 4) s.heap h') E s := by
      unfold Builtin.SmallTypes.ownedTupleIsFree
      refine wpAny_bind (wpAny_field hz rfl (x := rawInt T) rfl ?_)
      show wpAny _ _ (loadIfAlive _ >>= _) _ _ _
      refine wpAny_bind (wpAny_alive ?_)
      have e : ((T : Int)).toNat = T := Int.toNat_natCast T
      rw [e, hT]
      show wpAny _ _ (field (.ref (n + 4)) 1 >>= _) _ _ _
      refine wpAny_bind (wpAny_field hz rfl (x := .bool f1) rfl ?_)
      cases f1 with
      | true => exact wpAny_pure ⟨rfl, s.heap, rfl, Heap.SameBut.refl ..⟩
      | false =>
        show wpAny _ _ (setField (.ref (n + 4)) 1 (.bool true) >>= _) _ _ _
        exact wpAny_bind (wpAny_setField_rec hz (by simp) fun h' hz' hs' => wpAny_pure ⟨rfl, h', rfl, hs'⟩)
    refine wpAny_bind (wpAny_mono free (fun bb s' q => ?_) fun _ _ e => e)
    obtain ⟨rfl, ha, rfl, hsa⟩ := q
    have ka : ∀ c o, Off n c → s.heap.get? c = some o → ha.get? c = some o := fun c o k e => hsa.extBut _ _ k.2.2.2 e
    simp only [Bool.false_eq_true, if_false]
    refine wpAny_bind ?_
    rw [← Array.forIn_toList]
    simp only [List.forIn_cons, List.forIn_nil]
    refine wpAny_bind ?_
    refine wpAny_bind (wpAny_holding ?_)
    show wpAny _ _ (Builtin.SmallTypes.nextOf (.ref n) >>= _) _ _ _
    cases hx : xs[i]? with
    | none =>
      exact wpAny_bind (nextOf_tuple_end hh (h1.extBut hsa.extBut (an _ _)) (isTup_off hl1 o1 ka) hx fun hb e hsb he => hE hb e (fun c o k x => hsb _ _ k.1 (ka c o k x)) he)
    | some x =>
      have hy : ys[i]? = none := by rcases hend with h | h; · rw [hx] at h; cases h
                                    · exact h
      refine wpAny_bind (nextOf_tuple (h1.extBut hsa.extBut (an _ _)) (isTup_off hl1 o1 ka) hx fun hb h1b hsb => wpAny_pure (wpAny_pure ?_))
      have kb : ∀ c o, Off n c → s.heap.get? c = some o → hb.get? c = some o := fun c o k e => hsb.extBut _ _ k.1 (ka c o k e)
      dsimp only
      refine wpAny_bind (wpAny_bind (wpAny_holding ?_))
      show wpAny _ _ (Builtin.SmallTypes.nextOf (.ref (n + 1)) >>= _) _ _ _
      exact wpAny_bind (nextOf_tuple_end hh ((h2.extBut hsa.extBut (an _ _)).extBut hsb.extBut (an _ _)) (isTup_off hl2 o2 kb) hy fun hd e hsd he => hE hd e (fun c o k x => hsd _ _ k.2.1 (kb c o k x)) he)
end

end
section
open PySem PySem.W PySem.Spec PySem.Calls PyProof.Rows

abbrev zA (h : Heap) (l1 : Addr) : Heap := h.push { cls := .type "tuple_iterator", data := .fields #[.ref l1, .int 0 0] }
abbrev zB (h : Heap) (l1 l2 : Addr) : Heap := (zA h l1).push { cls := .type "tuple_iterator", data := .fields #[.ref l2, .int 0 0] }
abbrev zC (h : Heap) (l1 l2 : Addr) : Heap := (zB h l1 l2).push { cls := .type "tuple", data := .seq #[.ref h.objs.size, .ref (zA h l1).objs.size] }
abbrev zD (h : Heap) (l1 l2 : Addr) : Heap := (zC h l1 l2).push { cls := .type "tuple", data := .seq #[.none, .none] }
abbrev zE (h : Heap) (l1 l2 : Addr) : Heap := (zD h l1 l2).push { cls := .type "zip", data := .fields #[.none, .bool false, .bool false, .ref (zB h l1 l2).objs.size, .ref (zC h l1 l2).objs.size] }
theorem new_zip (l1 l2 : Addr) (xs ys : Array Value) :
    Meets (Builtin.«zip.__new__» ⟨[.type "zip", .ref l1, .ref l2], []⟩) (fun _ R s => IsTup s.heap l1 xs ∧ IsTup s.heap l2 ys ∧
      R (.ok (.ret (.ref (zD s.heap l1 l2).objs.size))) { s with heap := zE s.heap l1 l2 }) :=
  .of_wp fun prog w A R s h => by
    obtain ⟨hp, g, d, tk, os⟩ := s; obtain ⟨hl1, hl2, h⟩ := h
    have hsub := PySem.sub_zip
    have hL1 : Heap.IsTuple (Shared.heap ⟨hp, g, d, tk, os⟩) l1 xs := hl1
    have hL2 : Heap.IsTuple (Shared.heap ⟨hp.push { cls := .type "tuple_iterator", data := .fields #[.ref l1, .int 0 0] }, g, d, tk, os⟩) l2 ys := Heap.IsTuple.push hl2 _
    wp_walk using wpAny_pyIter_tuple hL1, wpAny_pyIter_tuple hL2
    exact ⟨_, rfl, h⟩

section
variable {prog : Program} {w : World} {A : Around} {E : Value → Shared → Prop} {s : Shared}
theorem call_zip {l1 l2 : Addr} {xs ys : Array Value} {Q : Value → Shared → Prop} (hl1 : IsTup s.heap l1 xs) (hl2 : IsTup s.heap l2 ys)
    (h : ∀ h' (n : Nat), n = s.heap.objs.size → Zip n l1 l2 .none false 0 h' → Le s.heap h' → Q (.ref (n + 4)) { s with heap := h' }) : wpAny (model prog w) A (call (.type "zip") [.ref l1, .ref l2]) Q E s := by
  refine callType_new PySem.F.called_zip (by decide) (PySem.F.typeCall_zip_2 _ _) (PySem.F.newCall_zip_2 _ _) (fun obj => PySem.F.args_object_init_3 obj _ _) PySem.F.entry_zip_new
    (new_zip l1 l2 xs ys) ⟨hl1, hl2, ?_⟩
  have z1 : (zA s.heap l1).objs.size = s.heap.objs.size + 1 := Heap.size_push ..
  have z2 : (zB s.heap l1 l2).objs.size = s.heap.objs.size + 2 := by rw [Heap.size_push, z1]
  have z3 : (zC s.heap l1 l2).objs.size = s.heap.objs.size + 3 := by rw [Heap.size_push, z2]
  have z4 : (zD s.heap l1 l2).objs.size = s.heap.objs.size + 4 := by rw [Heap.size_push, z3]
  have up : ∀ {h : Heap} {o : Obj} {b x}, h.get? b = some x → (h.push o).get? b = some x := fun e => Heap.get?_push_of_some _ e
  have g5 : (zE s.heap l1 l2).get? (zD s.heap l1 l2).objs.size = some _ := Heap.get?_push_size _ rfl
  have g4 : (zE s.heap l1 l2).get? (zC s.heap l1 l2).objs.size = some _ := up (Heap.get?_push_size _ rfl)
  have g3 : (zE s.heap l1 l2).get? (zB s.heap l1 l2).objs.size = some _ := up (up (Heap.get?_push_size _ rfl))
  have g2 : (zE s.heap l1 l2).get? (zA s.heap l1).objs.size = some _ := up (up (up (Heap.get?_push_size _ rfl)))
  have g1 : (zE s.heap l1 l2).get? s.heap.objs.size = some _ := up (up (up (up (Heap.get?_push_size _ rfl))))
  rw [z2, z3, z4] at g5
  rw [z1, z2] at g3
  rw [z3] at g4
  rw [z1] at g2
  show _ ∧ _
  rw [z4]
  exact ⟨⟨_, g5, rfl⟩, h _ _ rfl ⟨g5, g3, ⟨_, _, g4⟩, ⟨_, g1, rfl, rfl⟩, ⟨_, g2, rfl, rfl⟩⟩ fun c o x => up (up (up (up (up x))))⟩

theorem zip_type {n : Nat} {f0 : Value} {f1 : Bool} {h : Heap} (e : h.get? (n + 4) = some (zipO f0 f1 n)) : ∃ o, h.get? (n + 4) = some o ∧ o.cls = .type "zip" := ⟨_, e, rfl⟩
theorem pyNext_zipA {n l1 l2 : Addr} {i : Nat} {f1 : Bool} {xs ys : Array Value} {x y : Value} {Q : Option Value → Shared → Prop} (Z : Zip n l1 l2 .none f1 i s.heap) (o1 : Off n l1) (o2 : Off n l2)
    (hl1 : IsTup s.heap l1 xs) (hl2 : IsTup s.heap l2 ys) (hx : xs[i]? = some x) (hy : ys[i]? = some y)
    (hQ : ∀ h', Zip n l1 l2 (rawInt s.heap.objs.size) false (i + 1) h' → IsPair h' s.heap.objs.size x y → (∀ b o, Off n b → s.heap.get? b = some o → h'.get? b = some o) → Q (some (.ref s.heap.objs.size)) { s with heap := h' }) :
    wpAny (model prog w) A (pyNext (.ref (n + 4))) Q E s := by
  have hT : s.TypeIs (.ref (n + 4)) "zip" := zip_type Z.z
  unfold pyNext
  exact wpAny_bind (wpAny_attempt (wpAny_callSpecial?_slot (name := Str.ofString "__next__") hT PySem.F.slot_zip_next (wpAny_call_entry PySem.F.slot_zip_next hT PySem.F.entry_zip_next
    (zip_nextA Z o1 o2 hl1 hl2 hx hy fun h' a b c => wpAny_pure (hQ h' a b c)) (PySem.F.args_zip_next_1 _))))
theorem pyNext_zipB {n l1 l2 T : Addr} {i : Nat} {f1 : Bool} {xs ys : Array Value} {x y : Value} {Q : Option Value → Shared → Prop} (Z : Zip n l1 l2 (rawInt T) f1 i s.heap) (hT : ∃ o, s.heap.get? T = some o) (o1 : Off n l1) (o2 : Off n l2)
    (hl1 : IsTup s.heap l1 xs) (hl2 : IsTup s.heap l2 ys) (hx : xs[i]? = some x) (hy : ys[i]? = some y)
    (hQ : ∀ h', Zip n l1 l2 (rawInt T) true (i + 1) h' → IsPair h' s.heap.objs.size x y → (∀ b o, Off n b → s.heap.get? b = some o → h'.get? b = some o) → Q (some (.ref s.heap.objs.size)) { s with heap := h' }) :
    wpAny (model prog w) A (pyNext (.ref (n + 4))) Q E s := by
  have hty : s.TypeIs (.ref (n + 4)) "zip" := zip_type Z.z
  unfold pyNext
  exact wpAny_bind (wpAny_attempt (wpAny_callSpecial?_slot (name := Str.ofString "__next__") hty PySem.F.slot_zip_next (wpAny_call_entry PySem.F.slot_zip_next hty PySem.F.entry_zip_next
    (zip_nextB Z hT o1 o2 hl1 hl2 hx hy fun h' a b c => wpAny_pure (hQ h' a b c)) (PySem.F.args_zip_next_1 _))))
theorem pyNext_zipE {n l1 l2 : Addr} {i : Nat} {f0 : Value} {f1 : Bool} {xs ys : Array Value} {Q : Option Value → Shared → Prop} (hh : A.handled = none) (Z : Zip n l1 l2 f0 f1 i s.heap) (hT : f0 = .none ∨ ∃ T : Addr, f0 = rawInt T ∧ ∃ o, s.heap.get? T = some o) (o1 : Off n l1) (o2 : Off n l2)
    (hl1 : IsTup s.heap l1 xs) (hl2 : IsTup s.heap l2 ys) (hend : xs[i]? = none ∨ ys[i]? = none)
    (hQ : ∀ h', (∀ b o, Off n b → s.heap.get? b = some o → h'.get? b = some o) → Q none { s with heap := h' }) :
    wpAny (model prog w) A (pyNext (.ref (n + 4))) Q E s := by
  have hty : s.TypeIs (.ref (n + 4)) "zip" := zip_type Z.z
  unfold pyNext
  refine wpAny_bind (wpAny_attempt (wpAny_callSpecial?_slot (name := Str.ofString "__next__") hty PySem.F.slot_zip_next (wpAny_call_entry PySem.F.slot_zip_next hty PySem.F.entry_zip_next
    (zip_nextE hh Z hT o1 o2 hl1 hl2 hend fun h' e a b => ?_) (PySem.F.args_zip_next_1 _))))
  obtain ⟨o, ho, hc⟩ := b
  exact wpAny_bind (wpAny_isInstance (T := "StopIteration") (b := true) ⟨o, ho, hc⟩ isSubtype_stop (wpAny_pure (hQ _ a)))
theorem pyIter_zip {n : Nat} {f0 : Value} {f1 : Bool} {Q : Value → Shared → Prop} (hz : s.heap.get? (n + 4) = some (zipO f0 f1 n)) (h : Q (.ref (n + 4)) s) : wpAny (model prog w) A (pyIter (.ref (n + 4))) Q E s := by
  have hT : s.TypeIs (.ref (n + 4)) "zip" := zip_type hz
  refine wpAny_pyIter_slot hT PySem.F.slot_zip_iter (wpAny_call_entry PySem.F.slot_zip_iter hT PySem.F.entry_zip_iter ?_ (PySem.F.args_zip_iter_1 _))
  show wpAny _ _ (ret (.ref (n + 4))) _ _ s
  exact wpAny_pure ⟨_, rfl, "zip", _, hT, PySem.F.slot_zip_next.lookup, h⟩
theorem go_zip {elts : List Expr} {x1} {pos : Pos} {n T : Nat} {f1 : Bool} {Q : Unit → Shared → Prop} (hz : s.heap.get? (n + 4) = some (zipO (rawInt T) f1 n))
    (hQ : ∀ h', h'.get? (n + 4) = some (zipO .none f1 n) → Heap.SameBut (n + 4) s.heap h' → Q () { s with heap := h' }) :
    wpAny (model prog w) A (letOwnedTupleGo (.Tuple elts x1 pos) (.ref (n + 4)) (.ref T)) Q E s := by
  unfold letOwnedTupleGo
  refine wpAny_bind (wpAny_load hz ?_)
  show wpAny _ _ (if (["enumerate", "zip", "dict_itemiterator", "dict_reverseitemiterator", "odict_iterator", "itertools.zip_longest", "itertools.pairwise"].contains "zip" &&
      (#[rawInt T, .bool f1, .bool false, .ref (n + 2), .ref (n + 3)] : Array Value)[0]? == some (rawInt T)) = true then _ else _) Q E s
  rw [if_pos (by simp)]
  refine wpAny_bind (wpAny_rule ?_)
  show wpAny _ _ (setField (.ref (n + 4)) 0 .none) Q E s
  exact wpAny_setField_rec hz (by simp) fun h' hz' hs' => hQ h' hz' hs'

theorem zip_no_len : typeLookup (.type "zip") "__len__" = pure none := by rw [typeLookup_type, builtinLookup_eq_fast]; kernel_rfl
theorem zip_no_hint : typeLookup (.type "zip") "__length_hint__" = pure none := by rw [typeLookup_type, builtinLookup_eq_fast]; kernel_rfl
end

end
section
open PySem PySem.W PySem.Spec PySem.Calls PyProof.Rows

def pairD (d e : PyData) : PyData := .tuple [d, e]
theorem Rd.pair {g : Heap} {P : Addr} {x y : Value} {d e : PyData} (h : IsPair g P x y) (r : Rd g x d) (q : Rd g y e) : Rd g (.ref P) (pairD d e) :=
  .tuple (vs := [x, y]) ⟨_, h, rfl, 0, rfl⟩ (.cons r (.cons q .nil))

/-- growth with a new pair -/
theorem grow_pair {X : Addr → Prop} {g h h' : Heap} {x y : Value} (gh : Le g h) (off : ∀ b, X b → g.get? b = none) (keep : ∀ b o, ¬ X b → h.get? b = some o → h'.get? b = some o) (dm : ∀ b, X b → ∃ o, h'.get? b = some o) (hp : IsPair h' h.objs.size x y) :
    ∃ g', GrowX X g h g' h' ∧ IsPair g' h.objs.size x y ∧ ∀ b o, h.get? b = some o → g.get? b = none → g'.get? b = none := by
  have gh' : Le g h' := fun b o e => keep b o (fun z => by rw [off b z] at e; cases e) (gh b o e)
  obtain ⟨g', q⟩ := ghost_ex gh' hp
  have n : g.get? h.objs.size = none := gh.none (get_fresh h)
  have gg : Le g g' := fun b o e => by rw [q]; by_cases hb : b = h.objs.size
                                       · subst hb; rw [n] at e; cases e
                                       · rw [if_neg hb]; exact e
  have fr : ∀ b o, h.get? b = some o → g.get? b = none → g'.get? b = none := fun b o e e' => by
    rw [q, if_neg fun z => by subst z; rw [get_fresh] at e; cases e]; exact e'
  refine ⟨g', ⟨gg, fun b o e => ?_, fun b o nx e => keep b o nx e, fun b o e => ?_, fr⟩, by show g'.get? _ = _; rw [q, if_pos rfl], fr⟩
  · rw [q] at e; by_cases hb : b = h.objs.size
    · subst hb; rw [if_pos rfl] at e; cases e; exact hp
    · rw [if_neg hb] at e; exact gh' b o e
  · by_cases hx : X b
    · exact dm b hx
    · exact ⟨o, keep b o hx e⟩

theorem Zip.dm {n l1 l2 : Addr} {f0 : Value} {f1 : Bool} {i : Nat} {h : Heap} (Z : Zip n l1 l2 f0 f1 i h) : ∀ b, (b = n ∨ b = n + 1 ∨ b = n + 3 ∨ b = n + 4) → ∃ o, h.get? b = some o := by
  rintro b (rfl | rfl | rfl | rfl)
  · obtain ⟨o, e, _⟩ := Z.i1; exact ⟨o, e⟩
  · obtain ⟨o, e, _⟩ := Z.i2; exact ⟨o, e⟩
  · obtain ⟨_, _, e⟩ := Z.to; exact ⟨_, e⟩
  · exact ⟨_, Z.z⟩

section
variable {prog : Program} {w : World} {A : Around} {R : Result → Shared → Prop} {s : Shared}
abbrev ZX (n S : Nat) (b : Addr) : Prop := b = n ∨ b = n + 1 ∨ b = n + 3 ∨ b = n + 4 ∨ b = S
theorem ZX.off {n S : Nat} {b : Addr} (x : ¬ ZX n S b) : Off n b := ⟨fun z => x (.inl z), fun z => x (.inr (.inl z)), fun z => x (.inr (.inr (.inl z))), fun z => x (.inr (.inr (.inr (.inl z))))⟩

structure GrowY (X : Addr → Prop) (g h g' h' : Heap) : Prop where
  gg : Le g g'
  gh : Le g' h'
  hh : ∀ b o, ¬ X b → h.get? b = some o → h'.get? b = some o
  fr : ∀ b o, ¬ X b → h.get? b = some o → g.get? b = none → g'.get? b = none
  off : ∀ b, X b → g'.get? b = none

set_option maxHeartbeats 1000000 in
theorem zip_loop (hh : A.handled = none) {n S l1 l2 : Nat} {xs ys : List Value} {ds es : List PyData} (hlen : xs.length = ys.length) (hsz : xs.length ≤ sizeLine) {g₀ : Heap} (SX : S ≠ n ∧ S ≠ n + 1 ∧ S ≠ n + 2 ∧ S ≠ n + 3 ∧ S ≠ n + 4)
    (t1 : IsTup g₀ l1 xs.toArray) (t2 : IsTup g₀ l2 ys.toArray) (r1 : RdAll g₀ xs ds) (r2 : RdAll g₀ ys es) (res : Value) :
    ∀ (k i : Nat) (g' h' : Heap) (tk : Tok) (acc : List Value) (c : Nat) (f0 : Value) (f1 : Bool), xs.length - i = k → i ≤ xs.length → Le g₀ g' → Le g' h' → (∀ b, ZX n S b → g'.get? b = none) → Zip n l1 l2 f0 f1 i h' →
    (f0 = .none ∨ ∃ T : Addr, f0 = rawInt T ∧ ¬ ZX n S T ∧ ∃ o, h'.get? T = some o) → h'.get? S = some (lstO acc c) → acc.length = i → RdAll g' acc ((List.zipWith pairD ds es).take i) →
    (∀ gf hf tk' acc' c', GrowY (ZX n S) g' h' gf hf → hf.get? S = some (lstO acc' c') → RdAll gf acc' (List.zipWith pairD ds es) → R (.ok (.ret res)) { s with heap := hf, toks := tk' }) →
    codeAny (model prog w) A (.builtin "list.extend.loop" ⟨[.ref S, .ref (n + 4), res], []⟩) R { s with heap := h', toks := tk } := by
  intro k
  have d1 := r1.length
  have d2 := r2.length
  induction k with
  | zero =>
    intro i g' h' tk acc c f0 f1 hk hi hg gh off Z md hS hacc ra hR
    have hin : i = xs.length := by omega
    subst hin
    refine codeAny_builtin PySem.F.entry_extend_loop ?_
    rw [Around.under_plainId PySem.F.plain_extend_loop _]
    have ng : ∀ {l : Nat} {vs : Array Value}, IsTup g₀ l vs → ¬ ZX n S l := fun t z => by obtain ⟨o, e, _⟩ := t; have := hg _ _ e; rw [off _ z] at this; cases this
    show wpAny _ A.in1 (pyNext (.ref (n + 4)) >>= _) _ _ _
    have So : Off n S := ⟨SX.1, SX.2.1, SX.2.2.2.1, SX.2.2.2.2⟩
    refine wpAny_bind (pyNext_zipE hh Z ?_ (ZX.off (ng t1)) (ZX.off (ng t2)) (IsTup.le (hg.trans gh) t1) (IsTup.le (hg.trans gh) t2) (.inl (by simp)) fun hf keep => wpAny_pure ?_)
    · rcases md with z | ⟨T, z, _, o, e⟩
      · exact .inl z
      · exact .inr ⟨T, z, o, e⟩
    · refine hR g' hf _ acc c ⟨Le.refl _, fun b o e => keep b o (ZX.off fun z => by rw [off b z] at e; cases e) (gh b o e), fun b o z e => keep b o (ZX.off z) e, fun _ _ _ _ z => z, off⟩ (keep S _ So hS) ?_
      rwa [List.take_of_length_le (by rw [List.length_zipWith]; omega)] at ra
  | succ k ih =>
    intro i g' h' tk acc c f0 f1 hk hi hg gh off Z md hS hacc ra hR
    have hlt : i < xs.length := by omega
    refine codeAny_builtin PySem.F.entry_extend_loop ?_
    rw [Around.under_plainId PySem.F.plain_extend_loop _]
    have ng : ∀ {l : Nat} {vs : Array Value}, IsTup g₀ l vs → ¬ ZX n S l := fun t z => by obtain ⟨o, e, _⟩ := t; have := hg _ _ e; rw [off _ z] at this; cases this
    show wpAny _ A.in1 (pyNext (.ref (n + 4)) >>= _) _ _ _
    have So : Off n S := ⟨SX.1, SX.2.1, SX.2.2.2.1, SX.2.2.2.2⟩
    obtain ⟨d, hd⟩ : ∃ d, ds[i]? = some d := ⟨ds[i]'(by omega), by simp⟩
    obtain ⟨e, he⟩ : ∃ e, es[i]? = some e := ⟨es[i]'(by omega), by simp⟩
    obtain ⟨x, hx, rx⟩ := r1.get hd
    obtain ⟨y, hy, ry⟩ := r2.get he
    have step : ∀ (f0' : Value) (f1' : Bool) (h2 : Heap), (f0' = rawInt h'.objs.size ∨ f0' = f0 ∧ f0 ≠ .none) → Zip n l1 l2 f0' f1' (i + 1) h2 → IsPair h2 h'.objs.size x y → (∀ b o, Off n b → h'.get? b = some o → h2.get? b = some o) →
        wpAny (model prog w) A.in1 (updateSeq S (·.push (.ref h'.objs.size)) >>= fun _ => again (.builtin "list.extend.loop" ⟨[.ref S, .ref (n + 4), res], []⟩))
          (fun fin s' => match fin with | .done f => R (.ok f) s' | .again c' => c'.quiet = true ∧ codeAny (model prog w) A c' R s') (fun e s' => R (.error e) s') { s with heap := h2, toks := tk } := by
      intro f0' f1' h2 hf0 Z2 hp keep
      have PX : ¬ ZX n S h'.objs.size := fun z => by
        have fr := get_fresh h'
        rcases z with z | z | z | z | z
        · obtain ⟨o, q⟩ := Z.dm n (.inl rfl); rw [← z, fr] at q; cases q
        · obtain ⟨o, q⟩ := Z.dm (n + 1) (.inr (.inl rfl)); rw [← z, fr] at q; cases q
        · obtain ⟨o, q⟩ := Z.dm (n + 3) (.inr (.inr (.inl rfl))); rw [← z, fr] at q; cases q
        · obtain ⟨o, q⟩ := Z.dm (n + 4) (.inr (.inr (.inr rfl))); rw [← z, fr] at q; cases q
        · rw [← z, fr] at hS; cases hS
      have hS2 := keep S _ So hS
      obtain ⟨g2, G2, gp, fr2⟩ := grow_pair (X := ZX n S) gh off (fun b o z q => keep b o (ZX.off z) q) (fun b z => by
        rcases z with z | z | z | z | z
        · exact Z2.dm b (.inl z)
        · exact Z2.dm b (.inr (.inl z))
        · exact Z2.dm b (.inr (.inr (.inl z)))
        · exact Z2.dm b (.inr (.inr (.inr z)))
        · subst z; exact ⟨_, hS2⟩) hp
      have off2 : ∀ b, ZX n S b → g2.get? b = none := fun b z => by
        have : ∃ o, h'.get? b = some o := by
          rcases z with z | z | z | z | z
          · exact Z.dm b (.inl z)
          · exact Z.dm b (.inr (.inl z))
          · exact Z.dm b (.inr (.inr (.inl z)))
          · exact Z.dm b (.inr (.inr (.inr z)))
          · subst z; exact ⟨_, hS⟩
        obtain ⟨o, q⟩ := this
        exact fr2 b o q (off b z)
      have hsa : acc.length ≤ sizeLine := by omega
      refine wpAny_bind (wpAny_updateSeq hS2 rfl (wpAny_pure ⟨plainId_quiet PySem.F.plain_extend_loop _, ?_⟩) (by simpa using hsa) (by simp; omega))
      have hS3 := upd_get hS2 (mapSeq_push acc c (.ref h'.objs.size)) rfl
      have kp : ∀ b o, b ≠ S → h2.get? b = some o → (h2.update S (Obj.mapSeq fun x => x.push (.ref h'.objs.size))).get? b = some o := fun b o z q => (Heap.get?_update_other _ _ (Ne.symm z)).trans q
      have Le3 : Le g2 (h2.update S (Obj.mapSeq fun x => x.push (.ref h'.objs.size))) := fun b o q => kp b o (fun z => by subst z; rw [off2 _ (.inr (.inr (.inr (.inr rfl))))] at q; cases q) (G2.gh b o q)
      refine ih (i + 1) g2 _ tk (acc ++ [.ref h'.objs.size]) (c + 1) f0' f1' (by omega) hlt (hg.trans G2.gg) Le3 off2 ⟨?_, ?_, ?_, ?_, ?_⟩ ?_ hS3 (by simp [hacc]) ?_ fun gf hf tk' acc' c' G3 e1 e2 => ?_
      · exact kp _ _ (Ne.symm SX.2.2.2.2) Z2.z
      · exact kp _ _ (Ne.symm SX.2.2.1) Z2.ti
      · obtain ⟨a, b, q⟩ := Z2.to; exact ⟨a, b, kp _ _ (Ne.symm SX.2.2.2.1) q⟩
      · obtain ⟨o, q, r⟩ := Z2.i1; exact ⟨o, kp _ _ (Ne.symm SX.1) q, r⟩
      · obtain ⟨o, q, r⟩ := Z2.i2; exact ⟨o, kp _ _ (Ne.symm SX.2.1) q, r⟩
      · rcases hf0 with rfl | ⟨rfl, nz⟩
        · exact .inr ⟨_, rfl, PX, _, kp _ _ (fun z => PX (.inr (.inr (.inr (.inr z))))) hp⟩
        · rcases md with z | ⟨T, z, TX, o, q⟩
          · exact absurd z nz
          · exact .inr ⟨T, z, TX, o, kp _ _ (fun z => TX (.inr (.inr (.inr (.inr z))))) (keep T o (ZX.off TX) q)⟩
      · rw [take_succ_get (d := pairD d e) (by simp [List.getElem?_zipWith, hd, he])]
        exact (ra.mono G2.gg).append (.cons (.pair gp (rx.mono (hg.trans G2.gg)) (ry.mono (hg.trans G2.gg))) .nil)
      · refine hR gf hf tk' acc' c' ⟨G2.gg.trans G3.gg, G3.gh, fun b o z q => G3.hh b o z (kp b o (fun y => z (.inr (.inr (.inr (.inr y))))) (G2.hh b o z q)), fun b o z q y => G3.fr b o z (kp b o (fun y => z (.inr (.inr (.inr (.inr y))))) (G2.hh b o z q)) (fr2 b o q y), G3.off⟩ e1 e2
    rcases md with rfl | ⟨T, rfl, TX, o, q⟩
    · refine wpAny_bind (pyNext_zipA Z (ZX.off (ng t1)) (ZX.off (ng t2)) (IsTup.le (hg.trans gh) t1) (IsTup.le (hg.trans gh) t2) (x := x) (y := y) (by simpa using hx) (by simpa using hy) fun h2 Z2 hp keep => ?_)
      exact step _ _ h2 (.inl rfl) Z2 hp keep
    · refine wpAny_bind (pyNext_zipB Z ⟨o, q⟩ (ZX.off (ng t1)) (ZX.off (ng t2)) (IsTup.le (hg.trans gh) t1) (IsTup.le (hg.trans gh) t2) (x := x) (y := y) (by simpa using hx) (by simpa using hy) fun h2 Z2 hp keep => ?_)
      exact step _ _ h2 (.inr ⟨rfl, fun z => nomatch z⟩) Z2 hp keep
end

end
section
open PySem PySem.W PySem.Spec PySem.Calls PyProof.Rows

section
variable {prog : Program} {w : World} {A : Around} {E : Value → Shared → Prop} {s : Shared}
theorem list_zip (hh : A.handled = none) {n l1 l2 : Nat} {xs ys : List Value} {ds es : List PyData} {g : Heap} {Q : Value → Shared → Prop} (Z : Zip n l1 l2 .none false 0 s.heap) (hg : Le g s.heap) (off : ∀ b, (b = n ∨ b = n + 1 ∨ b = n + 3 ∨ b = n + 4) → g.get? b = none)
    (hlen : xs.length = ys.length) (hsz : xs.length ≤ sizeLine) (t1 : IsTup g l1 xs.toArray) (t2 : IsTup g l2 ys.toArray) (r1 : RdAll g xs ds) (r2 : RdAll g ys es)
    (hQ : ∀ gf hf tk (S : Nat) acc c, S = s.heap.objs.size → GrowY (ZX n S) g s.heap gf hf → hf.get? S = some (lstO acc c) → RdAll gf acc (List.zipWith pairD ds es) → Q (.ref S) { s with heap := hf, toks := tk }) :
    wpAny (model prog w) A (call (.type "list") [.ref (n + 4)]) Q E s := by
  have hlt : n + 4 < s.heap.objs.size := Heap.lt_size Z.z
  refine callType_codes (Q₁ := fun obj s₁ => obj = .ref s.heap.objs.size ∧ s₁ = { s with heap := s.heap.push { cls := .type "list", data := .seq #[] } }) PySem.F.called_list (PySem.F.typeCall_list_1 _) PySem.F.entry_list_init
    (code_list_new _ ⟨rfl, rfl⟩) fun obj s₁ h₁ => ?_
  obtain ⟨rfl, rfl⟩ := h₁
  have hS : (s.heap.push { cls := .type "list", data := .seq #[] }).get? s.heap.objs.size = some (lstO [] 0) := Heap.get?_push_size _ rfl
  refine ⟨⟨_, hS, rfl⟩, PySem.F.args_list_init_2 _ _, ?_⟩
  generalize hSd : s.heap.objs.size = S at hS hlt ⊢
  have hz1 : (s.heap.push { cls := .type "list", data := .seq #[] }).get? (n + 4) = some (zipO .none false n) := Heap.get?_push_of_some _ Z.z
  show wpAny _ A.in1.in1 (do let old ← Builtin.List.listItems (.ref S); Builtin.List.listUpdate (.ref S) (fun _ => #[]); letGo old.toList.reverse; Builtin.List.listExtendWith (.ref S) (.ref (n + 4)) .none) _ _ _
  refine wpAny_bind ?_
  unfold Builtin.List.listItems
  refine wpAny_bind (wpAny_seqItems hS rfl (wpAny_pure ?_))
  show wpAny _ _ (updateSeq S (fun _ => #[]) >>= fun _ => letGo (#[] : Array Value).toList.reverse >>= fun _ => Builtin.List.listExtendWith (.ref S) (.ref (n + 4)) .none) _ _ _
  refine wpAny_bind (wpAny_updateSeq hS rfl ?_)
  have hS2 := upd_get (o' := lstO [] 0) (f := Obj.mapSeq (fun _ => (#[] : Array Value))) hS (by simp [Obj.mapSeq]) rfl
  refine wpAny_bind (wpAny_letGo ?_)
  have ne : ∀ b, b < S → S ≠ b := fun b hb => Nat.ne_of_gt hb
  have kp : ∀ b o, s.heap.get? b = some o → ((s.heap.push { cls := .type "list", data := .seq #[] }).update S (Obj.mapSeq (fun _ => (#[] : Array Value)))).get? b = some o := fun b o e =>
    (Heap.get?_update_other _ _ (ne b (hSd ▸ Heap.lt_size e))).trans (Heap.get?_push_of_some _ e)
  unfold Builtin.List.listExtendWith
  have hty : ∀ {h : Heap} {gs dr tk os}, h.get? (n + 4) = some (zipO .none false n) → Shared.TypeIs (⟨h, gs, dr, tk, os⟩ : Shared) (.ref (n + 4)) "zip" := fun e => zip_type e
  refine wpAny_bind (wpAny_typeOf (hty (kp _ _ Z.z)) ?_)
  have h1 : Builtin.List.listSameRef (.ref S) (.ref (n + 4)) = false := by simp only [Builtin.List.listSameRef]; exact beq_false_of_ne (Nat.ne_of_gt hlt)
  have h2 : (Value.type "zip" == Value.type "list") = false := by decide
  have h3 : (Value.type "zip" == Value.type "tuple") = false := by decide
  simp only [h1, h2, h3, Bool.or_false, Bool.false_eq_true, if_false]
  refine wpAny_bind (pyIter_zip (f0 := .none) (f1 := false) (kp _ _ Z.z) ?_)
  refine wpAny_bind (wpAny_holding ?_)
  unfold Builtin.List.listLengthHint
  refine wpAny_bind (wpAny_specialOf (hty (kp _ _ Z.z)) zip_no_len ?_)
  show wpAny _ _ (specialOf (Value.ref (n + 4)) (Str.ofString "__length_hint__") >>= _) _ _ _
  refine wpAny_bind (wpAny_specialOf (hty (kp _ _ Z.z)) zip_no_hint ?_)
  refine wpAny_pure ?_
  show wpAny _ _ (rule "list.extend.makes-room" >>= fun _ => Builtin.List.listTouch (.ref S) >>= fun _ =>
    again (.builtin "list.extend.loop" ⟨[.ref S, .ref (n + 4), .none], []⟩)) _ _ _
  refine wpAny_bind (wpAny_rule ?_)
  refine wpAny_bind ?_
  show wpAny _ _ (updateSeq S (·.push .none) >>= fun _ => updateSeq S (·.pop)) _ _ _
  refine wpAny_bind (wpAny_updateSeq hS2 rfl ?_)
  have hS3 := upd_get (o' := lstO [.none] 1) (f := Obj.mapSeq (·.push Value.none)) hS2 (by simp [Obj.mapSeq]) rfl
  refine wpAny_updateSeq hS3 rfl ?_
  have hS4 := upd_get (o' := lstO [] 2) (f := Obj.mapSeq (·.pop)) hS3 (by simp [Obj.mapSeq]) rfl
  have kp2 : ∀ b o, s.heap.get? b = some o → ((((s.heap.push { cls := .type "list", data := .seq #[] }).update S (Obj.mapSeq (fun _ => (#[] : Array Value)))).update S (Obj.mapSeq (·.push Value.none))).update S (Obj.mapSeq (·.pop))).get? b = some o := fun b o e =>
    have nb := ne b (hSd ▸ Heap.lt_size e)
    (Heap.get?_update_other _ _ nb).trans ((Heap.get?_update_other _ _ nb).trans (kp b o e))
  have gS : g.get? S = none := hg.none (by rw [← hSd]; exact get_fresh _)
  refine wpAny_pure ⟨plainId_quiet PySem.F.plain_extend_loop _, zip_loop (A := A.in1) (R := wants (fun r s₂ => r = Value.none ∧ Q (.ref S) s₂) E) (s := s) hh hlen hsz ⟨by omega, by omega, by omega, by omega, by omega⟩ t1 t2 r1 r2 .none xs.length 0 g _ s.toks [] 2 .none false (Nat.sub_zero _) (Nat.zero_le _) (Le.refl _) (hg.trans kp2)
    (fun b z => ?_) ⟨kp2 _ _ Z.z, kp2 _ _ Z.ti, ?_, ?_, ?_⟩ (.inl rfl) hS4 rfl .nil fun gf hf tk acc c G e r => ⟨rfl, ?_⟩⟩
  · rcases z with z | z | z | z | z
    · exact off b (.inl z)
    · exact off b (.inr (.inl z))
    · exact off b (.inr (.inr (.inl z)))
    · exact off b (.inr (.inr (.inr z)))
    · subst z; exact gS
  · obtain ⟨a, b, q⟩ := Z.to; exact ⟨a, b, kp2 _ _ q⟩
  · obtain ⟨o, q, r⟩ := Z.i1; exact ⟨o, kp2 _ _ q, r⟩
  · obtain ⟨o, q, r⟩ := Z.i2; exact ⟨o, kp2 _ _ q, r⟩
  · exact hQ gf hf tk S acc c hSd.symm ⟨G.gg, G.gh, fun b o z q => G.hh b o z (kp2 b o q), fun b o z q y => G.fr b o z (kp2 b o q) y, G.off⟩ e r
end

theorem zx_ge {n S b k : Nat} (hk : k = n) (z : ZX n S b) (hS : n + 4 < S) : k ≤ b := by
  subst hk
  rcases z with rfl | rfl | rfl | rfl | rfl
  · exact Nat.le_refl _
  · exact Nat.le_add_right _ _
  · exact Nat.le_add_right _ _
  · exact Nat.le_add_right _ _
  · exact Nat.le_trans (Nat.le_add_right _ _) (Nat.le_of_lt hS)
theorem z5_ge {n b k : Nat} (hk : k = n) (z : b ∈ [n, n + 1, n + 2, n + 3, n + 4]) : k ≤ b := by
  subst hk
  simp only [List.mem_cons, List.not_mem_nil, or_false] at z
  omega
theorem z4_ge {n b k : Nat} (hk : k = n) (z : b = n ∨ b = n + 1 ∨ b = n + 3 ∨ b = n + 4) : k ≤ b := by omega

section
variable {prog : Program} {w : World} {A : Around} {env : Env} {m : Str → Option Value} {mu : Mu} {g : Heap} {mg mb : Str → Option Value}
/-- «zip(a, b)» upon tuples: how it is laid -/
theorem ev_zip {np pos : Pos} {a b : Expr} {ds es : List PyData} {s : Shared} {g₁ : Heap} {Q : Value → Shared → Prop} {E : Value → Shared → Prop} (W : Wd w mg mb g) (h1 : Ev prog w A env m mu g a (Da (.tuple ds))) (h2 : Ev prog w A env m mu g b (Da (.tuple es))) (hg : Le g g₁) (X : Sit env m mu g₁ s.heap)
    (k : ∀ (n l1 l2 : Nat) xs ys g' h₀ h' tk, Grow g₁ s.heap g' h₀ → n = h₀.objs.size → Le h₀ h' → Zip n l1 l2 .none false 0 h' → IsTup g' l1 xs.toArray → IsTup g' l2 ys.toArray → RdAll g' xs ds → RdAll g' ys es → Q (.ref (n + 4)) { s with heap := h', toks := tk })
    (he : starEach [a, b] env = (false, eval a env) :: starEach [b] env := by rfl) (he2 : starEach [b] env = (false, eval b env) :: starEach [] env := by rfl) (hpl : (backTo pos (starEach [b] env)).any (·.1) = false := by rfl)
    (hk : env.scope.kind = .function := by rfl) (hl : env.kindOf (PySem.Str.ofString "zip") = some .globalImplicit := by rfl) (hG : env.globals = mainGlobals := by rfl) (hB : env.builtins = builtinsNs := by rfl) :
    wpAny (model prog w) A (eval (.Call (.Name (PySem.Str.ofString "zip") np) [a, b] [] pos) env) Q E s :=
  wpAny_Call_NameR ((Tr.bltn (R := fun _ v => v = .type "zip") W (gb_zip w) bb_zip (by decide) (fun _ _ _ _ r => r) rfl hk hl hG hB (by decide)) s g₁ _ _ hg X fun v g1 h1' tk1 G1 r => by
    subst r
    refine PyProof.Rows.callWith_type1 (args_cons (h1 _ _ _ _ (hg.trans G1.gg) (X.grow G1) fun v2 g2 h2' tk2 G2 r2 => args_cons (h2 _ _ _ _ (hg.trans (G1.gg.trans G2.gg)) ((X.grow G1).grow G2) fun v3 g3 h3 tk3 G3 r3 => args_nil ?_) he2) he) he hpl
    obtain ⟨l1, xs, rfl, t1, ra⟩ := r2.tuple_inv
    obtain ⟨l2, ys, rfl, t2, rb⟩ := r3.tuple_inv
    refine call_zip (IsTup.le (G3.gg.trans G3.gh) t1) (IsTup.le G3.gh t2) fun h' n hn Z le => k n l1 l2 xs ys g3 h3 h' tk3 ((G1.trans G2).trans G3) hn le Z (IsTup.le G3.gg t1) t2 (ra.mono G3.gg) rb)

theorem Tr.list_zip {np lp zp pos : Pos} {a b : Expr} {ds es : List PyData} (W : Wd w mg mb g) (hh : A.handled = none) (h1 : Ev prog w A env m mu g a (Da (.tuple ds))) (h2 : Ev prog w A env m mu g b (Da (.tuple es))) (hlen : ds.length = es.length) (hsz : ds.length ≤ sizeLine)
    (he : starEach [a, b] env = (false, eval a env) :: starEach [b] env := by rfl) (he2 : starEach [b] env = (false, eval b env) :: starEach [] env := by rfl) (hpl : (backTo zp (starEach [b] env)).any (·.1) = false := by rfl)
    (he3 : starEach [.Call (.Name (PySem.Str.ofString "zip") np) [a, b] [] zp] env = (false, eval (.Call (.Name (PySem.Str.ofString "zip") np) [a, b] [] zp) env) :: starEach [] env := by rfl)
    (hk : env.scope.kind = .function := by rfl) (hl : env.kindOf (PySem.Str.ofString "zip") = some .globalImplicit := by rfl) (hl2 : env.kindOf (PySem.Str.ofString "list") = some .globalImplicit := by rfl) (hG : env.globals = mainGlobals := by rfl) (hB : env.builtins = builtinsNs := by rfl) :
    Ev prog w A env m mu g (.Call (.Name (PySem.Str.ofString "list") lp) [.Call (.Name (PySem.Str.ofString "zip") np) [a, b] [] zp] [] pos) (Da (.list (List.zipWith pairD ds es))) :=
  fun s g₁ Q E hg X k => wpAny_Call_NameR ((Tr.bltn (R := fun _ v => v = .type "list") W (gb_list w) bb_list (by decide) (fun _ _ _ _ r => r) rfl hk hl2 hG hB (by decide)) s g₁ _ _ hg X fun v g1 h1' tk1 G1 r => by
    subst r
    refine PyProof.Rows.callWith_type1 (args_cons (ev_zip (W.mono (hg.trans G1.gg)) (h1.mono (hg.trans G1.gg)) (h2.mono (hg.trans G1.gg)) (Le.refl g1) (X.grow G1) (fun n l1 l2 xs ys g2 h₀ h2 tk2 G2 hn le Z t1 t2 ra rb => args_nil ?_) he he2 hpl hk hl hG hB) he3) he3 (by rfl)
    have fr : ∀ b, h₀.objs.size ≤ b → g2.get? b = none := fun b hb => G2.gh.none (Heap.get?_none_of_le hb)
    refine Mine.list_zip hh Z (G2.gh.trans le) (fun b z => fr b (z4_ge hn.symm z)) (by rw [ra.length, rb.length, hlen]) (by rw [ra.length]; exact hsz) t1 t2 ra rb fun gf hf tk S acc c hS G e r => ?_
    have lt4 : n + 4 < S := by rw [hS]; exact Heap.lt_size Z.z
    have le3 : Le h₀ hf := fun b o q => by
      have hb := Heap.lt_size q
      exact G.hh b o (fun z => absurd hb (Nat.not_lt.mpr (zx_ge hn.symm z lt4))) (le b o q)
    have frf : ∀ b o, h₀.get? b = some o → g2.get? b = none → gf.get? b = none := fun b o q y => by
      have hb := Heap.lt_size q
      exact G.fr b o (fun z => absurd hb (Nat.not_lt.mpr (zx_ge hn.symm z lt4))) (le b o q) y
    obtain ⟨gq, q⟩ := ghost_ex G.gh e
    have gS : gf.get? S = none := G.off S (.inr (.inr (.inr (.inr rfl))))
    have gg : Le gf gq := fun b o z => by rw [q]; by_cases hb : b = S
                                          · subst hb; rw [gS] at z; cases z
                                          · rw [if_neg hb]; exact z
    refine k (.ref S) gq hf tk ((G1.trans G2).trans ⟨G.gg.trans gg, fun b o z => ?_, le3, fun b o z y => ?_⟩) (.list (vs := acc) (isList_of (n := c) (by rw [q, if_pos rfl])) (r.mono gg))
    · rw [q] at z; by_cases hb : b = S
      · subst hb; rw [if_pos rfl] at z; cases z; exact e
      · rw [if_neg hb] at z; exact G.gh b o z
    · have hb := Heap.lt_size z
      have hb2 := Heap.lt_size (le b o z)
      rw [q, if_neg (by intro y; have y' : b = S := y; rw [y'] at hb2; rw [hS] at hb2; exact absurd hb2 (Nat.lt_irrefl _))]; exact frf b o z y)

/-- the targets of a zip's walk -/
def TupT (e : Expr) : Prop := ∃ elts k pos, e = .Tuple elts k pos
theorem itr_zip {n l1 l2 : Nat} {xs ys : List Value} {ds es : List PyData} (hh : A.handled = none) (hlen : xs.length = ys.length) (t1 : IsTup g l1 xs.toArray) (t2 : IsTup g l2 ys.toArray) (r1 : RdAll g xs ds) (r2 : RdAll g ys es) (off : ∀ b ∈ [n, n + 1, n + 2, n + 3, n + 4], g.get? b = none) :
    Itr prog w A TupT g (n + 4) [n, n + 1, n + 2, n + 3, n + 4] (List.zipWith pairD ds es) (fun i h => (∃ f1, Zip n l1 l2 .none f1 i h) ∧ Le g h) (fun i v h => (∃ (P : Nat) (f1 : Bool), v = .ref P ∧ Zip n l1 l2 (rawInt P) f1 (i + 1) h) ∧ Le g h) where
  off := off
  has := fun i h ⟨⟨f1, Z⟩, _⟩ b hb => by
    simp only [List.mem_cons, List.not_mem_nil, or_false] at hb
    rcases hb with rfl | rfl | rfl | rfl | rfl
    · exact Z.dm _ (.inl rfl)
    · exact Z.dm _ (.inr (.inl rfl))
    · exact ⟨_, Z.ti⟩
    · exact Z.dm _ (.inr (.inr (.inl rfl)))
    · exact Z.dm _ (.inr (.inr (.inr rfl)))
  frame := fun i h h' ⟨⟨f1, Z⟩, _⟩ le k => by
    refine ⟨⟨f1, k _ (by simp) _ Z.z, k _ (by simp) _ Z.ti, ?_, ?_, ?_⟩, le⟩
    · obtain ⟨a, b, q⟩ := Z.to; exact ⟨a, b, k _ (by simp) _ q⟩
    · obtain ⟨o, q, r⟩ := Z.i1; exact ⟨o, k _ (by simp) _ q, r⟩
    · obtain ⟨o, q, r⟩ := Z.i2; exact ⟨o, k _ (by simp) _ q, r⟩
  item := fun i d s g₁ Q E hd ⟨⟨f1, Z⟩, _⟩ hg hg1 hoff k => by
    rw [List.getElem?_zipWith] at hd
    have nX : ∀ {l : Nat} {vs : Array Value}, IsTup g l vs → Off n l := fun t => by
      obtain ⟨o, e, _⟩ := t
      refine ⟨fun z => ?_, fun z => ?_, fun z => ?_, fun z => ?_⟩ <;> (subst z; rw [off _ (by simp)] at e; cases e)
    cases e1 : ds[i]? with
    | none => rw [e1] at hd; simp at hd
    | some d1 =>
      cases e2 : es[i]? with
      | none => rw [e1, e2] at hd; simp at hd
      | some d2 =>
        rw [e1, e2] at hd
        simp only [Option.some.injEq] at hd
        subst hd
        obtain ⟨x, hx, rx⟩ := r1.get e1
        obtain ⟨y, hy, ry⟩ := r2.get e2
        refine pyNext_zipA Z (nX t1) (nX t2) (IsTup.le (hg.trans hg1) t1) (IsTup.le (hg.trans hg1) t2) (x := x) (y := y) (by simpa using hx) (by simpa using hy) fun h' Z' hp keep => ?_
        obtain ⟨g2, G2, gp, _⟩ := grow_pair (X := (· ∈ [n, n + 1, n + 2, n + 3, n + 4])) hg1 hoff (fun b o z q => keep b o ⟨fun y => z (by subst y; simp), fun y => z (by subst y; simp), fun y => z (by subst y; simp), fun y => z (by subst y; simp)⟩ q) (fun b hb => by
          simp only [List.mem_cons, List.not_mem_nil, or_false] at hb
          rcases hb with rfl | rfl | rfl | rfl | rfl
          · exact Z'.dm _ (.inl rfl)
          · exact Z'.dm _ (.inr (.inl rfl))
          · exact ⟨_, Z'.ti⟩
          · exact Z'.dm _ (.inr (.inr (.inl rfl)))
          · exact Z'.dm _ (.inr (.inr (.inr rfl)))) hp
        exact k _ g2 h' _ G2 ⟨⟨_, false, rfl, Z'⟩, hg.trans (G2.gg.trans G2.gh)⟩ (.pair gp (rx.mono (hg.trans G2.gg)) (ry.mono (hg.trans G2.gg)))
  go := fun i v target s g₁ Q E ⟨elts, kk, pos, et⟩ ⟨⟨P, f1, ev, Z⟩, _⟩ hg hg1 hoff k => by
    subst et ev
    refine go_zip Z.z fun h' hz hs => ?_
    have kp : ∀ b o, b ≠ n + 4 → s.heap.get? b = some o → h'.get? b = some o := fun b o z q => hs.extBut b o z q
    have G := growX_of_same (fp := [n, n + 1, n + 2, n + 3, n + 4]) (it := n + 4) (by simp) hg1 (hoff _ (by simp)) kp ⟨_, hz⟩
    refine k h' G ⟨⟨f1, hz, kp _ _ (an _ _) Z.ti, ?_, ?_, ?_⟩, hg.trans G.gh⟩
    · obtain ⟨a, b, q⟩ := Z.to; exact ⟨a, b, kp _ _ (an _ _) q⟩
    · obtain ⟨o, q, r⟩ := Z.i1; exact ⟨o, kp _ _ (an _ _) q, r⟩
    · obtain ⟨o, q, r⟩ := Z.i2; exact ⟨o, kp _ _ (an _ _) q, r⟩
  done := fun s g₁ Q E ⟨⟨f1, Z⟩, _⟩ hg hg1 hoff k => by
    have nX : ∀ {l : Nat} {vs : Array Value}, IsTup g l vs → Off n l := fun t => by
      obtain ⟨o, e, _⟩ := t
      refine ⟨fun z => ?_, fun z => ?_, fun z => ?_, fun z => ?_⟩ <;> (subst z; rw [off _ (by simp)] at e; cases e)
    refine pyNext_zipE hh Z (.inl rfl) (nX t1) (nX t2) (IsTup.le (hg.trans hg1) t1) (IsTup.le (hg.trans hg1) t2) ?_ fun h' keep => k h' s.toks fun b o z q => keep b o ⟨fun y => z (by subst y; simp), fun y => z (by subst y; simp), fun y => z (by subst y; simp), fun y => z (by subst y; simp)⟩ q
    left
    rw [List.length_zipWith]
    simp [r1.length]
    have := r1.length; have := r2.length; omega
  self := fun s Q E ⟨⟨f1, Z⟩, _⟩ hQ => pyIter_zip Z.z hQ

theorem Ie.zip {np zp : Pos} {a b : Expr} {ds es : List PyData} (W : Wd w mg mb g) (hh : A.handled = none) (h1 : Ev prog w A env m mu g a (Da (.tuple ds))) (h2 : Ev prog w A env m mu g b (Da (.tuple es))) (hlen : ds.length = es.length)
    (he : starEach [a, b] env = (false, eval a env) :: starEach [b] env := by rfl) (he2 : starEach [b] env = (false, eval b env) :: starEach [] env := by rfl) (hpl : (backTo zp (starEach [b] env)).any (·.1) = false := by rfl)
    (hk : env.scope.kind = .function := by rfl) (hl : env.kindOf (PySem.Str.ofString "zip") = some .globalImplicit := by rfl) (hG : env.globals = mainGlobals := by rfl) (hB : env.builtins = builtinsNs := by rfl) :
    Ie prog w A TupT env m mu g (.Call (.Name (PySem.Str.ofString "zip") np) [a, b] [] zp) (List.zipWith pairD ds es) :=
  fun s g₁ Q E hg X k => ev_zip W h1 h2 hg X (fun n l1 l2 xs ys g2 h₀ h2 tk2 G2 hn le Z t1 t2 ra rb => by
    have fr : ∀ b, h₀.objs.size ≤ b → g2.get? b = none := fun b hb => G2.gh.none (Heap.get?_none_of_le hb)
    refine pyIter_zip Z.z ?_
    refine k _ _ _ _ g2 h2 tk2 (G2.trans (Grow.of_le G2.gh le)) (itr_zip hh (by rw [ra.length, rb.length, hlen]) t1 t2 ra rb fun b hb => ?_) ⟨⟨_, Z⟩, G2.gh.trans le⟩ fun b hb => ?_
    · exact fr b (z5_ge hn.symm hb)
    · have hb2 : h₀.objs.size ≤ b := z5_ge hn.symm hb
      cases q : s.heap.get? b with
      | none => rfl
      | some o => exact absurd (Heap.lt_size (G2.hh _ _ q)) (Nat.not_lt.mpr hb2)) he he2 hpl hk hl hG hB
end

end
section
open PySem PySem.W PySem.Spec PySem.Calls PyProof.Rows

theorem RdAll.take {g : Heap} : ∀ {k : Nat} {vs : List Value} {ds : List PyData}, RdAll g vs ds → RdAll g (vs.take k) (ds.take k)
  | 0, vs, ds, r => by rw [List.take_zero, List.take_zero]; exact .nil
  | k + 1, [], ds, r => by obtain ⟨_, r⟩ := r; cases r; exact .nil
  | k + 1, v :: vs, ds, r => by
    obtain ⟨d, ds', rfl, a, b⟩ := r.cons_inv
    exact .cons a b.take
theorem RdAll.drop {g : Heap} : ∀ {k : Nat} {vs : List Value} {ds : List PyData}, RdAll g vs ds → RdAll g (vs.drop k) (ds.drop k)
  | 0, vs, ds, r => r
  | k + 1, [], ds, r => by obtain ⟨_, r⟩ := r; cases r; exact .nil
  | k + 1, v :: vs, ds, r => by
    obtain ⟨d, ds', rfl, a, b⟩ := r.cons_inv
    exact b.drop
theorem RdAll.reverse {g : Heap} : ∀ {vs : List Value} {ds : List PyData}, RdAll g vs ds → RdAll g vs.reverse ds.reverse
  | [], ds, r => by obtain ⟨_, r⟩ := r; cases r; exact .nil
  | v :: vs, ds, r => by
    obtain ⟨d, ds', rfl, a, b⟩ := r.cons_inv
    rw [List.reverse_cons, List.reverse_cons]
    exact b.reverse.append (.cons a .nil)

section
variable {prog : Program} {w : World} {A : Around} {env : Env} {m : Str → Option Value} {mu : Mu} {g : Heap} {mg mb : Str → Option Value}
/-- a slice's part -/
def Pt (prog : Program) (w : World) (A : Around) (env : Env) (m : Str → Option Value) (mu : Mu) (g : Heap) (x : Option Expr) (p : Option Int) : Prop :=
  Tr prog w A env m mu g (evalPart x env) (fun _ v => IsPart v p)
theorem Pt.none : Pt prog w A env m mu g none none := fun s _ _ _ _ X k => wpAny_pure (k _ _ s.heap s.toks (Grow.refl X.gh) .none)
theorem Pt.int {e : Expr} {i : Int} (h : Ev prog w A env m mu g e (Da (.int i))) : Pt prog w A env m mu g (some e) (some i) :=
  Tr.weak h fun g v r => by obtain ⟨t, rfl⟩ := r.int_inv; exact .int _ _

theorem Tr.slice_list {value : Expr} {lower upper : Option Expr} {p pos : Pos} {ds ds' : List PyData} {lo hi : Option Int} (h : Ev prog w A env m mu g value (Da (.list ds))) (pl : Pt prog w A env m mu g lower lo) (pu : Pt prog w A env m mu g upper hi) (hsz : ds.length ≤ sizeLine)
    (hp : ∀ vs : List Value, vs.length = ds.length → ∀ g, RdAll g vs ds → RdAll g (slicePick vs.toArray lo hi none).toList ds')
    (ht : ∀ o r, letTemporaryGo value o r = pure () := by intro _ _; rfl) : Ev prog w A env m mu g (.Subscript value (.Slice lower upper none p) pos) (Da (.list ds')) :=
  fun s g₁ Q E hg X k => wpAny_Subscript_list_slice (h s g₁ _ _ hg X fun v g1 h1 tk1 G1 r1 => pl _ _ _ _ (hg.trans G1.gg) (X.grow G1) fun vl g2 h2 tk2 G2 r2 => pu _ _ _ _ (hg.trans (G1.gg.trans G2.gg)) ((X.grow G1).grow G2) fun vu g3 h3 tk3 G3 r3 => by
    obtain ⟨a, vs, rfl, hl, ra⟩ := (r1.mono (G2.gg.trans G3.gg)).list_inv
    refine ⟨a, vs.toArray, lo, hi, rfl, IsList.le G3.gh hl, by rw [List.size_toArray, ra.length]; exact hsz, r2, r3, ?_⟩
    have G4 := Grow.push0 G3.gh { cls := .type "slice", data := .fields #[vl, vu, .none] }
    obtain ⟨g5, G5, e⟩ := Grow.push G4.gh { cls := .type "list", data := .seq (slicePick vs.toArray lo hi none) } rfl
    rw [Heap.size_push] at e
    exact k _ g5 _ _ ((((G1.trans G2).trans G3).trans G4).trans G5) (.list (vs := (slicePick vs.toArray lo hi none).toList) ⟨_, e, rfl, 0, by simp⟩ ((hp vs ra.length _ ra).mono G5.gg))) ht
theorem Tr.slice_to {value e : Expr} {p pos : Pos} {ds : List PyData} {j : Nat} (h : Ev prog w A env m mu g value (Da (.list ds))) (h2 : Ev prog w A env m mu g e (Da (.int (j : Int)))) (hsz : ds.length ≤ sizeLine)
    (ht : ∀ o r, letTemporaryGo value o r = pure () := by intro _ _; rfl) : Ev prog w A env m mu g (.Subscript value (.Slice none (some e) none p) pos) (Da (.list (ds.take j))) :=
  Tr.slice_list h .none (.int h2) hsz (fun vs _ g r => by rw [slicePick_upto']; exact r.take) ht
theorem Tr.slice_from {value e : Expr} {p pos : Pos} {ds : List PyData} {j : Nat} (h : Ev prog w A env m mu g value (Da (.list ds))) (h2 : Ev prog w A env m mu g e (Da (.int (j : Int)))) (hsz : ds.length ≤ sizeLine)
    (ht : ∀ o r, letTemporaryGo value o r = pure () := by intro _ _; rfl) : Ev prog w A env m mu g (.Subscript value (.Slice (some e) none none p) pos) (Da (.list (ds.drop j))) :=
  Tr.slice_list h (.int h2) .none hsz (fun vs _ g r => by rw [slicePick_from']; exact r.drop) ht

theorem pick_rev (items : List Value) : (slicePick items.toArray none none (some (-1))).toList = items.reverse := by
  unfold slicePick
  have e : sliceBounds none none (some (-1)) items.toArray.size = ((items.length : Int) - 1, -1, -1) := by simp [sliceBounds]
  rw [e]
  have e2 : sliceRange ((items.length : Int) - 1) (-1) (-1) = (List.range items.length).map fun k => items.length - 1 - k := by
    unfold sliceRange
    by_cases h : items.length = 0
    · rw [h]; simp
    · have h1 : ¬ ((-1 : Int) > 0) := by omega
      have h2 : (items.length : Int) - 1 > -1 := by omega
      simp only [h1, h2, if_false, if_true]
      have e3 : (((items.length : Int) - 1 - (-1) - (-1) - 1) / -(-1)).toNat = items.length := by simp
      rw [e3]
      apply List.map_congr_left
      intro k hk
      have := List.mem_range.mp hk
      omega
  rw [e2, List.filterMap_map]
  apply List.ext_getElem?
  intro i
  have hl : ∀ k, k < items.length → items.toArray[items.length - 1 - k]? = some (items[items.length - 1 - k]!) := by
    intro k hk
    have : items.length - 1 - k < items.length := by omega
    simp [this]
  have e4 : (List.range items.length).filterMap ((fun x => items.toArray[x]?) ∘ fun k => items.length - 1 - k) = (List.range items.length).map fun k => items[items.length - 1 - k]! := by
    have main : ∀ l : List Nat, (∀ k ∈ l, k < items.length) → l.filterMap ((fun x => items.toArray[x]?) ∘ fun k => items.length - 1 - k) = l.map fun k => items[items.length - 1 - k]! := by
      intro l
      induction l with
      | nil => intro _; rfl
      | cons k l ih =>
        intro h
        have e5 : ((fun x => items.toArray[x]?) ∘ fun k => items.length - 1 - k) k = some (items[items.length - 1 - k]!) := hl k (h k (.head _))
        rw [List.map_cons, List.filterMap_cons_some e5, ih fun x hx => h x (.tail _ hx)]
    exact main _ fun k hk => List.mem_range.mp hk
  rw [List.toList_toArray, e4]
  by_cases hi : i < items.length
  · rw [List.getElem?_map, List.getElem?_range hi, List.getElem?_reverse hi]
    have : items.length - 1 - i < items.length := by omega
    simp [this]
  · rw [List.getElem?_eq_none (by simp; omega), List.getElem?_eq_none (by simp; omega)]
theorem Tr.slice_rev {value e : Expr} {p pos : Pos} {ds : List PyData} (h : Ev prog w A env m mu g value (Da (.list ds))) (h2 : Ev prog w A env m mu g e (Da (.int (-1)))) (hsz : ds.length ≤ sizeLine)
    (ht : ∀ o r, letTemporaryGo value o r = pure () := by intro _ _; rfl) : Ev prog w A env m mu g (.Subscript value (.Slice none none (some e) p) pos) (Da (.list ds.reverse)) :=
  fun s g₁ Q E hg X k => wpAny_Subscript_Slice_step (T := "list") list_getitem_lookup (h s g₁ _ _ hg X fun v g1 h1 tk1 G1 r1 => wpAny_Slice (wpAny_pure (wpAny_pure (h2 _ _ _ _ (hg.trans G1.gg) (X.grow G1) fun vs g3 h3 tk3 G3 r3 => by
    obtain ⟨t, rfl⟩ := r3.int_inv
    obtain ⟨a, vs, rfl, hl, ra⟩ := (r1.mono G3.gg).list_inv
    have G4 := Grow.push0 G3.gh { cls := .type "slice", data := .fields #[.none, .none, .int (-1) t] }
    have hl' := (IsList.le G3.gh hl).push { cls := .type "slice", data := .fields #[.none, .none, .int (-1) t] }
    refine ⟨hl'.typeIs, wpAny_getItem_list_slice hl' (Heap.IsSliceOf.new ..) .none .none (.int (-1) t) (by decide) ?_ (by rw [List.size_toArray, ra.length]; exact hsz)⟩
    obtain ⟨g5, G5, e⟩ := Grow.push G4.gh { cls := .type "list", data := .seq (slicePick vs.toArray none none (some (-1))) } rfl
    rw [Heap.size_push]
    rw [Heap.size_push] at e
    refine k _ g5 _ _ (((G1.trans G3).trans G4).trans G5) (.list (vs := (slicePick vs.toArray none none (some (-1))).toList) ⟨_, e, rfl, 0, by simp⟩ ?_)
    rw [pick_rev]
    exact (ra.mono G5.gg).reverse)))) ht

/-! ## a tuple's slice «t[:k]» -/
/-- the places of «t[:a]» -/
theorem cut_to {s : Shared} {E : Value → Shared → Prop} {sl : Addr} {a n : Nat} {u : Tok} {Q : Int × Int × Nat → Shared → Prop} (hs : s.heap.IsSliceOf sl .none (.int a u) .none) (ha : a ≤ n) (h : Q (0, 1, a) s) :
    wpAny (model prog w) A (Builtin.Slice.sliceApplied (.ref sl) (pure (n : Int))) Q E s := by
  have places : Builtin.Slice.sliceAdjust none (some (a : Int)) 1 (n : Int) = (0, (a : Int)) ∧ Builtin.Slice.slicePlaces 0 (a : Int) 1 = a := by
    constructor
    · simp only [Builtin.Slice.sliceAdjust]
      rw [if_neg (by decide), if_neg (by decide), if_neg (by omega), Int.min_eq_left (by omega)]
    · simp only [Builtin.Slice.slicePlaces]
      rw [if_pos (by decide)]
      split <;> simp <;> omega
  obtain ⟨o, ho, hc, hd⟩ := hs
  unfold Builtin.Slice.sliceApplied Builtin.Slice.sliceFields
  have e0 : (#[.none, .int a u, .none] : Array Value)[0]? = some .none := rfl
  have e1 : (#[.none, .int a u, .none] : Array Value)[1]? = some (.int a u) := rfl
  have e2 : (#[.none, .int a u, .none] : Array Value)[2]? = some .none := rfl
  wp_walk using wpAny_field ho hd e0, wpAny_field ho hd e1, wpAny_field ho hd e2, slicePart_none, slicePart_int
  show Q ((Builtin.Slice.sliceAdjust none (some (a : Int)) 1 n).1, 1, Builtin.Slice.slicePlaces (Builtin.Slice.sliceAdjust none (some (a : Int)) 1 n).1 (Builtin.Slice.sliceAdjust none (some (a : Int)) 1 n).2 1) s
  rwa [places.1, places.2]
theorem pick_upto (xs : Array Value) : ∀ a, a ≤ xs.size → (List.range a).filterMap (fun k : Nat => xs[((0 : Int) + (k : Int) * 1).toNat]?) = xs.toList.take a
  | 0, _ => rfl
  | a + 1, h => by
    have e : ((0 : Int) + (a : Int) * 1).toNat = a := by omega
    rw [List.range_succ, List.filterMap_append, pick_upto xs a (Nat.le_of_succ_le h), List.filterMap_cons, e, List.filterMap_nil, Array.getElem?_eq_getElem h, List.take_add_one, Array.getElem?_toList, Array.getElem?_eq_getElem h]
    rfl
theorem getItem_tuple_to {s : Shared} {E : Value → Shared → Prop} {t sl : Addr} {items : Array Value} {a : Nat} {u : Tok} {Q : Value → Shared → Prop} (ht : IsTup s.heap t items) (hs : s.heap.IsSliceOf sl .none (.int a u) .none) (ha : a < items.size)
    (h : Q (.ref s.heap.objs.size) { s with heap := s.heap.push { cls := .type "tuple", data := .seq (items.toList.take a).toArray } }) (hsz : items.size ≤ sizeLine) : wpAny (model prog w) A (getItem (.ref t) (.ref sl)) Q E s := by
  have T : s.TypeIs (.ref sl) "slice" := let ⟨o, e, c, _⟩ := hs; ⟨o, e, c⟩
  unfold getItem
  refine wpAny_holding (wpAny_bind (wpAny_sequenceKey ht.typeIs (by decide) (wpAny_bind (wpAny_callSpecial?_slot (name := Str.ofString "__getitem__") ht.typeIs slot_tuple_getitem (wpAny_call_entry slot_tuple_getitem ht.typeIs entry_tuple_getitem ?_ (args_tuple_getitem _ _))))))
  unfold Builtin.«tuple.__getitem__»
  wp_walk using tupleItemsOf_ ht, wpAny_typeOf T, cut_to hs (Nat.le_of_lt ha)
  rw [show (a == items.size) = false from beq_eq_false_iff_ne.mpr (Nat.ne_of_lt ha), Bool.and_false, if_neg Bool.false_ne_true, pick_upto items a (Nat.le_of_lt ha)]
  wp_walk using wpAny_newObj_type
  · exact ⟨_, rfl, wpAny_pure h⟩
  · show (items.toList.take a).toArray.size ≤ sizeLine
    rw [List.size_toArray, List.length_take]
    exact Nat.le_trans (Nat.min_le_left _ _) (Nat.le_trans (Nat.le_of_lt ha) hsz)
theorem Tr.slice_tuple {value e : Expr} {p pos : Pos} {ds : List PyData} {j : Nat} (h : Ev prog w A env m mu g value (Da (.tuple ds))) (h2 : Ev prog w A env m mu g e (Da (.int (j : Int)))) (hj : j < ds.length) (hsz : ds.length ≤ sizeLine)
    (ht : ∀ o r, letTemporaryGo value o r = pure () := by intro _ _; rfl) : Ev prog w A env m mu g (.Subscript value (.Slice none (some e) none p) pos) (Da (.tuple (ds.take j))) :=
  fun s g₁ Q E hg X k => wpAny_Subscript_Slice (T := "tuple") slot_tuple_getitem.lookup (h s g₁ _ _ hg X fun v g1 h1 tk1 G1 r1 => wpAny_Slice (wpAny_pure (h2 _ _ _ _ (hg.trans G1.gg) (X.grow G1) fun vs g3 h3 tk3 G3 r3 => wpAny_pure (by
    obtain ⟨t, rfl⟩ := r3.int_inv
    obtain ⟨a, vs, rfl, hl, ra⟩ := (r1.mono G3.gg).tuple_inv
    have G4 := Grow.push0 G3.gh { cls := .type "slice", data := .fields #[.none, .int (j : Int) t, .none] }
    have hl' : IsTup (h3.push { cls := .type "slice", data := .fields #[.none, .int (j : Int) t, .none] }) a vs.toArray := IsTup.le (G3.gh.trans (Le.push _ _)) hl
    refine ⟨hl'.typeIs, getItem_tuple_to hl' (Heap.IsSliceOf.new ..) (by rw [List.size_toArray, ra.length]; exact hj) ?_ (by rw [List.size_toArray, ra.length]; exact hsz)⟩
    obtain ⟨g5, G5, e⟩ := Grow.push G4.gh (tupO (vs.take j)) rfl
    exact k _ g5 _ _ (((G1.trans G3).trans G4).trans G5) (.tuple (isTup_of e) (ra.mono G5.gg).take))))) ht
end

end
section
open PySem PySem.W PySem.Spec PySem.Calls PyProof.Rows

section
variable {prog : Program} {w : World} {A : Around} {env : Env} {m : Str → Option Value} {mu : Mu} {g g₀ e₀ : Heap} {mg mb : Str → Option Value} {X : Addr → Prop} {s : Shared} {E : Value → Shared → Prop} {Q : Flow → Shared → Prop} {rest : List Stmt}
/-- «x, y = e» for a tuple that is no display -/
theorem St.unpack {elts : List Expr} {k : Nat} {tp pos : Pos} {value : Expr} {xs : List Str} {ds : List PyData} (hh : A.handled = none) (hn : Names env elts xs) (hnd : xs.Nodup) (hlen : xs.length = ds.length)
    (h : wpAny (model prog w) A (eval value env) (fun v s1 => ∃ g' h' tk mu', s1 = { s with heap := h', toks := tk } ∧ At X g₀ e₀ env m mu' g' h' ∧ Rd g' v (.tuple ds) ∧ (∀ m' h2 tk2, At X g₀ e₀ env m' mu' g' h2 → Bd g' m' (xs.zip ds) → (∀ y, y ∉ xs → m' y = m y) →
      wpAny (model prog w) A (execs rest env) Q E { s with heap := h2, toks := tk2 })) E s)
    (hs : swapsWithSole [.Tuple elts k tp] value pos.line env = pure false := by rfl) (hw : swappedStores [.Tuple elts k tp] value env = pure none := by rfl)
    (hp : (env.scope.kind == .class || (env.scope.kind == .module && env.locals != env.globals)) = false := by rfl) :
    wpAny (model prog w) A (execs (.Assign [.Tuple elts k tp] value pos :: rest) env) Q E s := by
  refine wpAny_execs_cons (Assign_Tuple (wpAny_mono h (fun v s1 q => ?_) fun _ _ x => x) hs hw)
  obtain ⟨g', h', tk, mu', rfl, a, r, kk⟩ := q
  refine (Asg.tuple (k := k) (pos := tp) hh hn hnd hlen hp) _ g' v m _ _ a.sit.drop r fun h2 tk2 m' G hns bd same => ?_
  refine kk m' h2 tk2 (a.frame G hns) bd fun y hy => same y fun z => hy ?_
  rw [List.map_fst_zip (Nat.le_of_eq hlen)] at z
  exact z
end

theorem zipWith_map {α : Type} (f : Fm → PyData) : ∀ a b : List Fm, List.zipWith pairD (a.map f) (b.map f) = (a.zip b).map fun p => pairD (f p.1) (f p.2)
  | [], _ => rfl
  | _ :: _, [] => rfl
  | x :: a, y :: b => by rw [List.map_cons, List.map_cons, List.zipWith_cons_cons, List.zip_cons_cons, List.map_cons, zipWith_map (α := α) f a b]
abbrev pD (p : Fm × Fm) : PyData := pairD (formD p.1) (formD p.2)
def nodesP (ps : List (Fm × Fm)) : Nat := (ps.map fun p => nodes p.1).sum
theorem nodesP_zip : ∀ a b : List Fm, nodesP (a.zip b) ≤ nodesAll a
  | [], _ => Nat.le_of_eq rfl
  | x :: a, [] => Nat.zero_le _
  | x :: a, y :: b => by
    have := nodesP_zip a b
    rw [List.zip_cons_cons]
    simp only [nodesP, List.map_cons, List.sum_cons, nodesAll] at *
    omega
theorem len_le_nodesP : ∀ ps : List (Fm × Fm), ps.length ≤ nodesP ps
  | [] => Nat.le_of_eq rfl
  | p :: ps => by
    have := len_le_nodesP ps
    have h := nodes_pos p.1
    simp only [nodesP, List.map_cons, List.sum_cons, List.length_cons] at *
    omega
theorem nodesP_append (a b : List (Fm × Fm)) : nodesP (a ++ b) = nodesP a + nodesP b := by simp [nodesP]
theorem noL_pair (p : Fm × Fm) : noL (pD p) = true := by
  show (noL (formD p.1) && (noL (formD p.2) && true)) = true
  rw [noL_form, noL_form]; rfl
theorem pairs_shaped {n : Nat} (hn : n ≤ 4) {ps : List (Fm × Fm)} (h : ∀ p ∈ ps, okF n p.1 = true ∧ okF n p.2 = true) : SeqAt.shaped (.list (ps.map pD)) = true := by
  have c : ∀ p ∈ ps, (pD p).canLay0 = true := fun p hp => by
    simp only [pD, pairD, PyData.canLay0, PyData.canLayAll0, (form_lay n _ (h p hp).1).1, (form_lay n _ (h p hp).2).1, Bool.and_self]
  have d : ∀ p ∈ ps, (pD p).depth ≤ 2 * n + 5 := fun p hp => by
    have h1 := (form_lay n _ (h p hp).1).2
    have h2 := (form_lay n _ (h p hp).2).2
    simp only [pD, pairD, PyData.depth, PyData.depthAll]
    omega
  refine shaped_of (n := 2 * n + 6) ?_ ?_ (by omega)
  · rw [PyData.canLay0]; exact canLay_all c
  · rw [PyData.depth]; have := depth_all d; omega
theorem eqv_int (a b : Int) : PyData.eqv (.int a) (.int b) = (a == b) := by rw [PyData.eqv]

section
variable {prog : Program} {w : World} {mg mb : Str → Option Value}
theorem is_same_spec {N : Nat} (hN : N ≤ 4) (f₁ f₂ : Fm) (hf₁ : okF N f₁ = true) (hf₂ : okF N f₂ = true) : Pure prog w mg mb 1 35 [formD f₁, formD f₂] (Da (.bool (sameF f₁ f₂))) := by
  intro A s g vs Q E hR W hg r k
  obtain ⟨v, u, rfl, r1, r2⟩ := r.two
  have hb := Nat.le_trans (nodes_le N f₁ hf₁) (bnd4 N hN)
  have hz := sizeLine_eq
  refine call_at (binds := [(S "one", v), (S "other", u)]) (mu := []) (X := NoX) hR W hg (fun _ h => nomatch h) rfl rfl rfl rfl rfl (by decide) (locs rfl) rfl rfl rfl fun L h₁ tk E' a hR' => ?_
  refine St.newlist a (ds := [pD (f₁, f₂)]) (SpE.cons (Tr.tuple (SpE.cons (Tr.name rfl (mono_da _) r1) (SpE.cons (Tr.name rfl (mono_da _) r2) SpE.nil))) SpE.nil) (by rw [noLs, noL_pair, noLs]; rfl) fun l us n0 g2 h2 tk2 a2 hg2 ru _ => ?_
  refine St.while (fun n m mu g' => ∃ l us n' ps, m (S "left") = some (.ref l) ∧ mu = [(l, lstO us n')] ∧ RdAll g' us (ps.map pD) ∧ (∀ p ∈ ps, okF N p.1 = true ∧ okF N p.2 = true) ∧ (ps.all fun p => sameF p.1 p.2) = sameF f₁ f₂ ∧ nodesP ps ≤ nodes f₁ ∧ n = nodesP ps ∧ Le g g')
    (nodesP [(f₁, f₂)]) a2 ⟨l, us, n0, [(f₁, f₂)], upd_self, rfl, ru, fun x hx => by rw [List.mem_singleton.mp hx]; exact ⟨hf₁, hf₂⟩, by simp, by simp [nodesP], rfl, hg2⟩ ?_
  rintro n m mu gW hW aW ⟨l, us, n', ps, m1, rfl, rf, hok, hall, hnod, rfl, leW⟩
  refine ⟨!(ps.map pD).isEmpty, Ts.mut_ne_nil hR' (Tr.ref m1) (.head _) rf (pairs_shaped hN hok), fun hb1 g3 h3 tk3 E3 a3 hg3 => ?_, fun hb1 g3 h3 tk3 a3 hg3 => ?_⟩
  · have hne : ps ≠ [] := by intro z; subst z; cases hb1
    obtain ⟨ps', ⟨⟨k1, l1, v1, as1, ks1⟩, ⟨k2, l2, v2, as2, ks2⟩⟩, rfl⟩ := last_split hne
    rw [List.map_append, List.map_cons, List.map_nil] at rf
    obtain ⟨us', ws, rfl, rf1, rf2⟩ := rf.split
    obtain ⟨y, rfl, ry⟩ := rf2.one
    have hlen := rf1.length
    rw [List.length_map] at hlen
    have hle := len_le_nodesP ps'
    rw [nodesP_append] at hnod
    have hlast : nodesP [(Fm.mk k1 l1 v1 as1 ks1, Fm.mk k2 l2 v2 as2 ks2)] = 1 + nodesAll ks1 := by simp [nodesP, nodes]
    rw [List.all_append] at hall
    simp only [List.all_cons, List.all_nil, Bool.and_true] at hall
    obtain ⟨ok1, ok2⟩ := hok _ (List.mem_append.mpr (.inr (.head _)))
    simp only at ok1 ok2
    have ry3 : Rd g3 y (.tuple [formD (.mk k1 l1 v1 as1 ks1), formD (.mk k2 l2 v2 as2 ks2)]) := ry.mono hg3
    obtain ⟨N', rfl⟩ : ∃ N', N = N' + 1 := by cases N with | zero => simp [okF] at ok1 | succ N' => exact ⟨N', rfl⟩
    have o1 := okF_succ ok1
    have o2 := okF_succ ok2
    have q1 := o1.klen; have q2 := o2.klen
    refine St.unpack (xs := [S "here", S "there"]) (ds := [formD (.mk k1 l1 v1 as1 ks1), formD (.mk k2 l2 v2 as2 ks2)]) hR'.hd (.cons rfl (.cons rfl .nil)) (by decide) rfl (ev_pop a3 m1 (fun _ h => nomatch h) (by omega) fun n5 h5 a5 => ⟨g3, h5, _, _, rfl, a5, ry3, fun m6 h6 tk6 a6 bd same => ?_⟩)
    have m1' : m6 (S "left") = some (.ref l) := (same _ (by decide)).trans m1
    obtain ⟨x1, e1, rx1⟩ := bd (S "here", formD (.mk k1 l1 v1 as1 ks1)) (.head _)
    obtain ⟨x2, e2, rx2⟩ := bd (S "there", formD (.mk k2 l2 v2 as2 ks2)) (.tail _ (.head _))
    replace e1 : m6 (S "here") = some x1 := e1
    replace e2 : m6 (S "there") = some x2 := e2
    rw [formD_mk] at rx1 rx2
    have W3 := W.mono (leW.trans hg3)
    refine St.ite (b := (!PyData.eqvAll (headD k1 l1 v1 as1) (headD k2 l2 v2 as2)) || ((!(((ks1.map formD).length : Int) == ((ks2.map formD).length : Int))) || false)) a6 (Ts.or ?_ fun _ => Ts.or ?_ fun _ => Ts.or_nil) (fun hb2 g7 h7 tk7 a7 hg7 => ?_) fun hb2 g7 h7 tk7 a7 hg7 => ?_
    · refine Ts.cmp (P := Da (.tuple (headD k1 l1 v1 as1))) (R := Da (.tuple (headD k2 l2 v2 as2))) ?_ (mono_da _) ?_ ?_
      · exact Tr.slice_tuple (j := 4) (Tr.name e1 (mono_da _) rx1) (Tr.glob W3 (gi_CHILDREN _) (mono_da _) (.int _ _)) (by show 4 < 5; decide) (by show 5 ≤ _; omega)
      · exact Tr.slice_tuple (j := 4) (Tr.name e2 (mono_da _) rx2) (Tr.glob W3 (gi_CHILDREN _) (mono_da _) (.int _ _)) (by show 4 < 5; decide) (by show 5 ≤ _; omega)
      · have := Cp.ne (prog := prog) (w := w) hR' (head_shaped o1) (head_shaped o2)
        rwa [PyData.eqv] at this
    · refine Ts.cmp (Tr.bcall W3 (gb_len _) bb_len (Bc.len_tuple (ds := ks1.map formD) (by rw [List.length_map]; omega)) (SpE.cons ?_ SpE.nil)) (mono_da _) (Tr.bcall W3 (gb_len _) bb_len (Bc.len_tuple (ds := ks2.map formD) (by rw [List.length_map]; omega)) (SpE.cons ?_ SpE.nil)) ?_
      · exact Tr.sub_tuple (j := 4) (Tr.name e1 (mono_da _) rx1) (Tr.glob W3 (gi_CHILDREN _) (mono_da _) (.int _ _)) (by decide) (by decide) rfl rfl
      · exact Tr.sub_tuple (j := 4) (Tr.name e2 (mono_da _) rx2) (Tr.glob W3 (gi_CHILDREN _) (mono_da _) (.int _ _)) (by decide) (by decide) rfl rfl
      · have := Cp.ne (prog := prog) (w := w) hR' (int_shaped ((ks1.map formD).length : Int)) (int_shaped ((ks2.map formD).length : Int))
        rwa [eqv_int] at this
    · refine St.ret a7 (R := Da (.bool false)) Tr.const_bool fun v g' h' tk a r => ?_
      have : sameF f₁ f₂ = false := by
        rw [← hall, sameF]
        rcases Bool.or_eq_true_iff.mp hb2 with z | z
        · rw [Bool.not_eq_true'] at z; rw [z]; simp
        · rw [sameAll_len (fun y => by simp [y] at z)]; simp
      rw [this] at k
      exact k _ _ _ _ a.done0 r
    · simp only [Bool.or_eq_false_iff, Bool.not_eq_eq_eq_not, Bool.not_false, Bool.or_false, beq_iff_eq, List.length_map, Int.ofNat_inj] at hb2
      obtain ⟨hb2, hb3⟩ := hb2
      refine St.nil ?_
      dsimp only
      have W7 := W3.mono hg7
      refine St.extend (ds := List.zipWith pairD (ks1.map formD) (ks2.map formD)) (fun g us => us = us' ∧ RdAll g us (ps'.map pD)) a7 m1' (fun _ h => nomatch h) (fun Q' kk => ?_) fun us ws n2 g9 h9 tk9 a9 hg9 rw_ hp => St.nil ?_
      · refine (Tr.list_zip (m := m6) W7 hR'.hd (ds := ks1.map formD) (es := ks2.map formD) ?_ ?_ (by rw [List.length_map, List.length_map]; exact hb3) (by rw [List.length_map]; omega)) _ g7 _ _ (Le.refl _) a7.sit fun v g8 h8 tk8 G8 r8 => ?_
        · exact Tr.sub_tuple (j := 4) (Tr.name e1 (mono_da _) (rx1.mono hg7)) (Tr.glob W7 (gi_CHILDREN _) (mono_da _) (.int _ _)) (by decide) (by decide) rfl rfl
        · exact Tr.sub_tuple (j := 4) (Tr.name e2 (mono_da _) (rx2.mono hg7)) (Tr.glob W7 (gi_CHILDREN _) (mono_da _) (.int _ _)) (by decide) (by decide) rfl rfl
        · obtain ⟨xa, xvs, rfl, _, _⟩ := r8.list_inv
          refine kk xa us' n5 g8 h8 tk8 (a7.grow G8) G8.gg ?_ (.inr r8) ⟨rfl, rf1.mono (hg3.trans (hg7.trans G8.gg))⟩
          rw [List.length_zipWith, List.length_map, List.length_map]
          omega
      · obtain ⟨rfl, rus⟩ := hp
        rw [zipWith_map (α := Unit)] at rw_
        have hz1 := nodesP_zip ks1 ks2
        refine ⟨nodesP (ps' ++ ks1.zip ks2), m6, _, g9, h9, tk9, rfl, ?_, a9, l, us ++ ws, n2, ps' ++ ks1.zip ks2, m1', rfl, ?_, fun x hx => ?_, ?_, ?_, rfl, leW.trans (hg3.trans (hg7.trans hg9))⟩
        · rw [nodesP_append, nodesP_append, hlast]; omega
        · rw [List.map_append]; exact rus.append rw_
        · rcases List.mem_append.mp hx with hx | hx
          · exact hok x (List.mem_append.mpr (.inl hx))
          · obtain ⟨xa, xb⟩ := x
            obtain ⟨z1, z2⟩ := List.of_mem_zip hx
            exact ⟨okF_mono _ _ (o1.kids _ z1), okF_mono _ _ (o2.kids _ z2)⟩
        · rw [List.all_append, ← hall, sameF, hb2, Bool.true_and, sameAll_zip hb3]
        · rw [nodesP_append]; omega
  · have hne : ps = [] := by cases ps with | nil => rfl | cons => cases hb1
    subst hne
    rw [← hall] at k
    refine St.ret a3 (R := Da (.bool true)) Tr.const_bool fun v g' h' tk a r => k _ _ _ _ (a.done0) r
end

end
section
open PySem PySem.W PySem.Spec PySem.Calls PyProof.Rows
section
variable {prog : Program} {w : World} {mg mb : Str → Option Value}
theorem are_same_spec {N : Nat} (hN : N ≤ 4) (ks₁ ks₂ : List Fm) (hk₁ : ∀ f ∈ ks₁, okF N f = true) (hk₂ : ∀ f ∈ ks₂, okF N f = true) (hl₁ : ks₁.length ≤ 1000) (hl₂ : ks₂.length ≤ 1000) :
    Pure prog w mg mb 2 40 [.tuple (ks₁.map formD), .tuple (ks₂.map formD)] (Da (.bool (sameAll ks₁ ks₂))) := by
  intro A s g vs Q E hR W hg r k
  obtain ⟨v, u, rfl, r1, r2⟩ := r.two
  have hz := sizeLine_eq
  refine call_at (binds := [(S "some", v), (S "others", u)]) (mu := []) (X := NoX) hR W hg (fun _ h => nomatch h) rfl rfl rfl rfl rfl (by decide) (locs rfl) rfl rfl rfl fun L h₁ tk E' a hR' => ?_
  have e : sameAll ks₁ ks₂ = ((((ks₁.map formD).length : Int) == ((ks₂.map formD).length : Int)) && ((ks₁.zip ks₂).map fun p => sameF p.1 p.2).all id) := by
    by_cases h : ks₁.length = ks₂.length
    · rw [sameAll_zip h]; simp [h]
    · rw [sameAll_len h]
      have : (((ks₁.map formD).length : Int) == ((ks₂.map formD).length : Int)) = false := by simp; omega
      rw [this]; rfl
  rw [e] at k
  refine St.ret a (R := Da (.bool ((((ks₁.map formD).length : Int) == ((ks₂.map formD).length : Int)) && ((ks₁.zip ks₂).map fun p => sameF p.1 p.2).all id))) ?_ fun v g' h' tk a r => k _ _ _ _ a.done0 r
  refine Tr.and2 ?_ fun hb => ?_
  · refine Tr.cmp (Tr.bcall W (gb_len _) bb_len (Bc.len_tuple (ds := ks₁.map formD) (by rw [List.length_map]; omega)) (SpE.cons (by tb_rel) SpE.nil)) (mono_da _) (Tr.bcall W (gb_len _) bb_len (Bc.len_tuple (ds := ks₂.map formD) (by rw [List.length_map]; omega)) (SpE.cons (by tb_rel) SpE.nil)) ?_
    have := Cp.eq (prog := prog) (w := w) hR' (int_shaped ((ks₁.map formD).length : Int)) (int_shaped ((ks₂.map formD).length : Int))
    rwa [eqv_int] at this
  · have hlen : ks₁.length = ks₂.length := by
      have := beq_iff_eq.mp hb
      rw [List.length_map, List.length_map] at this
      exact Int.ofNat.inj this
    refine Tr.bcall W (gb_all _) bb_all (Bc.all (ns := (ks₁.zip ks₂).map fun p => sameF p.1 p.2) hR'.hd) (SpE.cons ?_ SpE.nil)
    rw [List.map_map]
    refine Tr.comp0 (cl := []) pD (fun p => [(S "one", formD p.1), (S "other", formD p.2)]) _ (T := TupT) ?_ ⟨_, _, _, rfl⟩ (by rw [List.length_zip]; omega)
      (fun C d hd => ?_) (fun C d g' m' hd hg' bd => ?_) rfl (by decide) rfl (by decide)
    · rw [← zipWith_map (α := Unit)]
      exact Ie.zip W hR'.hd (by tb_rel) (by tb_rel) (by rw [List.length_map, List.length_map]; exact hlen)
    · exact Asg.tuple (xs := [S "one", S "other"]) (ds := [formD d.1, formD d.2]) hR'.hd (.cons rfl (.cons rfl .nil)) (by decide) rfl rfl
    · obtain ⟨v1, hv1, rv1⟩ := bd _ (.head _)
      obtain ⟨v2, hv2, rv2⟩ := bd _ (.tail _ (.head _))
      replace hv1 : m' (S "one") = some v1 := hv1
      replace hv2 : m' (S "other") = some v2 := hv2
      obtain ⟨d1, d2⟩ := d
      obtain ⟨z1, z2⟩ := List.of_mem_zip hd
      exact Tr.call (W.mono hg') hR' (gf_is_same _) (gd_is_same _) (is_same_spec hN d1 d2 (hk₁ _ z1) (hk₂ _ z2)) (SpE.cons (Tr.name hv1 (mono_da _) rv1) (SpE.cons (Tr.name hv2 (mono_da _) rv2) SpE.nil))
end

end
section
open PySem PySem.W PySem.Spec PySem.Calls PyProof.Rows

section
variable {prog : Program} {w : World} {A : Around} {env : Env} {m : Str → Option Value} {mu : Mu} {g g₀ e₀ : Heap} {mg mb : Str → Option Value} {X : Addr → Prop} {s : Shared} {h0 : Heap} {G0 : Array GenState} {D0 : Drawn} {T0 : Nat} {O0 : OsState} {E : Value → Shared → Prop} {Q : Flow → Shared → Prop} {rest : List Stmt}
/-- «xs[i] = e» -/
theorem St.setitem' {x : Str} {np sp pos : Pos} {idx value : Expr} {l : Addr} (hv : m x = some (.ref l))
    (h : wpAny (model prog w) A (eval value env) (fun v s1 => ∃ g' h' tk mu' vs n i j, s1 = (Shared.mk h' G0 D0 tk O0) ∧ At X g₀ e₀ env m ((l, lstO vs n) :: mu') g' h' ∧ (∀ p ∈ mu', p.1 ≠ l) ∧ Ev prog w A env m ((l, lstO vs n) :: mu') g' idx (Da (.int i)) ∧
      Builtin.List.listFitsIndex i = true ∧ seqIndex? i vs.length = some j ∧ j < vs.length ∧ (∀ g2 h2 tk2, Le g' g2 → At X g₀ e₀ env m ((l, lstO (vs.set j v) n) :: mu') g2 h2 → wpAny (model prog w) A (execs rest env) Q E (Shared.mk h2 G0 D0 tk2 O0))) E (Shared.mk h0 G0 D0 T0 O0))
    (hs : swapsWith value (some (.Subscript (.Name x np) idx sp)) pos.line env = pure false := by rfl) (hk : env.scope.kind = .function := by rfl) (hl : env.kindOf x = some .local := by rfl) (hd : (x == ("__debug__" : Str)) = false := by decide) :
    wpAny (model prog w) A (execs (.Assign [.Subscript (.Name x np) idx sp] value pos :: rest) env) Q E (Shared.mk h0 G0 D0 T0 O0) := by
  refine wpAny_execs_cons (wpAny_Assign_Subscript (wpAny_mono h (fun v s1 q => ?_) fun _ _ z => z) hs)
  obtain ⟨g', h', tk, mu', vs, n, i, j, rfl, a, hd', hi, hfit, hj, hlt, kk⟩ := q
  refine wpAny_Name (wpAny_loadName_local hk hl a.sit.ns hv ?_) hd
  refine hi _ g' _ _ (Le.refl _) a.sit fun u g2 h2 tk2 G r => ?_
  obtain ⟨t, rfl⟩ := r.int_inv
  have a2 := a.grow G
  exact l_set (a2.get (.head _)) hfit hj hlt fun h3 e3 s3 => kk g2 h3 tk2 G.gg (a2.turn hd' s3 e3)
theorem St.setitem {x : Str} {np sp pos : Pos} {idx value : Expr} {l : Addr} {vs : List Value} {n : Nat} {i : Int} {j : Nat} {d : PyData} (a : At X g₀ e₀ env m ((l, lstO vs n) :: mu) g h0) (hv : m x = some (.ref l)) (hd : ∀ p ∈ mu, p.1 ≠ l)
    (h : Ev prog w A env m ((l, lstO vs n) :: mu) g value (Da d)) (hi : Ev prog w A env m ((l, lstO vs n) :: mu) g idx (Da (.int i))) (hfit : Builtin.List.listFitsIndex i = true) (hj : seqIndex? i vs.length = some j) (hlt : j < vs.length)
    (k : ∀ v g2 h2 tk2, Le g g2 → Rd g2 v d → At X g₀ e₀ env m ((l, lstO (vs.set j v) n) :: mu) g2 h2 → wpAny (model prog w) A (execs rest env) Q E (Shared.mk h2 G0 D0 tk2 O0))
    (hs : swapsWith value (some (.Subscript (.Name x np) idx sp)) pos.line env = pure false := by rfl) (hk : env.scope.kind = .function := by rfl) (hl : env.kindOf x = some .local := by rfl) (hdb : (x == ("__debug__" : Str)) = false := by decide) :
    wpAny (model prog w) A (execs (.Assign [.Subscript (.Name x np) idx sp] value pos :: rest) env) Q E (Shared.mk h0 G0 D0 T0 O0) :=
  St.setitem' hv (h (Shared.mk h0 G0 D0 T0 O0) g _ _ (Le.refl g) a.sit fun v g' h' tk G r => ⟨g', h', tk, mu, vs, n, i, j, rfl, a.grow G, hd, hi.mono G.gg, hfit, hj, hlt, fun g2 h2 tk2 le a2 => k v g2 h2 tk2 (G.gg.trans le) (r.mono le) a2⟩) hs hk hl hdb
/-- «return xs» for a list of one's own -/
theorem St.retlist {x : Str} {np pos : Pos} {l : Addr} {vs : List Value} {n : Nat} {ds : List PyData} (a : At NoX g₀ e₀ env m [(l, lstO vs n)] g h0) (hv : m x = some (.ref l)) (r : RdAll g vs ds)
    (k : ∀ g' h' tk, Grow g₀ e₀ g' h' → Rd g' (.ref l) (.list ds) → Q (.ret (.ref l)) (Shared.mk h' G0 D0 tk O0))
    (hk : env.scope.kind = .function := by rfl) (hl : env.kindOf x = some .local := by rfl) (hdb : (x == ("__debug__" : Str)) = false := by decide) :
    wpAny (model prog w) A (execs (.Return (some (.Name x np)) pos :: rest) env) Q E (Shared.mk h0 G0 D0 T0 O0) := by
  refine St.ret a (R := fun g v => v = .ref l ∧ RdAll g vs ds) (Tr.name hv (fun _ _ _ x q => ⟨q.1, q.2.mono x⟩) ⟨rfl, r⟩ hk hl hdb) fun v g' h' tk a' r' => ?_
  obtain ⟨rfl, rr⟩ := r'
  obtain ⟨g2, hg2, e, a2⟩ := a'.freeze ((a'.mu _ (.head _)).2.elim (fun z => z.elim) id) (fun _ h => nomatch h)
  exact k g2 h' tk a2.done0 (.list (isList_of e) (rr.mono hg2))
end

end
section
open PySem PySem.W PySem.Spec PySem.Calls PyProof.Rows

/-! ## texts joined -/
def textF (x : Str) : Fm := .mk (S "text") none x [] []
theorem textF_form (x : Str) : formD (textF x) = textForm x := by rw [textF, formD_mk]; rfl
def isText (f : Fm) : Bool := f.kind == S "text"
def lastText (acc : List Fm) : Bool := match acc.getLast? with | some f => isText f | none => false
def stepF (acc : List Fm) (c : Fm) : List Fm :=
  if isText c then
    if lastText acc then acc.dropLast ++ [textF ((acc.getLast?.map Fm.value).getD (S "") ++ c.value)]
    else if c.value == S "" then acc else acc ++ [c]
  else acc ++ [c]
def joinF (cs : List Fm) : List Fm := cs.foldl stepF []
def sumV (cs : List Fm) : Nat := (cs.map fun f => f.value.length).sum
theorem sumV_append (a b : List Fm) : sumV (a ++ b) = sumV a + sumV b := by simp [sumV]
theorem str_len (a b : Str) : (a ++ b).length = a.length + b.length := by simp [PySem.Str.length, show (a ++ b).cps = a.cps ++ b.cps from rfl]
theorem last_cases (acc : List Fm) : (lastText acc = false) ∨ ∃ a f, acc = a ++ [f] ∧ isText f = true := by
  unfold lastText
  rcases List.eq_nil_or_concat acc with rfl | ⟨a, f, rfl⟩
  · exact .inl rfl
  · rw [List.concat_eq_append, List.getLast?_concat]
    cases h : isText f with
    | false => exact .inl h
    | true => exact .inr ⟨a, f, rfl, h⟩
theorem stepF_last {a : List Fm} {f c : Fm} (hc : isText c = true) (hf : isText f = true) : stepF (a ++ [f]) c = a ++ [textF (f.value ++ c.value)] := by
  simp [stepF, hc, lastText, hf]
theorem stepF_text {acc : List Fm} {c : Fm} (hc : isText c = true) (h : lastText acc = false) : stepF acc c = if c.value == S "" then acc else acc ++ [c] := by
  simp [stepF, hc, h]
theorem stepF_other {acc : List Fm} {c : Fm} (hc : isText c = false) : stepF acc c = acc ++ [c] := by simp [stepF, hc]
theorem stepF_sum (acc : List Fm) (c : Fm) : sumV (stepF acc c) ≤ sumV acc + c.value.length := by
  cases hc : isText c with
  | false => rw [stepF_other hc, sumV_append]; simp [sumV]
  | true =>
    rcases last_cases acc with h | ⟨a, f, rfl, hf⟩
    · rw [stepF_text hc h]
      split
      · omega
      · rw [sumV_append]; simp [sumV]
    · rw [stepF_last hc hf, sumV_append, sumV_append]
      simp [sumV, textF, Fm.value, str_len]
      omega
theorem stepF_len (acc : List Fm) (c : Fm) : (stepF acc c).length ≤ acc.length + 1 := by
  cases hc : isText c with
  | false => rw [stepF_other hc]; simp
  | true =>
    rcases last_cases acc with h | ⟨a, f, rfl, hf⟩
    · rw [stepF_text hc h]; split <;> simp
    · rw [stepF_last hc hf]; simp
theorem le_sumV {acc : List Fm} {f : Fm} (h : f ∈ acc) : f.value.length ≤ sumV acc := by
  induction acc with
  | nil => cases h
  | cons x r ih =>
    simp only [sumV, List.map_cons, List.sum_cons] at *
    rcases List.mem_cons.mp h with rfl | h
    · omega
    · have := ih h; omega
theorem strOk_append {a b : Str} (ha : PyData.strOk a = true) (hb : PyData.strOk b = true) : PyData.strOk (a ++ b) = true := by
  have e : (a ++ b).cps = a.cps ++ b.cps := rfl
  unfold PyData.strOk at *
  rw [e, Array.all_append, ha, hb]; rfl
theorem tok_S : tok (S "text") = true ∧ tok (S "") = true := ⟨by decide +kernel, by decide +kernel⟩
theorem textF_ok {n : Nat} {x : Str} (h : tok x = true) : okF (n + 1) (textF x) = true := by
  simp [textF, okF, tok_S.1, h]
theorem stepF_ok {N : Nat} {acc : List Fm} {c : Fm} (h : ∀ f ∈ acc, okF N f = true) (hc : okF N c = true) (hs : sumV acc + c.value.length ≤ 1000) : ∀ f ∈ stepF acc c, okF N f = true := by
  cases ht : isText c with
  | false =>
    rw [stepF_other ht]; intro f hf; rcases List.mem_append.mp hf with hf | hf
    · exact h f hf
    · rw [List.mem_singleton.mp hf]; exact hc
  | true =>
    rcases last_cases acc with hl | ⟨a, l, rfl, hl⟩
    · rw [stepF_text ht hl]
      split
      · exact h
      · intro f hf; rcases List.mem_append.mp hf with hf | hf
        · exact h f hf
        · rw [List.mem_singleton.mp hf]; exact hc
    · rw [stepF_last ht hl]
      intro f hf; rcases List.mem_append.mp hf with hf | hf
      · exact h f (List.mem_append.mpr (.inl hf))
      · rw [List.mem_singleton.mp hf]
        have hl := h l (List.mem_append.mpr (.inr (.head _)))
        cases N with
        | zero => cases c; simp [okF] at hc
        | succ M =>
          refine textF_ok ?_
          obtain ⟨k1, l1, v1, as1, ks1⟩ := l
          obtain ⟨k2, l2, v2, as2, ks2⟩ := c
          have o1 := okF_succ hl
          have o2 := okF_succ hc
          rw [sumV_append] at hs
          simp only [sumV, List.map_cons, List.map_nil, List.sum_cons, List.sum_nil, Fm.value] at hs
          show tok (v1 ++ v2) = true
          unfold tok
          rw [strOk_append (tok_ok o1.value) (tok_ok o2.value), str_len]
          simp; omega
theorem fold_take {α β : Type} {f : β → α → β} {b : β} {l : List α} {i : Nat} {d : α} (h : l[i]? = some d) : (l.take (i + 1)).foldl f b = f ((l.take i).foldl f b) d := by
  rw [take_succ_get h, List.foldl_append]; rfl
theorem join_take {N : Nat} {cs : List Fm} (h : ∀ f ∈ cs, okF N f = true) (hs : sumV cs ≤ 1000) : ∀ i, (∀ f ∈ (cs.take i).foldl stepF [], okF N f = true) ∧ sumV ((cs.take i).foldl stepF []) ≤ sumV (cs.take i) ∧ ((cs.take i).foldl stepF []).length ≤ i
  | 0 => by simp [sumV]
  | i + 1 => by
    obtain ⟨h1, h2, h3⟩ := join_take h hs i
    by_cases hi : i < cs.length
    · obtain ⟨c, hc⟩ : ∃ c, cs[i]? = some c := ⟨cs[i], by simp [hi]⟩
      have e : sumV (cs.take (i + 1)) = sumV (cs.take i) + c.value.length := by rw [take_succ_get hc, sumV_append]; simp [sumV]
      have e2 : sumV (cs.take (i + 1)) ≤ sumV cs := by
        have := sumV_append (cs.take (i + 1)) (cs.drop (i + 1))
        rw [List.take_append_drop] at this
        omega
      rw [fold_take hc]
      refine ⟨stepF_ok h1 (h c (List.mem_of_getElem? hc)) (by omega), ?_, ?_⟩
      · have := stepF_sum ((cs.take i).foldl stepF []) c; omega
      · have := stepF_len ((cs.take i).foldl stepF []) c; omega
    · rw [List.take_of_length_le (by omega)]
      rw [List.take_of_length_le (by omega)] at h1 h2 h3
      exact ⟨h1, h2, by omega⟩
theorem joinF_ok {N : Nat} {cs : List Fm} (h : ∀ f ∈ cs, okF N f = true) (hs : sumV cs ≤ 1000) : ∀ f ∈ joinF cs, okF N f = true := by
  have := (join_take h hs cs.length).1
  rwa [List.take_length] at this
theorem joinF_len {N : Nat} {cs : List Fm} (h : ∀ f ∈ cs, okF N f = true) (hs : sumV cs ≤ 1000) : (joinF cs).length ≤ cs.length := by
  have := (join_take h hs cs.length).2.2
  rwa [List.take_length] at this

/-! ## the iterator's data, put back -/
theorem last_index {n : Nat} : seqIndex? (-1) (n + 1) = some n := by
  unfold seqIndex?
  simp
  omega
theorem for_fin {I : (Str → Option Value) → Mu → Heap → Prop} {s : Shared} {as : List Addr} {mu : Mu} {g e g' h' : Heap} {env : Env} {m : Str → Option Value} {tk' : Tok} (a : At (· ∈ as) g e env m mu g' h') (has : mu.map (·.1) = as) (hI : I m mu g') :
    ∃ m2 mu2 g2 h2 tk2, ({ s with heap := h', toks := tk' } : Shared) = { s with heap := h2, toks := tk2 } ∧ At (· ∈ as) g e env m2 mu2 g2 h2 ∧ mu2.map (·.1) = as ∧ I m2 mu2 g2 := ⟨m, mu, g', h', tk', rfl, a, has, hI⟩
theorem Ts.congr {prog : Program} {w : World} {A : Around} {env : Env} {m : Str → Option Value} {mu : Mu} {g : Heap} {e : Expr} {a b : Bool} (h : Ts prog w A env m mu g e a) (x : a = b) : Ts prog w A env m mu g e b := x ▸ h
theorem set_last {α : Type} (a : List α) (x y : α) : (a ++ [x]).set a.length y = a ++ [y] := by simp

section
variable {prog : Program} {w : World} {mg mb : Str → Option Value}
theorem joined_spec {N : Nat} (hN : N ≤ 4) (cs : List Fm) (hok : ∀ f ∈ cs, okF N f = true) (hs : sumV cs ≤ 1000) (hlen : cs.length ≤ 1000) :
    Pure prog w mg mb 2 54 [.tuple (cs.map formD)] (Da (.list ((joinF cs).map formD))) := by
  intro A s g vs Q E hR W hg r k
  obtain ⟨v, rfl, r1⟩ := r.one
  have hz := sizeLine_eq
  refine call_at (binds := [(S "children", v)]) (mu := []) (X := NoX) hR W hg (fun _ h => nomatch h) rfl rfl rfl rfl rfl (by decide) (locs rfl) rfl rfl rfl fun L h₁ tk E' a hR' => ?_
  refine St.newlist a (ds := []) SpE.nil rfl fun l us n0 g2 h2 tk2 a2 hg2 ru _ => ?_
  obtain rfl := ru.nil_inv
  refine St.for (xs := cs.map formD) (T := fun _ => True) (fun i m mu g' => ∃ l us n, m (S "found") = some (.ref l) ∧ mu = [(l, lstO us n)] ∧ RdAll g' us (((cs.take i).foldl stepF []).map formD)) (fun d => [(S "child", d)]) [l] a2
    (Ie.tuple hR'.hd (Tr.name rfl (mono_da _) (r1.mono hg2))) trivial rfl (fun d _ => Asg.name rfl rfl) ⟨l, [], n0, upd_self, rfl, .nil⟩ (fun i m mu g g' le ⟨l, us, n, e1, e2, e3⟩ => ⟨l, us, n, e1, e2, e3.mono le⟩) ?_ ?_
  · rintro i d m mu g3 h3 tk3 E3 m3 e3 hd ⟨l', us, n, m1, rfl, ru⟩ has hg3 bd same a3
    obtain rfl : l' = l := by simpa using has
    have W3 := W.mono hg3
    simp only [List.getElem?_map, Option.map_eq_some_iff] at hd
    obtain ⟨c, hc, rfl⟩ := hd
    obtain ⟨j1, j2, j3⟩ := join_take hok hs i
    have hcok := hok c (List.mem_of_getElem? hc)
    have step := fold_take (f := stepF) (b := []) hc
    have hi : i < cs.length := by obtain ⟨z, _⟩ := List.getElem?_eq_some_iff.mp hc; exact z
    generalize hacc : (cs.take i).foldl stepF [] = acc at ru j1 j2 j3 step
    have m1' : m3 (S "found") = some (.ref l') := (same _ (show S "found" ∉ [S "child"] by decide)).trans m1
    obtain ⟨v3, e1, rv⟩ := bd (S "child", formD c) (.head _)
    replace e1 : m3 (S "child") = some v3 := e1
    have hul : us.length = acc.length := by have := ru.length; simpa using this
    obtain ⟨kd, lb, vl, as, ks⟩ := c
    obtain ⟨N', rfl⟩ : ∃ N', N = N' + 1 := by cases N with | zero => simp [okF] at hcok | succ N' => exact ⟨N', rfl⟩
    have o := okF_succ hcok
    have rvt := rv
    rw [formD_mk] at rvt
    have fin : ∀ us' n' g', RdAll g' us' ((stepF acc (.mk kd lb vl as ks)).map formD) → ∃ l us n, m3 (S "found") = some (.ref l) ∧ ([(l', lstO us' n')] : Mu) = [(l, lstO us n)] ∧ RdAll g' us (((cs.take (i + 1)).foldl stepF []).map formD) := fun us' n' g' r' =>
      ⟨l', us', n', m1', rfl, by rw [step]; exact r'⟩
    refine St.ite (b := !(kd == S "text")) a3 ?_ (fun hb g4 h4 tk4 a4 hg4 => ?_) fun hb g4 h4 tk4 a4 hg4 => ?_
    · have := Cp.ne (prog := prog) (w := w) hR' (str_shaped o.kind) (str_shaped tok_S.1)
      rw [PyData.eqv] at this
      exact Ts.cmp (Tr.sub_tuple (j := 0) (Tr.name e1 (mono_da _) rvt) (Tr.glob W3 (gi_KIND _) (mono_da _) (.int _ _)) (by decide) (by decide) rfl rfl) (mono_da _) Tr.const_str this
    · have ht : isText (.mk kd lb vl as ks) = false := (Bool.not_eq_true' _).mp hb
      refine St.append a4 m1' (fun _ h => nomatch h) (by omega) (Tr.name e1 (mono_da _) (rv.mono hg4)) fun v5 g5 h5 tk5 a5 hg5 r5 => St.nil (St.nil ?_)
      refine for_fin a5 rfl (fin _ _ g5 ?_)
      rw [stepF_other ht, List.map_append]
      exact (ru.mono (hg4.trans hg5)).append (.cons r5 .nil)
    · have ht : isText (.mk kd lb vl as ks) = true := (Bool.not_eq_false' (kd == S "text")).mp hb
      have W4 := W3.mono hg4
      have ru4 := ru.mono hg4
      have rv4 := rvt.mono hg4
      have accsh : SeqAt.shaped (.list (acc.map formD)) = true := forms_shaped hN j1
      refine St.ite (b := lastText acc) a4 ?_ (fun hb5 g5 h5 tk5 a5 hg5 => ?_) fun hb5 g5 h5 tk5 a5 hg5 => ?_
      · rcases List.eq_nil_or_concat acc with z | ⟨a0, f0, z⟩
        · subst z
          refine Ts.congr (Ts.and (b := false) (Ts.mut_ne_nil hR' (Tr.ref m1') (.head _) ru4 accsh) (fun z => nomatch z)) rfl
        · rw [List.concat_eq_append] at z
          subst z
          obtain ⟨kd0, lb0, vl0, as0, ks0⟩ := f0
          have o0 := okF_succ (j1 _ (List.mem_append.mpr (.inr (.head _))))
          have hsub : ((a0 ++ [Fm.mk kd0 lb0 vl0 as0 ks0]).map formD)[a0.length]? = some (formD (.mk kd0 lb0 vl0 as0 ks0)) := by simp
          rw [formD_mk] at hsub
          refine Ts.congr (Ts.and (Ts.mut_ne_nil hR' (Tr.ref m1') (.head _) ru4 accsh) fun _ => Ts.and (b := true) (Ts.cmp (Tr.sub_tuple (j := 0) (Tr.sub_mut (j := a0.length) (Tr.ref m1') (.head _) ru4 (Tr.neg Tr.const_int) (by decide) (by decide) (by rw [List.length_map, List.length_append]; exact last_index) hsub) (Tr.glob W4 (gi_KIND _) (mono_da _) (.int _ _)) (by decide) (by decide) rfl rfl) (mono_da _) Tr.const_str (Cp.eq hR' (str_shaped o0.kind) (str_shaped tok_S.1))) fun _ => Ts.and_nil) ?_
          rw [PyData.eqv]
          simp [lastText, isText, Fm.kind]
      · rcases last_cases acc with z | ⟨a0, f0, z, hf0⟩
        · rw [z] at hb5; cases hb5
        · subst z
          obtain ⟨kd0, lb0, vl0, as0, ks0⟩ := f0
          have W5 := W4.mono hg5
          have ru5 := ru4.mono hg5
          have rv5 := rv4.mono hg5
          have o0 := okF_succ (j1 _ (List.mem_append.mpr (.inr (.head _))))
          have hsub : ((a0 ++ [Fm.mk kd0 lb0 vl0 as0 ks0]).map formD)[a0.length]? = some (formD (.mk kd0 lb0 vl0 as0 ks0)) := by simp
          rw [formD_mk] at hsub
          have hul' : us.length = a0.length + 1 := by rw [hul]; simp
          refine St.setitem (j := a0.length) (i := -1) a5 m1' (fun _ h => nomatch h) (d := textForm (vl0 ++ vl)) (Tr.call W5 hR' (gf_text_form _) (gd_text_form _) (text_form_spec _) (SpE.cons ?_ SpE.nil)) (Tr.neg Tr.const_int) (by decide) (by rw [hul']; exact last_index) (by omega) fun v6 g6 h6 tk6 hg6 r6 a6 => St.nil (St.nil (St.nil ?_))
          · refine Tr.binop (Tr.sub_tuple (j := 2) (Tr.sub_mut (j := a0.length) (Tr.ref m1') (.head _) ru5 (Tr.neg Tr.const_int) (by decide) (by decide) (by rw [List.length_map, List.length_append]; exact last_index) hsub) (Tr.glob W5 (gi_VALUE _) (mono_da _) (.int _ _)) (by decide) (by decide) rfl rfl) (mono_da _)
              (Tr.sub_tuple (j := 2) (Tr.name e1 (mono_da _) rv5) (Tr.glob W5 (gi_VALUE _) (mono_da _) (.int _ _)) (by decide) (by decide) rfl rfl) (Bo.add_str ?_)
            have := tok_len o0.value; have := tok_len o.value; omega
          · refine for_fin a6 rfl (fin _ _ g6 ?_)
            rw [stepF_last ht hf0, List.map_append]
            rw [List.map_append] at ru5
            obtain ⟨us1, ws, rfl, q1, q2⟩ := (ru5.mono hg6).split
            obtain ⟨y, rfl, _⟩ := q2.one
            have hl1 : us1.length = a0.length := by have := q1.length; simpa using this
            rw [← hl1, set_last]
            exact q1.append (.cons (by rw [textF_form]; exact r6) .nil)
      · have W5 := W4.mono hg5
        have rv5 := rv4.mono hg5
        refine St.ite (b := !(vl == S "")) a5 ?_ (fun hb6 g6 h6 tk6 a6 hg6 => ?_) fun hb6 g6 h6 tk6 a6 hg6 => St.nil (St.nil (St.nil (St.nil ?_)))
        · have := Cp.ne (prog := prog) (w := w) hR' (str_shaped o.value) (str_shaped tok_S.2)
          rw [PyData.eqv] at this
          exact Ts.cmp (Tr.sub_tuple (j := 2) (Tr.name e1 (mono_da _) rv5) (Tr.glob W5 (gi_VALUE _) (mono_da _) (.int _ _)) (by decide) (by decide) rfl rfl) (mono_da _) Tr.const_str this
        · have hv : (vl == S "") = false := (Bool.not_eq_true' _).mp hb6
          refine St.append a6 m1' (fun _ h => nomatch h) (by omega) (Tr.name e1 (mono_da _) (rv.mono (hg4.trans (hg5.trans hg6)))) fun v7 g7 h7 tk7 a7 hg7 r7 => St.nil (St.nil (St.nil (St.nil ?_)))
          refine for_fin a7 rfl (fin _ _ g7 ?_)
          rw [stepF_text ht hb5, show (Fm.mk kd lb vl as ks).value = vl from rfl, hv]
          simp only [Bool.false_eq_true, if_false]
          rw [List.map_append]
          exact (ru4.mono (hg5.trans (hg6.trans hg7))).append (.cons r7 .nil)
        · have hv : (vl == S "") = true := (Bool.not_eq_false' (vl == S "")).mp hb6
          refine for_fin a6 rfl (fin _ _ g6 ?_)
          rw [stepF_text ht hb5, show (Fm.mk kd lb vl as ks).value = vl from rfl, hv]
          simp only [if_true]
          exact ru4.mono (hg5.trans hg6)
  · rintro m mu g3 h3 tk3 ⟨l', us, n, m1, rfl, ru⟩ has a3
    rw [List.length_map, List.take_length] at ru
    exact St.retlist a3 m1 ru fun g' h' tk G r => k _ _ _ _ G r
end

end
section
open PySem PySem.W PySem.Spec PySem.Calls PyProof.Rows

section
variable {prog : Program} {w : World} {A : Around} {E : Value → Shared → Prop} {s : Shared}
theorem draw_list {it t : Addr} {items : Array Value} (hne : t ≠ it) : ∀ (n i : Nat) (s : Shared) (Q : List Value → Shared → Prop), s.heap.IsListIter it t i → s.heap.IsList t items → i + n ≤ items.size →
    (∀ h', h'.IsListIter it t (i + n) → Heap.SameBut it s.heap h' → Q ((items.toList.drop i).take n) { s with heap := h' }) → wpAny (model prog w) A (draw (.ref it) n) Q E s
  | 0, i, s, Q, hit, _, _, hQ => by
    show wpAny _ _ (pure []) Q E s
    exact wpAny_pure (by simpa using hQ s.heap hit (Heap.SameBut.refl ..))
  | n + 1, i, s, Q, hit, ht, hle, hQ => by
    have hlt : i < items.size := by omega
    show wpAny _ _ (pyNext (.ref it) >>= _) Q E s
    refine wpAny_bind (wpAny_pyNext_list_item hit ht (x := items[i]) (by simp [hlt]) fun ha hita hsa => ?_)
    refine wpAny_bind (wpAny_holding (draw_list hne n (i + 1) _ _ hita (ht.extBut hsa.extBut hne) (by omega) fun hb hitb hsb => wpAny_pure ?_))
    have hd : items.toList.drop i = items[i] :: items.toList.drop (i + 1) := by simp [List.drop_eq_getElem_cons, hlt]
    have := hQ hb (by rw [show i + (n + 1) = i + 1 + n by omega]; exact hitb) (hsa.trans hsb)
    rw [hd, List.take_succ_cons] at this
    exact this
theorem unpack_list {t : Addr} {items : Array Value} {targets : List (Bool × (Value → Sem Unit))} {Q : Unit → Shared → Prop} (hh : A.handled = none) (ht : s.heap.IsList t items)
    (hn : targets.length = items.size) (hstar : targets.findIdx? (·.1) = none)
    (h : ∀ h', Heap.ExtBut s.heap.objs.size s.heap h' → wpAny (model prog w) A (assignInOrder (targets.map (·.2)) items.toList) Q E { s with heap := h' }) :
    wpAny (model prog w) A (unpack (.ref t) targets) Q E s := by
  have hlt : t ≠ s.heap.objs.size := by obtain ⟨o, ho, _⟩ := ht; exact Nat.ne_of_lt (Heap.lt_size ho)
  unfold unpack
  rw [hn, hstar]
  refine wpAny_bind (wpAny_holding ?_)
  unfold unpackItems
  refine wpAny_bind ?_
  unfold notIterableAtAll
  refine wpAny_bind (wpAny_specialOf ht.typeIs slot_list_iter.lookup ?_)
  refine wpAny_pure ?_
  simp only [Bool.false_eq_true, if_false]
  refine wpAny_bind (wpAny_holding (wpAny_pyIter_list ht ?_))
  refine wpAny_bind (wpAny_holding (draw_list hlt items.size 0 _ _ ⟨_, Heap.get?_push_size _ rfl, rfl, rfl⟩ (ht.push _) (by omega) fun ha hita hsa => ?_))
  have hall : List.take items.size (List.drop 0 items.toList) = items.toList := by
    rw [List.drop_zero]; exact List.take_of_length_le (by simp)
  rw [hall]
  rw [if_neg (by simp)]
  have hta : ha.IsList t items := (ht.push _).extBut hsa.extBut hlt
  refine wpAny_bind (wpAny_holding (wpAny_pyNext_list_end hh hita hta (by simp) fun hb heb => ?_))
  simp only [Option.isSome_none, Bool.false_eq_true, if_false]
  exact wpAny_pure (h hb fun b o nb e => heb b o nb (hsa.extBut b o nb (Heap.get?_push_of_some _ e)))
end
section
variable {prog : Program} {w : World} {A : Around} {env : Env}
theorem Asg.list {elts : List Expr} {k : Nat} {pos : Pos} {xs : List Str} {ds : List PyData} (hh : A.handled = none) (hn : Names env elts xs) (hnd : xs.Nodup) (hlen : xs.length = ds.length)
    (hp : (env.scope.kind == .class || (env.scope.kind == .module && env.locals != env.globals)) = false) : Asg prog w A env (.Tuple elts k pos) (.list ds) (xs.zip ds) :=
  fun s g v m Q E X r kk => by
    obtain ⟨a, vs, rfl, ht, ra⟩ := r.list_inv
    rw [arm_assign_Tuple]
    refine wpAny_bind (wpAny_standAt (unpack_list hh (IsList.le X.gh ht) (by rw [hn.len, hlen, ← ra.length]; simp) hn.star fun h' hx => ?_))
    have le : Le s.heap h' := fun b o e => hx b o (Nat.ne_of_lt (Heap.lt_size e)) e
    have G := Grow.of_le X.gh le
    refine hn.asg hp hnd hlen ra (X.grow G) fun h2 tk m' G2 n2 b2 same => kk h2 tk m' (G.toX.trans G2) n2 b2 fun y hy => same y fun z => hy ?_
    rw [List.map_fst_zip (Nat.le_of_eq hlen)]; exact z
end

end
section
open PySem PySem.W PySem.Spec PySem.Calls PyProof.Rows

theorem textF_rows (x : Str) : rowsD (textF x) = .list [.str (S "text"), .str (S ""), .str x, .list [], .list []] := by rw [textF, rowsD_mk]; rfl
def bsRow : PyData → List (Str × PyData)
  | .list ds => [S "kind", S "label", S "value", S "attributes", S "inner"].zip ds
  | _ => []
theorem rows_shaped {n : Nat} (hn : n ≤ 4) {ks : List Fm} (h : ∀ f ∈ ks, okF n f = true) : SeqAt.shaped (.list (ks.map rowsD)) = true := by
  refine shaped_of (n := 2 * n + 5) ?_ ?_ (by omega)
  · rw [PyData.canLay0]; exact canLay_all fun f hf => (rows_lay n f (h f hf)).1
  · rw [PyData.depth]; have := depth_all fun f hf => (rows_lay n f (h f hf)).2; omega
section
variable {prog : Program} {w : World} {mg mb : Str → Option Value}
theorem law_joined_spec {N : Nat} (hN : N ≤ 4) (cs : List Fm) (hok : ∀ f ∈ cs, okF N f = true) (hs : sumV cs ≤ 1000) (hlen : cs.length ≤ 1000) :
    Pure prog w mg mb 1 133 [.list (cs.map rowsD)] (Da (.list ((joinF cs).map rowsD))) := by
  intro A s g vs Q E hR W hg r k
  obtain ⟨v, rfl, r1⟩ := r.one
  have hz := sizeLine_eq
  refine call_at (binds := [(S "rows", v)]) (mu := []) (X := NoX) hR W hg (fun _ h => nomatch h) rfl rfl rfl rfl rfl (by decide) (locs rfl) rfl rfl rfl fun L h₁ tk E' a hR' => ?_
  refine St.newlist a (ds := []) SpE.nil rfl fun l us n0 g2 h2 tk2 a2 hg2 ru _ => ?_
  obtain rfl := ru.nil_inv
  refine St.for (xs := cs.map rowsD) (T := fun _ => True) (fun i m mu g' => ∃ l us n, m (S "found") = some (.ref l) ∧ mu = [(l, lstO us n)] ∧ RdAll g' us (((cs.take i).foldl stepF []).map rowsD)) bsRow [l] a2
    (Ie.list hR'.hd (Tr.name rfl (mono_da _) (r1.mono hg2))) trivial rfl (fun d hd => ?_) ⟨l, [], n0, upd_self, rfl, .nil⟩ (fun i m mu g g' le ⟨l, us, n, e1, e2, e3⟩ => ⟨l, us, n, e1, e2, e3.mono le⟩) ?_ ?_
  · obtain ⟨⟨kd, lb, vl, as, ks⟩, _, rfl⟩ := List.mem_map.mp hd
    rw [rowsD_mk]
    exact Asg.list (xs := [S "kind", S "label", S "value", S "attributes", S "inner"]) hR'.hd (.cons rfl (.cons rfl (.cons rfl (.cons rfl (.cons rfl .nil))))) (by decide) rfl rfl
  · rintro i d m mu g3 h3 tk3 E3 m3 e3 hd ⟨l', us, n, m1, rfl, ru⟩ has hg3 bd same a3
    obtain rfl : l' = l := by simpa using has
    have W3 := W.mono hg3
    simp only [List.getElem?_map, Option.map_eq_some_iff] at hd
    obtain ⟨c, hc, rfl⟩ := hd
    obtain ⟨j1, j2, j3⟩ := join_take hok hs i
    have hcok := hok c (List.mem_of_getElem? hc)
    have step := fold_take (f := stepF) (b := []) hc
    have hi : i < cs.length := by obtain ⟨z, _⟩ := List.getElem?_eq_some_iff.mp hc; exact z
    generalize hacc : (cs.take i).foldl stepF [] = acc at ru j1 j2 j3 step
    obtain ⟨kd, lb, vl, as, ks⟩ := c
    rw [rowsD_mk] at bd same
    have m1' : m3 (S "found") = some (.ref l') := (same _ (show S "found" ∉ [S "kind", S "label", S "value", S "attributes", S "inner"] by decide)).trans m1
    obtain ⟨x1, e1, r1'⟩ := bd (S "kind", .str kd) (.head _)
    obtain ⟨x2, e2, r2'⟩ := bd (S "label", labD lb) (.tail _ (.head _))
    obtain ⟨x3, e3', r3'⟩ := bd (S "value", .str vl) (.tail _ (.tail _ (.head _)))
    obtain ⟨x4, e4, r4'⟩ := bd (S "attributes", .list (as.map atrL)) (.tail _ (.tail _ (.tail _ (.head _))))
    obtain ⟨x5, e5, r5'⟩ := bd (S "inner", .list (ks.map rowsD)) (.tail _ (.tail _ (.tail _ (.tail _ (.head _)))))
    replace e1 : m3 (S "kind") = some x1 := e1
    replace e2 : m3 (S "label") = some x2 := e2
    replace e3' : m3 (S "value") = some x3 := e3'
    replace e4 : m3 (S "attributes") = some x4 := e4
    replace e5 : m3 (S "inner") = some x5 := e5
    have hul : us.length = acc.length := by have := ru.length; simpa using this
    obtain ⟨N', rfl⟩ : ∃ N', N = N' + 1 := by cases N with | zero => simp [okF] at hcok | succ N' => exact ⟨N', rfl⟩
    have o := okF_succ hcok
    have fin : ∀ us' n' g', RdAll g' us' ((stepF acc (.mk kd lb vl as ks)).map rowsD) → ∃ l us n, m3 (S "found") = some (.ref l) ∧ ([(l', lstO us' n')] : Mu) = [(l, lstO us n)] ∧ RdAll g' us (((cs.take (i + 1)).foldl stepF []).map rowsD) := fun us' n' g' r' =>
      ⟨l', us', n', m1', rfl, by rw [step]; exact r'⟩
    have accsh : SeqAt.shaped (.list (acc.map rowsD)) = true := rows_shaped hN j1
    refine St.ite (b := (kd == S "text") && (lastText acc && true)) a3 (Ts.and ?_ fun _ => ?_) (fun hb g4 h4 tk4 a4 hg4 => ?_) fun hb g4 h4 tk4 a4 hg4 => ?_
    · have := Cp.eq (prog := prog) (w := w) hR' (str_shaped o.kind) (str_shaped tok_S.1)
      rw [PyData.eqv] at this
      exact Ts.cmp (Tr.name e1 (mono_da _) r1') (mono_da _) Tr.const_str this
    · rcases List.eq_nil_or_concat acc with z | ⟨a0, f0, z⟩
      · subst z
        exact Ts.congr (Ts.and (b := false) (Ts.mut_ne_nil hR' (Tr.ref m1') (.head _) ru accsh) (fun z => nomatch z)) rfl
      · rw [List.concat_eq_append] at z
        subst z
        obtain ⟨kd0, lb0, vl0, as0, ks0⟩ := f0
        have o0 := okF_succ (j1 _ (List.mem_append.mpr (.inr (.head _))))
        have hsub : ((a0 ++ [Fm.mk kd0 lb0 vl0 as0 ks0]).map rowsD)[a0.length]? = some (rowsD (.mk kd0 lb0 vl0 as0 ks0)) := by simp
        rw [rowsD_mk] at hsub
        refine Ts.congr (Ts.and (Ts.mut_ne_nil hR' (Tr.ref m1') (.head _) ru accsh) fun _ => Ts.and (b := true) (Ts.cmp (Tr.sub_list (Tr.sub_mut (j := a0.length) (Tr.ref m1') (.head _) ru (Tr.neg Tr.const_int) (by decide) (by decide) (by rw [List.length_map, List.length_append]; exact last_index) hsub) Tr.const_int (by decide) (by decide) rfl) (mono_da _) Tr.const_str (Cp.eq hR' (str_shaped o0.kind) (str_shaped tok_S.1))) fun _ => Ts.and_nil) ?_
        rw [PyData.eqv]
        simp [lastText, isText, Fm.kind]
    · simp only [Bool.and_true, Bool.and_eq_true] at hb
      obtain ⟨ht, hb5⟩ := hb
      have ht : isText (.mk kd lb vl as ks) = true := ht
      rcases last_cases acc with z | ⟨a0, f0, z, hf0⟩
      · rw [z] at hb5; cases hb5
      · subst z
        obtain ⟨kd0, lb0, vl0, as0, ks0⟩ := f0
        have ru4 := ru.mono hg4
        have o0 := okF_succ (j1 _ (List.mem_append.mpr (.inr (.head _))))
        have hsub : ((a0 ++ [Fm.mk kd0 lb0 vl0 as0 ks0]).map rowsD)[a0.length]? = some (rowsD (.mk kd0 lb0 vl0 as0 ks0)) := by simp
        rw [rowsD_mk] at hsub
        have hul' : us.length = a0.length + 1 := by rw [hul]; simp
        refine St.setitem (j := a0.length) (i := -1) a4 m1' (fun _ h => nomatch h) (d := rowsD (textF (vl0 ++ vl))) ?_ (Tr.neg Tr.const_int) (by decide) (by rw [hul']; exact last_index) (by omega) fun v6 g6 h6 tk6 hg6 r6 a6 => St.nil (St.nil ?_)
        · rw [textF_rows]
          refine Tr.list (SpE.cons Tr.const_str (SpE.cons Tr.const_str (SpE.cons ?_ (SpE.cons (Tr.list SpE.nil) (SpE.cons (Tr.list SpE.nil) SpE.nil)))))
          refine Tr.binop (Tr.sub_list (Tr.sub_mut (j := a0.length) (Tr.ref m1') (.head _) ru4 (Tr.neg Tr.const_int) (by decide) (by decide) (by rw [List.length_map, List.length_append]; exact last_index) hsub) Tr.const_int (by decide) (by decide) rfl) (mono_da _)
            (Tr.name e3' (mono_da _) (r3'.mono hg4)) (Bo.add_str ?_)
          have := tok_len o0.value; have := tok_len o.value; omega
        · refine for_fin a6 rfl (fin _ _ g6 ?_)
          rw [stepF_last ht hf0, List.map_append]
          rw [List.map_append] at ru4
          obtain ⟨us1, ws, rfl, q1, q2⟩ := (ru4.mono hg6).split
          obtain ⟨y, rfl, _⟩ := q2.one
          have hl1 : us1.length = a0.length := by have := q1.length; simpa using this
          rw [← hl1, set_last]
          exact q1.append (.cons r6 .nil)
    · rw [Bool.and_true] at hb
      have ru4 := ru.mono hg4
      refine St.ite (b := (!(kd == S "text")) || ((!(vl == S "")) || false)) a4 (Ts.or ?_ fun _ => Ts.or ?_ fun _ => Ts.or_nil) (fun hb6 g6 h6 tk6 a6 hg6 => ?_) fun hb6 g6 h6 tk6 a6 hg6 => St.nil (St.nil (St.nil ?_))
      · have := Cp.ne (prog := prog) (w := w) hR' (str_shaped o.kind) (str_shaped tok_S.1)
        rw [PyData.eqv] at this
        exact Ts.cmp (Tr.name e1 (mono_da _) (r1'.mono hg4)) (mono_da _) Tr.const_str this
      · have := Cp.ne (prog := prog) (w := w) hR' (str_shaped o.value) (str_shaped tok_S.2)
        rw [PyData.eqv] at this
        exact Ts.cmp (Tr.name e3' (mono_da _) (r3'.mono hg4)) (mono_da _) Tr.const_str this
      · have l46 := hg4.trans hg6
        refine St.append (d := rowsD (.mk kd lb vl as ks)) a6 m1' (fun _ h => nomatch h) (by omega) ?_ fun v7 g7 h7 tk7 a7 hg7 r7 => St.nil (St.nil (St.nil ?_))
        · rw [rowsD_mk]
          exact Tr.list (SpE.cons (Tr.name e1 (mono_da _) (r1'.mono l46)) (SpE.cons (Tr.name e2 (mono_da _) (r2'.mono l46)) (SpE.cons (Tr.name e3' (mono_da _) (r3'.mono l46)) (SpE.cons (Tr.name e4 (mono_da _) (r4'.mono l46)) (SpE.cons (Tr.name e5 (mono_da _) (r5'.mono l46)) SpE.nil)))))
        · refine for_fin a7 rfl (fin _ _ g7 ?_)
          have es : stepF acc (.mk kd lb vl as ks) = acc ++ [.mk kd lb vl as ks] := by
            cases ht : isText (.mk kd lb vl as ks) with
            | false => exact stepF_other ht
            | true =>
              have ht' : (kd == S "text") = true := ht
              rw [ht'] at hb hb6
              rw [stepF_text ht (by simpa using hb), show (Fm.mk kd lb vl as ks).value = vl from rfl, if_neg (by simpa using hb6)]
          rw [es, List.map_append]
          exact (ru4.mono (hg6.trans hg7)).append (.cons r7 .nil)
      · refine for_fin a6 rfl (fin _ _ g6 ?_)
        have es : stepF acc (.mk kd lb vl as ks) = acc := by
          simp only [Bool.or_false, Bool.or_eq_false_iff, Bool.not_eq_false'] at hb6
          have ht : isText (.mk kd lb vl as ks) = true := hb6.1
          rw [hb6.1] at hb
          rw [stepF_text ht (by simpa using hb), show (Fm.mk kd lb vl as ks).value = vl from rfl, if_pos hb6.2]
        rw [es]
        exact ru4.mono hg6
  · rintro m mu g3 h3 tk3 ⟨l', us, n, m1, rfl, ru⟩ has a3
    rw [List.length_map, List.take_length] at ru
    exact St.retlist a3 m1 ru fun g' h' tk G r => k _ _ _ _ G r
end

end
section
open PySem PySem.W PySem.Spec PySem.Calls PyProof.Rows

section
variable {prog : Program} {w : World} {A : Around} {env : Env} {m : Str → Option Value} {mu : Mu} {g g₀ e₀ : Heap} {mg mb : Str → Option Value} {X : Addr → Prop} {s : Shared} {h0 : Heap} {G0 : Array GenState} {D0 : Drawn} {T0 : Nat} {O0 : OsState} {E : Value → Shared → Prop} {Q : Flow → Shared → Prop} {rest : List Stmt}
/-! ## cells -/
theorem Tr.cell {x : Str} {pos : Pos} {c : Addr} {o : Obj} {v : Value} {R : Pd} (hc : env.cells.lookup x = some c) (hm : (c, o) ∈ mu) (ho : o.data = .cell (some v)) (hmono : Mono R) (r : R g v) (hk : env.scope.kind = .function := by rfl) (hl : env.kindOf x = some .cell := by rfl)
    (hd : (x == ("__debug__" : Str)) = false := by decide) : Ev prog w A env m mu g (.Name x pos) R :=
  fun s _ _ _ hg X k => wpAny_Name (wpAny_loadName_cell hk hl hc ⟨o, (X.mu _ hm).1, ho⟩ (k _ _ s.heap s.toks (Grow.refl X.gh) (hmono _ _ _ hg r))) hd
theorem St.assignC {x : Str} {pos' pos : Pos} {e : Expr} {R : Pd} {c : Addr} {o : Obj} {v₀ : Option Value} (a : At X g₀ e₀ env m ((c, o) :: mu) g h0) (hd : ∀ p ∈ mu, p.1 ≠ c) (ho : o.data = .cell v₀) (hc : env.cells.lookup x = some c) (h : Ev prog w A env m ((c, o) :: mu) g e R)
    (k : ∀ v o' g' h' tk, o'.data = .cell (some v) → At X g₀ e₀ env m ((c, o') :: mu) g' h' → Le g g' → R g' v → wpAny (model prog w) A (execs rest env) Q E (Shared.mk h' G0 D0 tk O0))
    (hk : env.scope.kind = .function := by rfl) (hl : env.kindOf x = some .cell := by rfl) (hs : swapsWith e (some (.Name x pos')) pos.line env = pure false := by rfl) :
    wpAny (model prog w) A (execs (.Assign [.Name x pos'] e pos :: rest) env) Q E (Shared.mk h0 G0 D0 T0 O0) :=
  wpAny_execs_cons (wpAny_Assign_Name (h (Shared.mk h0 G0 D0 T0 O0) g _ _ (Le.refl g) a.sit fun v g' h' tk G r => by
    have a' := a.grow G
    refine wpAny_storeName_cell hk hl hc ⟨o, (a'.sit.mu _ (.head _)).1, ho⟩ fun h2 ⟨o', e', d'⟩ hs => ?_
    exact k v o' g' h2 _ d' (a'.turn hd hs e') G.gg r) hs)
/-- into a def with one cell -/
theorem call_atC {n : Nat} {f : Addr} {o : Obj} {fd : FuncData} {body : List Stmt} {binds : List (Str × Value)} {vs : List Value} {X : Addr → Prop} {mu : Mu} {s : Shared} {Q : Value → Shared → Prop} {E : Value → Shared → Prop} {cx : Str}
    (hR : Rm (n + 1) A) (W : Wd w mg mb g) (hg : Le g s.heap) (hmu : ∀ p ∈ mu, (s.heap.get? p.1 = some p.2 ∧ g.get? p.1 = none) ∧ X p.1)
    (ho : (hd.heap_39 w.params).lookup f = some o) (hdata : o.data = .func fd) (hcd : codeIn (hd.heap_39 w.params) fd.code fd.qualname = true) (hbody : fd.body = .stmts body) (hbind : bindArgs fd ⟨vs, []⟩ = pure binds)
    (hclo : fd.closure = []) (hcells : ∀ L, cellsFrom (L + 1) fd.scope.names [] = [(cx, L + 1)])
    (hkind : ∀ x ∈ binds, fd.scope.names.lookup x.1 = some .local ∨ (fd.scope.names.lookup x.1 = some .cell ∧ x.1 = cx))
    (hco : fd.scope.isCoroutine = false) (hgen : fd.scope.isGenerator = false) (hk : fd.scope.kind = .function)
    (h : ∀ L h₁ tk E' oc, oc.data = .cell (bindC (callEnvC fd L f).kindOf binds (fun _ => none) cx) → (∀ p ∈ mu, p.1 ≠ L + 1) → At X g s.heap (callEnvC fd L f) (bindL (callEnvC fd L f).kindOf binds fun _ => none) ((L + 1, oc) :: mu) g h₁ → Rm n (A.deeper (callEnvC fd L f)) →
      wpAny (model prog w) (A.deeper (callEnvC fd L f)) (execs body (callEnvC fd L f)) (RetQ Q) E' { s with heap := h₁, toks := tk }) :
    wpAny (model prog w) A (call (.ref f) vs) Q E s := by
  have W' := W.mono hg
  refine wpAny_call (codeAny_call_cells hR.depth (W'.K _ _ ho) hdata W'.nolimit (codeRec_of W'.K hcd) hbody hbind hclo (fun x hx => (hkind x hx).imp id fun y => ⟨y.1, by rw [hcells, y.2]; simp⟩) (fun s₁ IC => ?_) hco hgen hk)
  obtain ⟨h₁, tk, rfl, keep⟩ := IC.done
  have hlk : (callEnvC fd s.heap.objs.size f).cells.lookup cx = some (s.heap.objs.size + 1) := by
    show (cellsFrom (s.heap.objs.size + 1) fd.scope.names []).lookup cx = _
    rw [hcells]; simp
  obtain ⟨oc, eoc, doc⟩ := IC.cell cx _ hlk
  have fresh : s.heap.get? (s.heap.objs.size + 1) = none := Heap.get?_none_of_le (Nat.le_succ _)
  have muN : ∀ p ∈ mu, p.1 < s.heap.objs.size := fun p hp => Heap.lt_size (hmu p hp).1.1
  refine h s.heap.objs.size h₁ tk _ oc doc (fun p hp z => ?_) ⟨⟨hg.trans keep, IC.toInCall.ns, hg.none (get_fresh _), fun p hp => ?_⟩, ⟨Le.refl g, hg.trans keep, fun b o _ e => keep b o e, fun b o e => ⟨o, keep b o e⟩, fun _ _ _ e => e⟩, get_fresh _, fun p hp => ?_⟩ hR.deeper
  · have := muN p hp; rw [z] at this; exact absurd this (Nat.not_lt.mpr (Nat.le_succ _))
  · rcases List.mem_cons.mp hp with rfl | hp
    · exact ⟨eoc, hg.none fresh⟩
    · exact ⟨keep _ _ (hmu p hp).1.1, (hmu p hp).1.2⟩
  · rcases List.mem_cons.mp hp with rfl | hp
    · exact ⟨Nat.succ_ne_self _, .inr fresh⟩
    · refine ⟨fun q => ?_, .inl (hmu p hp).2⟩
      have := muN p hp
      rw [q] at this
      exact absurd this (Nat.lt_irrefl _)

/-! ## trees that turn the ledger -/
def TrX (prog : Program) (w : World) (A : Around) (X : Addr → Prop) (g₀ e₀ : Heap) (env : Env) (m : Str → Option Value) (mu : Mu) (g : Heap) (t : Sem Value) (R : Value → Mu → Heap → Prop) : Prop :=
  ∀ (s : Shared) (Q : Value → Shared → Prop) (E : Value → Shared → Prop), At X g₀ e₀ env m mu g s.heap → (∀ v mu' g' h' tk, At X g₀ e₀ env m mu' g' h' → Le g g' → R v mu' g' → Q v { s with heap := h', toks := tk }) → wpAny (model prog w) A t Q E s
theorem TrX.pure {t : Sem Value} {R : Pd} (h : Tr prog w A env m mu g t R) : TrX prog w A X g₀ e₀ env m mu g t (fun v mu' g' => mu' = mu ∧ R g' v) :=
  fun s Q E a k => h s g _ _ (Le.refl _) a.sit fun v g' h' tk G r => k v mu g' h' tk (a.grow G) G.gg ⟨rfl, r⟩
/-- a call has turned one object of the ledger -/
theorem At.eff {l : Addr} {o o' : Obj} {h g' h' : Heap} (a : At X g₀ e₀ env m ((l, o) :: mu) g h) (hd : ∀ p ∈ mu, p.1 ≠ l) (G : GrowX (· = l) g h g' h') (e : h'.get? l = some o') : At X g₀ e₀ env m ((l, o') :: mu) g' h' := by
  obtain ⟨oL, _, _, eL, _⟩ := a.sit.ns
  obtain ⟨nl, hX⟩ := a.mu _ (.head _)
  obtain ⟨el, gl⟩ := a.sit.mu _ (.head _)
  have gl' : g'.get? l = none := G.fr _ _ el gl
  refine ⟨⟨G.gh, a.sit.ns.at' fun o q => G.hh _ o (Ne.symm nl) q, G.fr _ _ eL a.sit.gL, fun p hp => ?_⟩, ⟨a.gr.gg.trans G.gg, G.gh, fun b q n r => ?_, fun b q r => ?_, fun b q r n => ?_⟩, a.eL, fun p hp => ?_⟩
  · rcases List.mem_cons.mp hp with rfl | hp
    · exact ⟨e, gl'⟩
    · obtain ⟨q1, q2⟩ := a.sit.mu p (.tail _ hp)
      exact ⟨G.hh _ _ (hd p hp) q1, G.fr _ _ q1 q2⟩
  · refine G.hh b q (fun z => ?_) (a.gr.hh b q n r)
    subst z
    rcases hX with hX | hX
    · exact n (.inr hX)
    · rw [hX] at r; cases r
  · obtain ⟨q', r'⟩ := a.gr.dm b q r
    exact G.dm b q' r'
  · obtain ⟨q', r'⟩ := a.gr.dm b q r
    exact G.fr b q' r' (a.gr.fr b q r n)
  · rcases List.mem_cons.mp hp with rfl | hp
    · exact ⟨nl, hX⟩
    · exact a.mu p (.tail _ hp)
end

end
section
open PySem PySem.W PySem.Spec PySem.Calls PyProof.Rows

section
variable {prog : Program} {w : World} {A : Around}
theorem Bo.sub_int {a b : Int} : Bo prog w A .Sub (Da (.int a)) (Da (.int b)) (Da (.int (a - b))) :=
  fun s _ _ _ _ _ hg r q k => by obtain ⟨t, rfl⟩ := r.int_inv; obtain ⟨u, rfl⟩ := q.int_inv; exact PyProof.Rows.sub_int (k _ _ s.heap _ (Grow.refl hg) (.int _ _))
theorem Bo.mul_int {a b : Int} (hm : IntMulOk a b) : Bo prog w A .Mult (Da (.int a)) (Da (.int b)) (Da (.int (a * b))) :=
  fun s _ _ _ _ _ hg r q k => by obtain ⟨t, rfl⟩ := r.int_inv; obtain ⟨u, rfl⟩ := q.int_inv; exact PyProof.Rows.mul_int (k _ _ s.heap _ (Grow.refl hg) (.int _ _)) hm
theorem Bo.mod_int {a b : Int} (hb : b ≠ 0) : Bo prog w A .Mod (Da (.int a)) (Da (.int b)) (Da (.int (a.fmod b))) :=
  fun s _ _ _ _ _ hg r q k => by obtain ⟨t, rfl⟩ := r.int_inv; obtain ⟨u, rfl⟩ := q.int_inv; exact PyProof.Rows.mod_int hb (k _ _ s.heap _ (Grow.refl hg) (.int _ _))
theorem Bo.floordiv_int {a b : Int} (hb : b ≠ 0) (hs : b.natAbs < 1073741824) : Bo prog w A .FloorDiv (Da (.int a)) (Da (.int b)) (Da (.int (a.fdiv b))) :=
  fun s _ _ _ _ _ hg r q k => by obtain ⟨t, rfl⟩ := r.int_inv; obtain ⟨u, rfl⟩ := q.int_inv; exact PyProof.Rows.floordiv_int hb (k _ _ s.heap _ (Grow.refl hg) (.int _ _)) (.inl (PyProof.noPylong_small hs))
theorem Bo.pow_int {a n : Int} (hn : 0 ≤ n) (hn2 : n ≤ 1000000) (ha : a.natAbs < 2 ^ 64) : Bo prog w A .Pow (Da (.int a)) (Da (.int n)) (Da (.int (a ^ n.toNat))) :=
  fun s _ _ _ _ _ hg r q k => by obtain ⟨t, rfl⟩ := r.int_inv; obtain ⟨u, rfl⟩ := q.int_inv; exact PyProof.Rows.pow_int_small hn hn2 ha (k _ _ s.heap _ (Grow.refl hg) (.int _ _))
end

/-! ## the source of draws -/
def isSrc (o : Obj) : Prop := ∃ a b t u n, o = lstO [.int a t, .int b u] n ∧ 0 ≤ a ∧ 0 ≤ b ∧ b < 2147483647
def Eff (prog : Program) (w : World) (mg mb : Str → Option Value) (n : Nat) (f : Addr) (ds : List PyData) (R : Pd) : Prop :=
  ∀ (A : Around) (s : Shared) (g : Heap) (l : Addr) (o : Obj) (vs : List Value) (Q : Value → Shared → Prop) (E : Value → Shared → Prop), Rm n A → Wd w mg mb g → Le g s.heap → s.heap.get? l = some o → g.get? l = none → isSrc o → RdAll g vs ds →
    (∀ v g' h' tk o', GrowX (· = l) g s.heap g' h' → h'.get? l = some o' → isSrc o' → R g' v → Q v { s with heap := h', toks := tk }) → wpAny (model prog w) A (call (.ref f) (.ref l :: vs)) Q E s

section
variable {prog : Program} {w : World} {A : Around} {env : Env} {m : Str → Option Value} {mu : Mu} {g g₀ e₀ : Heap} {mg mb : Str → Option Value} {X : Addr → Prop}
theorem SpR.cons {pos : Pos} {e : Expr} {rest : List Expr} {l : Addr} {ds : List PyData} (h : Ev prog w A env m mu g e (fun _ v => v = .ref l)) (hs : SpD prog w A env m mu g (backTo pos (starEach rest env)) ds)
    (he : starEach (e :: rest) env = (false, eval e env) :: starEach rest env := by rfl) : Sp prog w A env m mu g (backTo pos (starEach (e :: rest) env)) (fun g vs => ∃ us, vs = .ref l :: us ∧ RdAll g us ds) := by
  rw [he]
  exact fun s _ _ _ hg X k => Calls.spliced_cons (h s _ _ _ hg X fun v g' h' tk G r => hs _ _ _ _ (hg.trans G.gg) (X.grow G) fun us g2 h2 tk2 G2 r2 => k _ _ _ _ (G.trans G2) ⟨us, by rw [r], r2⟩)
/-- a call that draws from the source -/
theorem TrX.eff {x : Str} {np pos : Pos} {n : Nat} {f : Addr} {ds : List PyData} {R : Pd} {e1 : Expr} {rest : List Expr} {l : Addr} {o : Obj} {l1 l2 : Mu} (W : Wd w mg mb g) (hR : Rm n A) (hf : nsIn (hd.heap_39 w.params) mainGlobals x = some (some (.ref f)))
    (hod : ∃ o fd, (hd.heap_39 w.params).lookup f = some o ∧ o.data = .func fd) (hc : Eff prog w mg mb n f ds R) (hmu : mu = l1 ++ (l, o) :: l2) (hdis : ∀ p ∈ l1 ++ l2, p.1 ≠ l) (ho : isSrc o)
    (ha : Sp prog w A env m mu g (backTo pos (starEach (e1 :: rest) env)) (fun g vs => ∃ us, vs = .ref l :: us ∧ RdAll g us ds))
    (he : starEach (e1 :: rest) env = (false, eval e1 env) :: starEach rest env := by rfl) (hk : env.scope.kind = .function := by rfl) (hl : env.kindOf x = some .globalImplicit := by rfl) (hG : env.globals = mainGlobals := by rfl) (hd : (x == ("__debug__" : Str)) = false := by decide) :
    TrX prog w A X g₀ e₀ env m mu g (eval (.Call (.Name x np) (e1 :: rest) [] pos) env) (fun v mu' g' => ∃ o', mu' = l1 ++ (l, o') :: l2 ∧ isSrc o' ∧ R g' v) :=
  fun s Q E a k => wpAny_Call_NameR ((Tr.glob (R := fun _ v => v = .ref f) W hf (fun _ _ _ _ r => r) rfl hk hl hG hd) s g _ _ (Le.refl _) a.sit fun v g1 h1 tk1 G1 r => by
    subst r
    obtain ⟨of, fd, hof, hdat⟩ := hod
    refine callWith_def hdat (ha _ _ _ _ G1.gg (a.sit.grow G1) fun vs g2 h2 tk2 G2 ⟨us, e, r2⟩ => ⟨(W.mono (G1.gg.trans (G2.gg.trans G2.gh))).K _ _ hof, ?_⟩) he
    subst e
    have a2 := (a.grow G1).grow G2
    have hmem : (l, o) ∈ mu := by rw [hmu]; exact List.mem_append.mpr (.inr (.head _))
    refine hc _ _ g2 l o us _ _ hR (W.mono (G1.gg.trans G2.gg)) a2.le (a2.get hmem) (a2.sit.mu _ hmem).2 ho r2 fun v g3 h3 tk3 o' G3 e3 s3 r3 => ?_
    have b2 : At X g₀ e₀ env m ((l, o) :: (l1 ++ l2)) g2 h2 := a2.sub fun p hp => by
      rw [hmu]
      rcases List.mem_cons.mp hp with rfl | hp
      · exact List.mem_append.mpr (.inr (.head _))
      · rcases List.mem_append.mp hp with hp | hp
        · exact List.mem_append.mpr (.inl hp)
        · exact List.mem_append.mpr (.inr (.tail _ hp))
    have b3 := b2.eff hdis G3 e3
    refine k v (l1 ++ (l, o') :: l2) g3 h3 tk3 (b3.sub fun p hp => ?_) ((G1.gg.trans G2.gg).trans G3.gg) ⟨o', rfl, s3, r3⟩
    rcases List.mem_append.mp hp with hp | hp
    · exact .tail _ (List.mem_append.mpr (.inl hp))
    · rcases List.mem_cons.mp hp with rfl | hp
      · exact .head _
      · exact .tail _ (List.mem_append.mpr (.inr hp)))
theorem TrX.weak {t : Sem Value} {R R' : Value → Mu → Heap → Prop} (h : TrX prog w A X g₀ e₀ env m mu g t R) (x : ∀ v mu' g', R v mu' g' → R' v mu' g') : TrX prog w A X g₀ e₀ env m mu g t R' :=
  fun s Q E a k => h s Q E a fun v mu' g' h' tk a' le r => k v mu' g' h' tk a' le (x _ _ _ r)
end

end
section
open PySem PySem.W PySem.Spec PySem.Calls PyProof.Rows

theorem fits_small {i : Int} (h : 0 ≤ i) (h2 : i < 100) : Builtin.List.listFitsIndex i = true := by
  unfold Builtin.List.listFitsIndex
  simp
  omega
theorem idx0 {n : Nat} (h : 0 < n) : seqIndex? 0 n = some 0 := by
  unfold seqIndex?; simp; omega
theorem idx1 {n : Nat} (h : 1 < n) : seqIndex? 1 n = some 1 := by
  unfold seqIndex?; simp; omega
theorem fmod_bounds {a b : Int} (hb : 0 < b) : 0 ≤ a.fmod b ∧ a.fmod b < b := by
  rw [Int.fmod_eq_emod_of_nonneg _ (Int.le_of_lt hb)]
  exact ⟨Int.emod_nonneg _ (by omega), Int.emod_lt_of_pos _ hb⟩
theorem fdiv_nonneg {a b : Int} (ha : 0 ≤ a) (hb : 0 < b) : 0 ≤ a.fdiv b := by
  rw [Int.fdiv_eq_ediv_of_nonneg _ (Int.le_of_lt hb)]
  exact Int.ediv_nonneg ha (Int.le_of_lt hb)
section
variable {prog : Program} {w : World} {mg mb : Str → Option Value}
theorem law_take_spec (top : Int) (h1 : 1 ≤ top) (h2 : top ≤ 1000) : Eff prog w mg mb 1 80 [.int top] (fun _ v => ∃ d t, v = .int d t ∧ 0 ≤ d ∧ d < top) := by
  intro A s g l o vs Q E hR W hg hl gl ⟨a0, b0, t0, u0, n0, ho, ha0, hb0, hb1⟩ r k
  obtain ⟨vt, rfl, rt⟩ := r.one
  obtain ⟨tt, rfl⟩ := rt.int_inv
  subst ho
  have rs : RdAll g [.int a0 t0, .int b0 u0] [.int a0, .int b0] := .cons (.int _ _) (.cons (.int _ _) .nil)
  refine call_at (binds := [(S "source", .ref l), (S "top", .int top tt)]) (mu := [(l, lstO [.int a0 t0, .int b0 u0] n0)]) (X := (· = l)) hR W hg (fun p hp => by rw [List.mem_singleton.mp hp]; exact ⟨⟨hl, gl⟩, rfl⟩) rfl rfl rfl rfl rfl (by decide) (locs rfl) rfl rfl rfl fun L h₁ tk E' a hR' => ?_
  refine St.ite (b := decide (0 < a0)) a (Ts.cmp (Tr.sub_mut (j := 0) (Tr.ref rfl) (.head _) rs Tr.const_int (by decide) (by decide) rfl rfl) (mono_da _) Tr.const_int Cp.gt) (fun hb g2 h2' tk2 a2 hg2 => ?_) fun hb g2 h2' tk2 a2 hg2 => ?_
  · have hpos : 0 < a0 := of_decide_eq_true hb
    have W2 := W.mono hg2
    refine St.assign (R := Da (.int (a0.fmod top))) a2 (Tr.binop (Tr.sub_mut (j := 0) (Tr.ref rfl) (.head _) (rs.mono hg2) Tr.const_int (by decide) (by decide) rfl rfl) (mono_da _) (Tr.name rfl (mono_da _) (.int _ _)) (Bo.mod_int (by omega))) fun v3 g3 h3 tk3 a3 hg3 r3 => ?_
    obtain ⟨t3, rfl⟩ := r3.int_inv
    refine St.setitem (j := 0) (i := 0) (d := .int (a0.fdiv top)) a3 (upd_ne rfl rfl) (fun _ h => nomatch h) ?_ Tr.const_int (by decide) (idx0 (Nat.succ_pos _)) (Nat.succ_pos _) fun v4 g4 h4 tk4 hg4 r4 a4 => ?_
    · exact Tr.binop (Tr.sub_mut (j := 0) (Tr.ref (upd_ne rfl rfl)) (.head _) (rs.mono (hg2.trans hg3)) Tr.const_int (by decide) (by decide) rfl rfl) (mono_da _) (Tr.name (upd_ne rfl rfl) (mono_da _) (.int _ _)) (Bo.floordiv_int (by omega) (by omega))
    · obtain ⟨t4, rfl⟩ := r4.int_inv
      refine St.ret a4 (R := fun _ v => v = .int (a0.fmod top) t3) (Tr.name upd_self (fun _ _ _ _ q => q) rfl) fun v5 g5 h5 tk5 a5 r5 => ?_
      subst r5
      have fb := fmod_bounds (a := a0) (b := top) (by omega)
      exact k _ g5 h5 tk5 _ a5.done (a5.get (.head _)) ⟨a0.fdiv top, b0, t4, u0, n0, rfl, fdiv_nonneg ha0 (by omega), hb0, hb1⟩ ⟨_, _, rfl, fb.1, fb.2⟩
  · refine St.nil ?_
    dsimp only [NextQ, RetQ]
    have fb := fmod_bounds (a := b0 * 39373 + 7) (b := 2147483647) (by omega)
    refine St.setitem (j := 1) (i := 1) (d := .int ((b0 * 39373 + 7).fmod 2147483647)) a2 rfl (fun _ h => nomatch h) ?_ Tr.const_int (by decide) (idx1 (Nat.lt_succ_self 1)) (Nat.lt_succ_self 1) fun v4 g4 h4 tk4 hg4 r4 a4 => ?_
    · exact Tr.binop (Tr.binop (Tr.binop (Tr.sub_mut (j := 1) (Tr.ref rfl) (.head _) (rs.mono hg2) Tr.const_int (by decide) (by decide) rfl rfl) (mono_da _) Tr.const_int (Bo.mul_int (.of_right (intBits_le_64 (by omega) (by omega))))) (mono_da _) Tr.const_int Bo.add_int) (mono_da _) Tr.const_int (Bo.mod_int (by decide))
    · obtain ⟨t4, rfl⟩ := r4.int_inv
      generalize hB : (b0 * 39373 + 7).fmod 2147483647 = B at fb a4
      have rs4 : RdAll g4 ([.int a0 t0, .int B t4] : List Value) [.int a0, .int B] := .cons (.int _ _) (.cons (.int _ _) .nil)
      have a4' : At (· = l) g s.heap _ _ [(l, lstO [.int a0 t0, .int B t4] n0)] g4 h4 := a4
      have fb2 := fmod_bounds (a := ((B * B).fmod 2147483629).fdiv 32) (b := top) (by omega)
      refine St.ret a4' (R := Da (.int ((((B * B).fmod 2147483629).fdiv 32).fmod top))) ?_ fun v5 g5 h5 tk5 a5 r5 => ?_
      · exact Tr.binop (Tr.binop (Tr.binop (Tr.binop (Tr.sub_mut (j := 1) (Tr.ref rfl) (.head _) rs4 Tr.const_int (by decide) (by decide) rfl rfl) (mono_da _) (Tr.sub_mut (j := 1) (Tr.ref rfl) (.head _) rs4 Tr.const_int (by decide) (by decide) rfl rfl) (Bo.mul_int (.of_right (intBits_le_64 (by omega) (by omega))))) (mono_da _) Tr.const_int (Bo.mod_int (by decide))) (mono_da _) Tr.const_int (Bo.floordiv_int (by decide) (by decide))) (mono_da _) (Tr.name rfl (mono_da _) (.int _ _)) (Bo.mod_int (by omega))
      · obtain ⟨t5, rfl⟩ := r5.int_inv
        exact k _ g5 h5 tk5 _ a5.done (a5.get (.head _)) ⟨a0, B, t0, t4, n0, rfl, ha0, fb.1, fb.2⟩ ⟨_, _, rfl, fb2.1, fb2.2⟩
end

end
section
open PySem PySem.W PySem.Spec PySem.Calls PyProof.Rows

section
variable {prog : Program} {w : World} {A : Around} {env : Env} {m : Str → Option Value} {mu : Mu} {g g₀ e₀ : Heap} {mg mb : Str → Option Value} {X : Addr → Prop} {s : Shared} {h0 : Heap} {G0 : Array GenState} {D0 : Drawn} {T0 : Nat} {O0 : OsState} {E : Value → Shared → Prop} {Q : Flow → Shared → Prop} {rest : List Stmt}
/-- a tree that turns the ledger and gives a datum -/
abbrev TrD (prog : Program) (w : World) (A : Around) (X : Addr → Prop) (g₀ e₀ : Heap) (env : Env) (m : Str → Option Value) (mu : Mu) (g : Heap) (t : Sem Value) (P : PyData → Mu → Prop) : Prop :=
  TrX prog w A X g₀ e₀ env m mu g t (fun v mu' g' => ∃ d, P d mu' ∧ Rd g' v d)
def SpX (prog : Program) (w : World) (A : Around) (X : Addr → Prop) (g₀ e₀ : Heap) (env : Env) (m : Str → Option Value) (mu : Mu) (g : Heap) (ts : List (Bool × Sem Value)) (PP : List PyData → Mu → Prop) : Prop :=
  ∀ (s : Shared) (Q : List Value → Shared → Prop) (E : Value → Shared → Prop), At X g₀ e₀ env m mu g s.heap → (∀ vs ds mu' g' h' tk, At X g₀ e₀ env m mu' g' h' → Le g g' → PP ds mu' → RdAll g' vs ds → Q vs { s with heap := h', toks := tk }) → wpAny (model prog w) A (spliced ts) Q E s
theorem TrD.pure {t : Sem Value} {d : PyData} {P : PyData → Mu → Prop} (h : Tr prog w A env m mu g t (Da d)) (hP : P d mu) : TrD prog w A X g₀ e₀ env m mu g t P :=
  fun s Q E a k => h s g _ _ (Le.refl _) a.sit fun v g' h' tk G r => k v mu g' h' tk (a.grow G) G.gg ⟨d, hP, r⟩
theorem SpX.nil {PP : List PyData → Mu → Prop} (h : PP [] mu) : SpX prog w A X g₀ e₀ env m mu g [] PP := fun s Q E a k => Calls.spliced_nil (k [] [] mu g s.heap s.toks a (Le.refl _) h .nil)
theorem SpX.cons {t : Sem Value} {ts : List (Bool × Sem Value)} {P : PyData → Mu → Prop} {PP : List PyData → Mu → Prop} (h : TrD prog w A X g₀ e₀ env m mu g t P)
    (hs : ∀ d mu' g', P d mu' → Le g g' → SpX prog w A X g₀ e₀ env m mu' g' ts (fun ds mu2 => PP (d :: ds) mu2)) : SpX prog w A X g₀ e₀ env m mu g ((false, t) :: ts) PP :=
  fun s Q E a k => Calls.spliced_cons (h s _ _ a fun v mu' g' h' tk a' le ⟨d, hP, r⟩ => hs d mu' g' hP le _ _ _ a' fun vs ds mu2 g2 h2 tk2 a2 le2 hPP r2 => k (v :: vs) (d :: ds) mu2 g2 h2 tk2 a2 (le.trans le2) hPP (.cons (r.mono le2) r2))
theorem SpX.consE {pos : Pos} {e : Expr} {rest : List Expr} {P : PyData → Mu → Prop} {PP : List PyData → Mu → Prop} (h : TrD prog w A X g₀ e₀ env m mu g (eval e env) P)
    (hs : ∀ d mu' g', P d mu' → Le g g' → SpX prog w A X g₀ e₀ env m mu' g' (backTo pos (starEach rest env)) (fun ds mu2 => PP (d :: ds) mu2)) (he : starEach (e :: rest) env = (false, eval e env) :: starEach rest env := by rfl) :
    SpX prog w A X g₀ e₀ env m mu g (backTo pos (starEach (e :: rest) env)) PP := by
  rw [he]; exact SpX.cons h hs
/-- the rest of a row is plain -/
theorem SpX.pure {ts : List (Bool × Sem Value)} {ds : List PyData} {PP : List PyData → Mu → Prop} (h : SpD prog w A env m mu g ts ds) (hP : PP ds mu) : SpX prog w A X g₀ e₀ env m mu g ts PP :=
  fun s Q E a k => h s g _ _ (Le.refl _) a.sit fun vs g' h' tk G r => k vs ds mu g' h' tk (a.grow G) G.gg hP r
theorem TrD.list {elts : List Expr} {pos : Pos} {PP : List PyData → Mu → Prop} (h : SpX prog w A X g₀ e₀ env m mu g (backTo pos (starEach elts env)) PP) (hsz : ∀ ds mu', PP ds mu' → ds.length ≤ sizeLine) :
    TrD prog w A X g₀ e₀ env m mu g (eval (.List elts pos) env) (fun d mu' => ∃ ds, d = .list ds ∧ PP ds mu') :=
  fun s Q E a k => List_ (h _ _ _ a fun vs ds mu' g' h' tk a' le hPP r => newList_tr a'.le r (by rw [r.length]; exact hsz ds mu' hPP) fun v g2 h2 G2 r2 => k v mu' g2 h2 tk (a'.grow G2) (le.trans G2.gg) ⟨_, ⟨ds, rfl, hPP⟩, r2⟩)
theorem TrD.weak {t : Sem Value} {P P' : PyData → Mu → Prop} (h : TrD prog w A X g₀ e₀ env m mu g t P) (x : ∀ d mu', P d mu' → P' d mu') : TrD prog w A X g₀ e₀ env m mu g t P' :=
  TrX.weak h fun v mu' g' ⟨d, hP, r⟩ => ⟨d, x _ _ hP, r⟩

theorem St.retX {e : Expr} {pos : Pos} (h : wpAny (model prog w) A (eval e env) (fun v s' => Q (.ret v) s') E (Shared.mk h0 G0 D0 T0 O0)) : wpAny (model prog w) A (execs (.Return (some e) pos :: rest) env) Q E (Shared.mk h0 G0 D0 T0 O0) :=
  wpAny_execs_cons (wpAny_Return_some h)
theorem St.assignX {x : Str} {pos' pos : Pos} {e : Expr} {R : Value → Mu → Heap → Prop} (a : At X g₀ e₀ env m mu g h0) (h : TrX prog w A X g₀ e₀ env m mu g (eval e env) R)
    (k : ∀ v mu' g' h' tk, At X g₀ e₀ env (upd m x v) mu' g' h' → Le g g' → R v mu' g' → wpAny (model prog w) A (execs rest env) Q E (Shared.mk h' G0 D0 tk O0))
    (hl : env.kindOf x = some .local := by rfl) (hs : swapsWith e (some (.Name x pos')) pos.line env = pure false := by rfl) (hp : (env.scope.kind == .class || (env.scope.kind == .module && env.locals != env.globals)) = false := by rfl) :
    wpAny (model prog w) A (execs (.Assign [.Name x pos'] e pos :: rest) env) Q E (Shared.mk h0 G0 D0 T0 O0) :=
  wpAny_execs_cons (wpAny_Assign_Name (h (Shared.mk h0 G0 D0 T0 O0) _ _ a fun v mu' g' h' tk a' le r => wpAny_storeName_local hl a'.sit.ns (fun h2 hn hs => k v mu' g' h2 _ (a'.store hn hs) le r) hp) hs)
end

end
section
open PySem PySem.W PySem.Spec PySem.Calls PyProof.Rows

def plainF (k v : Str) : Fm := .mk k none v [] []
theorem plainF_rows (k v : Str) : rowsD (plainF k v) = .list [.str k, .str (S ""), .str v, .list [], .list []] := by rw [plainF, rowsD_mk]; rfl
def okPlain (f : Fm) : Prop := ∃ k v, f = plainF k v ∧ (k = S "text" ∨ k = S "comment") ∧ (v = S "x" ∨ v = S "y" ∨ v = S "")
section
variable {prog : Program} {w : World} {mg mb : Str → Option Value}
theorem law_one_spec (things : List PyData) (h1 : 1 ≤ things.length) (h2 : things.length ≤ 1000) : Eff prog w mg mb 2 87 [.list things] (fun g v => ∃ d ∈ things, Rd g v d) := by
  intro A s g l o vs Q E hR W hg hl gl hs r k
  have hz := sizeLine_eq
  obtain ⟨vt, rfl, rt⟩ := r.one
  refine call_at (binds := [(S "source", .ref l), (S "things", vt)]) (mu := [(l, o)]) (X := (· = l)) hR W hg (fun p hp => by rw [List.mem_singleton.mp hp]; exact ⟨⟨hl, gl⟩, rfl⟩) rfl rfl rfl rfl rfl (by decide) (locs rfl) rfl rfl rfl fun L h₁ tk E' a hR' => ?_
  refine St.retX (Subscript_ ?_)
  refine (Tr.name (R := Da (.list things)) rfl (mono_da _) rt) _ g _ _ (Le.refl _) a.sit fun v1 g1 h1' tk1 G1 r1 => ?_
  have a1 := a.grow G1
  refine (TrX.eff (l1 := []) (l2 := []) (W.mono G1.gg) hR' (gf_law_take _) (gd_law_take _) (law_take_spec (things.length : Int) (by omega) (by omega)) rfl (fun _ h => nomatch h) hs (SpR.cons (Tr.ref rfl) (SpE.cons ?_ SpE.nil))) _ _ _ a1 fun v2 mu2 g2 h2' tk2 a2 le2 ⟨o', hmu, ho', d, t, hv, hd0, hd1⟩ => ?_
  · exact Tr.bcall (W.mono G1.gg) (gb_len _) bb_len (Bc.len_list (by omega)) (SpE.cons (Tr.name rfl (mono_da _) (rt.mono G1.gg)) SpE.nil)
  · subst hv hmu
    obtain ⟨ax, us, rfl, hL, ra⟩ := (r1.mono le2).list_inv
    obtain ⟨d', hd'⟩ : ∃ d', things[d.toNat]? = some d' := ⟨things[d.toNat]'(by omega), by simp⟩
    obtain ⟨x, hx, rx⟩ := ra.get hd'
    have hL' := IsList.le a2.le hL
    refine tail_any hL'.typeIs slot_list_getitem.lookup (wpAny_getItem_list hL' hd0 (by omega) (by simpa using hx) ?_) (by with_unfolding_all rfl)
    exact k _ g2 h2' tk2 o' a2.done (a2.get (.head _)) ho' ⟨d', List.mem_of_getElem? hd', rx⟩

theorem law_plain_spec : Eff prog w mg mb 3 94 [] (fun g v => ∃ f, okPlain f ∧ Rd g v (rowsD f)) := by
  intro A s g l o vs Q E hR W hg hl gl hs r k
  obtain rfl := r.nil_inv
  refine call_at (binds := [(S "source", .ref l)]) (mu := [(l, o)]) (X := (· = l)) hR W hg (fun p hp => by rw [List.mem_singleton.mp hp]; exact ⟨⟨hl, gl⟩, rfl⟩) rfl rfl rfl rfl rfl (by decide) (locs rfl) rfl rfl rfl fun L h₁ tk E' a hR' => ?_
  refine St.assignX a (TrX.eff (l1 := []) (l2 := []) W hR' (gf_law_one _) (gd_law_one _) (law_one_spec [.str (S "text"), .str (S "text"), .str (S "comment")] (by decide) (by decide)) rfl (fun _ h => nomatch h) hs (SpR.cons (Tr.ref rfl) (SpE.cons (by tb_rel) SpE.nil))) fun v1 mu1 g1 h1' tk1 a1 hg1 ⟨o1, e1, ho1, d1, hd1, r1⟩ => ?_
  subst e1
  obtain ⟨kd, rfl, hkd⟩ : ∃ kd, d1 = .str kd ∧ (kd = S "text" ∨ kd = S "comment") := by
    simp only [List.mem_cons, List.not_mem_nil, or_false] at hd1
    rcases hd1 with rfl | rfl | rfl
    · exact ⟨_, rfl, .inl rfl⟩
    · exact ⟨_, rfl, .inl rfl⟩
    · exact ⟨_, rfl, .inr rfl⟩
  have W1 := W.mono hg1
  refine St.retX ?_
  refine (TrD.list (PP := fun ds mu' => ∃ vl o2, mu' = [(l, o2)] ∧ isSrc o2 ∧ (vl = S "x" ∨ vl = S "y" ∨ vl = S "") ∧ ds = [.str kd, .str (S ""), .str vl, .list [], .list []]) ?_
    (fun ds mu' ⟨vl, o2, _, _, _, e⟩ => by rw [e]; exact Nat.le_of_ble_eq_true rfl)) _ _ _ a1 fun v2 mu2 g2 h2 tk2 a2 hg2 ⟨d2, ⟨ds2, e2, vl, o2, em, ho2, hvl, eds⟩, r2⟩ => ?_
  · refine SpX.consE (P := fun d mu' => d = .str kd ∧ mu' = [(l, o1)]) (TrD.pure (Tr.name upd_self (mono_da _) r1) ⟨rfl, rfl⟩) fun d3 mu3 g3 ⟨e1, e2⟩ le3 => ?_
    subst e1 e2
    refine SpX.consE (P := fun d mu' => d = .str (S "") ∧ mu' = [(l, o1)]) (TrD.pure Tr.const_str ⟨rfl, rfl⟩) fun d4 mu4 g4 ⟨e1, e2⟩ le4 => ?_
    subst e1 e2
    refine SpX.consE (P := fun d mu' => ∃ vl o2, d = .str vl ∧ mu' = [(l, o2)] ∧ isSrc o2 ∧ (vl = S "x" ∨ vl = S "y" ∨ vl = S "")) ?_ fun d5 mu5 g5 ⟨vl, o2, e1, e2, ho2, hvl⟩ le5 => ?_
    · refine TrX.weak (TrX.eff (l1 := []) (l2 := []) (W1.mono (le3.trans le4)) hR' (gf_law_one _) (gd_law_one _) (law_one_spec [.str (S "x"), .str (S "y"), .str (S "")] (by decide) (by decide)) rfl (fun _ h => nomatch h) ho1 (SpR.cons (Tr.ref (upd_ne rfl rfl)) (SpE.cons (by tb_rel) SpE.nil))) fun v mu' g' ⟨o2, e, ho2, d, hd, r⟩ => ?_
      simp only [List.mem_cons, List.not_mem_nil, or_false] at hd
      rcases hd with rfl | rfl | rfl
      · exact ⟨_, ⟨_, o2, rfl, e, ho2, .inl rfl⟩, r⟩
      · exact ⟨_, ⟨_, o2, rfl, e, ho2, .inr (.inl rfl)⟩, r⟩
      · exact ⟨_, ⟨_, o2, rfl, e, ho2, .inr (.inr rfl)⟩, r⟩
    · subst e1 e2
      exact SpX.pure (ds := [.list [], .list []]) (SpE.cons (Tr.list SpE.nil) (SpE.cons (Tr.list SpE.nil) SpE.nil)) ⟨vl, o2, rfl, ho2, hvl, rfl⟩
  · subst e2 em eds
    exact k v2 g2 h2 tk2 o2 a2.done (a2.get (.head _)) ho2 ⟨plainF kd vl, ⟨kd, vl, rfl, hkd, hvl⟩, by rw [plainF_rows]; exact r2⟩
end

end
section
open PySem PySem.W PySem.Spec PySem.Calls PyProof.Rows

section
variable {prog : Program} {w : World} {mg mb : Str → Option Value}
theorem law_pool_spec (ns : List Int) (hns : ns.length ≤ 1000) {A : Around} {s : Shared} {g : Heap} {vs : List Value} {Q : Value → Shared → Prop} {E : Value → Shared → Prop} (hR : Rm 1 A) (W : Wd w mg mb g) (hg : Le g s.heap) (r : RdAll g vs [.list (ns.map .int), .int 0])
    (k : ∀ l us n g' h' tk a b, Grow g s.heap g' h' → g'.get? l = some (lstO us n) → s.heap.get? l = none → RdAll g' us [.int a, .int b] → 0 ≤ a → 0 ≤ b → b < 2147483647 → Q (.ref l) { s with heap := h', toks := tk }) :
    wpAny (model prog w) A (call (.ref 73) vs) Q E s := by
  have hz := sizeLine_eq
  obtain ⟨v, u, rfl, r1, r2⟩ := r.two
  refine call_at (binds := [(S "script", v), (S "k", u)]) (mu := []) (X := NoX) hR W hg (fun _ h => nomatch h) rfl rfl rfl rfl rfl (by decide) (locs rfl) rfl rfl rfl fun L h₁ tk E' a hR' => ?_
  obtain ⟨c, hc⟩ : ∃ c : Int, c = (if 0 < ns.length then ns.headD 0 else 0) := ⟨_, rfl⟩
  refine St.assign (R := Da (.int c)) a ?_ fun v1 g1 h1 tk1 a1 hg1 q1 => ?_
  · refine Tr.ifexp (b := decide ((0 : Int) < ((ns.map PyData.int).length : Int))) (Ts.cmp (Tr.name rfl (mono_da _) r2) (mono_da _) (Tr.bcall W (gb_len _) bb_len (Bc.len_list (by rw [List.length_map]; omega)) (SpE.cons (Tr.name rfl (mono_da _) r1) SpE.nil)) Cp.lt) (fun hb => ?_) fun hb => ?_
    · have hpos : 0 < ns.length := by have := of_decide_eq_true hb; rw [List.length_map] at this; omega
      refine Tr.sub_list (i := 0) (Tr.name rfl (mono_da _) r1) (Tr.name rfl (mono_da _) r2) (by decide) (by decide) ?_
      rw [hc, if_pos hpos]
      cases ns with
      | nil => cases hpos
      | cons x r => rfl
    · have hpos : ¬ 0 < ns.length := by have := of_decide_eq_false hb; rw [List.length_map] at this; omega
      rw [hc, if_neg hpos]
      exact Tr.const_int
  · obtain ⟨t1, rfl⟩ := q1.int_inv
    have W1 := W.mono hg1
    obtain ⟨gr, hgr⟩ : ∃ x : Int, x = (if -1 - c > c then -1 - c else c) := ⟨_, rfl⟩
    have hgr0 : 0 ≤ gr := by rw [hgr]; split <;> omega
    refine St.assign (R := Da (.int gr)) a1 ?_ fun v2 g2 h2 tk2 a2 hg2 q2 => ?_
    · rw [hgr]
      exact Tr.bcall W1 (gb_max _) bb_max (Bc.max hR'.hd) (SpE.cons (Tr.name upd_self (mono_da _) (.int _ _)) (SpE.cons (Tr.binop (Tr.neg Tr.const_int) (mono_da _) (Tr.name upd_self (mono_da _) (.int _ _)) Bo.sub_int) SpE.nil))
    · obtain ⟨t2, rfl⟩ := q2.int_inv
      have W2 := W1.mono hg2
      have r2' := r2.mono (hg1.trans hg2)
      have fb1 := fmod_bounds (a := gr) (b := 2147483629) (by decide)
      have fb2 := fmod_bounds (a := (gr.fmod 2147483629 + 7919 * 0 * 0 + 31 * 0 + 17) * 48271) (b := 2147483647) (by decide)
      refine St.assign (R := Da (.int (((gr.fmod 2147483629 + 7919 * 0 * 0 + 31 * 0 + 17) * 48271).fmod 2147483647))) a2 ?_ fun v3 g3 h3 tk3 a3 hg3 q3 => ?_
      · refine Tr.binop (Tr.binop (Tr.binop (Tr.binop (Tr.binop (Tr.binop (Tr.name upd_self (mono_da _) (.int _ _)) (mono_da _) Tr.const_int (Bo.mod_int (by decide))) (mono_da _) (Tr.binop (Tr.binop Tr.const_int (mono_da _) (Tr.name (upd_ne rfl (upd_ne rfl rfl)) (mono_da _) r2') (Bo.mul_int (.of_right (intBits_le_64 (by decide) (by decide))))) (mono_da _) (Tr.name (upd_ne rfl (upd_ne rfl rfl)) (mono_da _) r2') (Bo.mul_int (.of_right (intBits_le_64 (by decide) (by decide))))) Bo.add_int) (mono_da _) (Tr.binop Tr.const_int (mono_da _) (Tr.name (upd_ne rfl (upd_ne rfl rfl)) (mono_da _) r2') (Bo.mul_int (.of_right (intBits_le_64 (by decide) (by decide))))) Bo.add_int) (mono_da _) Tr.const_int Bo.add_int) (mono_da _) Tr.const_int (Bo.mul_int (.of_right (intBits_le_64 (by decide) (by decide))))) (mono_da _) Tr.const_int (Bo.mod_int (by decide))
      · obtain ⟨t3, rfl⟩ := q3.int_inv
        have W3 := W2.mono hg3
        refine St.retX ?_
        refine (TrH.list (ds := [.int (gr * (if decide ((10 : Int) ^ (18 : Int).toNat ≤ gr) then 1 else 0)), .int (((gr.fmod 2147483629 + 7919 * 0 * 0 + 31 * 0 + 17) * 48271).fmod 2147483647)]) (SpE.cons ?_ (SpE.cons (Tr.name upd_self (mono_da _) (.int _ _)) SpE.nil)) (Nat.le_of_ble_eq_true rfl)) _ g3 _ _ (Le.refl _) a3.sit fun v4 g4 h4 tk4 G4 q4 => ?_
        · refine Tr.binop (Tr.name (upd_ne rfl upd_self) (mono_da _) (.int _ _)) (mono_da _) (Tr.tcall W3 (gb_int _) bb_int Bc.int_bool (SpE.cons (Tr.cmp (Tr.name (upd_ne rfl upd_self) (mono_da _) (.int _ _)) (mono_da _) (Tr.binop Tr.const_int (mono_da _) Tr.const_int (Bo.pow_int (by decide) (by decide) (by decide))) Cp.ge) SpE.nil)) (Bo.mul_int (.of_right (intBits_le_64 ?_ ?_)))
          · split <;> decide
          · split <;> decide
        · obtain ⟨l, us, n, rfl, e1, e2, rr⟩ := q4
          have a4 := a3.grow G4
          refine k l us n g4 h4 tk4 _ _ a4.done0 e1 (a3.heap_none e2) rr ?_ fb2.1 fb2.2
          split
          · omega
          · omega
end

end
section
open PySem PySem.W PySem.Spec PySem.Calls PyProof.Rows

/-! ## a range's iterator -/
def rangeD (n : Nat) : List PyData := (List.range n).map fun (i : Nat) => PyData.int (i : Int)
section
variable {prog : Program} {w : World} {A : Around} {env : Env} {m : Str → Option Value} {mu : Mu} {g g₀ e₀ : Heap} {mg mb : Str → Option Value} {X : Addr → Prop} {s : Shared} {h0 : Heap} {G0 : Array GenState} {D0 : Drawn} {T0 : Nat} {O0 : OsState} {E : Value → Shared → Prop} {Q : Flow → Shared → Prop} {rest : List Stmt}
theorem itr_range {it : Addr} {n : Nat} {T : Expr → Prop} (hh : A.handled = none) (hn : g.get? it = none) :
    Itr prog w A T g it [it] (rangeD n) (fun i h => IsRangeIter h it (i : Int) ((n : Int) - (i : Int)) 1 ∧ Le g h) (fun i _ h => IsRangeIter h it ((i + 1 : Nat) : Int) ((n : Int) - ((i + 1 : Nat) : Int)) 1 ∧ Le g h) where
  off := fun b hb => by rw [List.mem_singleton.mp hb]; exact hn
  has := fun i h st b hb => by rw [List.mem_singleton.mp hb]; exact ⟨_, st.1⟩
  frame := fun i h h' st le k => ⟨k it (List.mem_singleton.mpr rfl) _ st.1, le⟩
  item := fun i d s g₁ Q E hd st hg hg1 hoff k => by
    simp only [rangeD, List.getElem?_map, Option.map_eq_some_iff] at hd
    obtain ⟨j, hj, rfl⟩ := hd
    obtain ⟨hlt, hij⟩ := List.getElem?_eq_some_iff.mp hj
    rw [List.length_range] at hlt
    rw [List.getElem_range] at hij
    subst hij
    have n1 : g₁.get? it = none := hoff it (List.mem_singleton.mpr rfl)
    refine wpAny_pyNext_range_item st.1 (by omega) fun h' hit hs => ?_
    have G := growX_of_same (fp := [it]) (List.mem_singleton.mpr rfl) hg1 n1 (fun b o hb e => hs.extBut b o hb e) ⟨_, hit⟩
    have e1 : ((i + 1 : Nat) : Int) = (i : Int) + 1 := by omega
    have e2 : (n : Int) - ((i + 1 : Nat) : Int) = (n : Int) - (i : Int) - 1 := by omega
    exact k _ g₁ h' _ G ⟨by rw [e2, e1]; exact hit, hg.trans G.gh⟩ (.int _ _)
  go := fun i v target s g₁ Q E _ mid hg hg1 hoff k => by
    exact go_plain mid.1 rfl rfl (by decide) (k s.heap (GrowX.refl hg1) mid)
  done := fun s g₁ Q E st hg hg1 hoff k =>
    wpAny_pyNext_range_end hh st.1 (by simp [rangeD]) fun h' he => k h' s.toks fun b o n e => he b o (fun z => n (List.mem_singleton.mpr z)) e
  self := fun s Q E st hQ => wpAny_pyIter_rangeiter st.1 hQ

/-! ## the loop behind an iterator that stands -/
set_option maxHeartbeats 1000000 in
theorem for_loop {target : Expr} {body : List Stmt} {T : Expr → Prop} {xs : List PyData} {it : Addr} {fp : List Addr} {St : Nat → Heap → Prop} {Mid : Nat → Value → Heap → Prop} {R : Result → Shared → Prop} {gI : Heap} (I : Nat → (Str → Option Value) → Mu → Heap → Prop) (J : Nat → PyData → (Str → Option Value) → Mu → Heap → Prop) (as : List Addr)
    (It : Itr prog w A T gI it fp xs St Mid) (st0 : St 0 s.heap) (a : At X g₀ e₀ env m mu gI s.heap) (fpL : ∀ b ∈ fp, b ≠ env.locals) (fpe : ∀ b ∈ fp, e₀.get? b = none) (fpas : ∀ b ∈ fp, b ∉ as) (hT : T target) (has : mu.map (·.1) = as)
    (hasg : ∀ i d v m mu g h tk (Q' : Unit → Shared → Prop) E', xs[i]? = some d → At X g₀ e₀ env m mu g h → I i m mu g → mu.map (·.1) = as → Rd g v d →
      (∀ m' mu' h' tk', At X g₀ e₀ env m' mu' g h' → mu'.map (·.1) = as → GrowX (fun b => b = env.locals ∨ b ∈ as) g h g h' → J i d m' mu' g → Q' () { s with heap := h', toks := tk' }) → wpAny (model prog w) A (assign target env v) Q' E' { s with heap := h, toks := tk })
    (hI : I 0 m mu gI) (mono : ∀ i m mu g g', Le g g' → I i m mu g → I i m mu g')
    (turn : ∀ i d m mu g h tk E' e', xs[i]? = some d → J i d m mu g → mu.map (·.1) = as → Le g₀ g → At (· ∈ as) g e' env m mu g h →
      wpAny (model prog w) A (execs body env) (fun f s2 => match f with
        | .next | .cont => ∃ m2 mu2 g2 h2 tk2, s2 = { s with heap := h2, toks := tk2 } ∧ At (· ∈ as) g e' env m2 mu2 g2 h2 ∧ mu2.map (·.1) = as ∧ I (i + 1) m2 mu2 g2
        | .brk => False
        | .ret _ => False) E' { s with heap := h, toks := tk })
    (done : ∀ m mu g h tk, I xs.length m mu g → mu.map (·.1) = as → At X g₀ e₀ env m mu g h → R (.ok .next) { s with heap := h, toks := tk }) :
    codeAny (model prog w) A (.forLoop target (.ref it) body [] env) R s := by
  have fpmu : ∀ mu : Mu, mu.map (·.1) = as → ∀ b ∈ fp, ∀ p ∈ mu, p.1 ≠ b := fun mu hm b hb p hp z => fpas b hb (by rw [← hm, ← z]; exact List.mem_map_of_mem hp)
  refine codeAny_forLoop_any (fun k s' => ∃ i m mu g h tk, s' = { s with heap := h, toks := tk } ∧ i ≤ xs.length ∧ k = xs.length + 1 - i ∧ At X g₀ e₀ env m mu g h ∧ mu.map (·.1) = as ∧ St i h ∧ Le gI g ∧ (∀ b ∈ fp, g.get? b = none) ∧ I i m mu g) ?_ (xs.length + 1)
    ⟨0, m, mu, gI, s.heap, s.toks, rfl, Nat.zero_le _, rfl, a, has, st0, Le.refl _, It.off, hI⟩
  rintro k s' ⟨i, m, mu, g, h, tk, rfl, hi, rfl, a, has, st, leI, off, hi0⟩
  by_cases hlt : i < xs.length
  · obtain ⟨d, hd⟩ : ∃ d, xs[i]? = some d := ⟨xs[i], by simp [hlt]⟩
    refine It.item i d _ g _ _ hd st leI a.le off fun v ga ha tka Ga mid rv => ?_
    have offa : ∀ b ∈ fp, ga.get? b = none := fun b hb => by obtain ⟨o, e⟩ := It.has i _ st b hb; exact Ga.fr b o e (off b hb)
    refine It.go i v target _ ga _ _ hT mid (leI.trans Ga.gg) Ga.gh offa fun hb Gb stb => ?_
    have ab : At X g₀ e₀ env m mu ga hb := a.off (Ga.trans Gb) fun b hb' => ⟨fpL b hb', fpe b hb', fpmu mu has b hb'⟩
    refine hasg i d v m mu ga hb tka _ _ hd ab (mono _ _ _ _ _ Ga.gg hi0) has rv fun m' mu' hc tkc ac has' Gc hJ => ?_
    have stc : St (i + 1) hc := It.frame _ _ _ stb (leI.trans (Ga.gg.trans Gc.gh)) fun b hb' o e => Gc.hh b o (fun z => z.elim (fpL b hb') (fpas b hb')) e
    obtain ⟨e', q, at'⟩ := ac.into has'
    refine wpAny_mono (turn i d m' mu' ga hc tkc _ e' hd hJ has' ac.gr.gg at') (fun f s2 z => ?_) fun _ _ x => x
    have fin : (∃ m2 mu2 g2 h2 tk2, s2 = { s with heap := h2, toks := tk2 } ∧ At (· ∈ as) ga e' env m2 mu2 g2 h2 ∧ mu2.map (·.1) = as ∧ I (i + 1) m2 mu2 g2) →
        ∃ k, k < xs.length + 1 - i ∧ ∃ i m mu g h tk, s2 = { s with heap := h, toks := tk } ∧ i ≤ xs.length ∧ k = xs.length + 1 - i ∧ At X g₀ e₀ env m mu g h ∧ mu.map (·.1) = as ∧ St i h ∧ Le gI g ∧ (∀ b ∈ fp, g.get? b = none) ∧ I i m mu g := by
      rintro ⟨m2, mu2, g2, h2, tk2, rfl, a2, has2, hi2⟩
      have keep : ∀ b ∈ fp, ∀ o, hc.get? b = some o → e'.get? b = some o := fun b hb' o e => by rw [q, if_neg (fpL b hb')]; exact e
      refine ⟨xs.length + 1 - (i + 1), by omega, i + 1, m2, mu2, g2, h2, tk2, rfl, hlt, rfl, ac.back has' q a2 has2, has2, ?_, leI.trans (Ga.gg.trans a2.gr.gg), fun b hb' => ?_, hi2⟩
      · exact It.frame _ _ _ stc (leI.trans (Ga.gg.trans (a2.gr.gg.trans a2.gr.gh))) fun b hb' o e => a2.gr.hh b o (fun z => z.elim (fpL b hb') (fpas b hb')) (keep b hb' o e)
      · obtain ⟨o, e⟩ := It.has _ _ stc b hb'
        exact a2.gr.fr b o (keep b hb' o e) (offa b hb')
    cases f with
    | next => exact fin z
    | cont => exact fin z
    | brk => exact z.elim
    | ret v => exact z.elim
  · have hin : i = xs.length := by omega
    subst hin
    refine It.done _ g _ _ st leI a.le off fun hz tkz keep => wpAny_execs_nil ?_
    exact done m mu g hz tkz hi0 has (a.offDone keep fun b hb => ⟨off b hb, fpL b hb, fpe b hb, fpmu mu has b hb⟩)
/-- «for x in range(e)» -/
theorem St.forRange {x : Str} {px np rp pos : Pos} {e : Expr} {body : List Stmt} (P : PyData → Mu → Prop) (N : Nat) (I : Nat → Nat → (Str → Option Value) → Mu → Heap → Prop) (as : List Addr) (W : Wd w mg mb g) (hh : A.handled = none) (a : At X g₀ e₀ env m mu g h0)
    (he : ∀ g', Le g g' → TrD prog w A X g₀ e₀ env m mu g' (eval e env) P) (hP : ∀ d mu', P d mu' → ∃ k : Nat, d = .int (k : Int) ∧ k ≤ N ∧ mu'.map (·.1) = as) (hN : N ≤ 1000000)
    (hI : ∀ (k : Nat) mu' g', P (.int (k : Int)) mu' → Le g g' → I k 0 m mu' g') (mono : ∀ n i m mu g g', Le g g' → I n i m mu g → I n i m mu g')
    (turn : ∀ (n i : Nat) t m mu g h tk E' e', i < n → I n i m mu g → mu.map (·.1) = as → Le g₀ g → At (· ∈ as) g e' env (upd m x (.int (i : Int) t)) mu g h →
      wpAny (model prog w) A (execs body env) (fun f s2 => match f with
        | .next | .cont => ∃ m2 mu2 g2 h2 tk2, s2 = (Shared.mk h2 G0 D0 tk2 O0) ∧ At (· ∈ as) g e' env m2 mu2 g2 h2 ∧ mu2.map (·.1) = as ∧ I n (i + 1) m2 mu2 g2
        | .brk => False
        | .ret _ => False) E' (Shared.mk h G0 D0 tk O0))
    (done : ∀ (n : Nat) m mu g h tk, I n n m mu g → mu.map (·.1) = as → At X g₀ e₀ env m mu g h → wpAny (model prog w) A (execs rest env) Q E (Shared.mk h G0 D0 tk O0))
    (hse : starEach [e] env = (false, eval e env) :: starEach [] env := by rfl) (hpl : (backTo rp (starEach [] env)).any (·.1) = false := by rfl) (hlx : env.kindOf x = some .local := by rfl) (hpp : (env.scope.kind == .class || (env.scope.kind == .module && env.locals != env.globals)) = false := by rfl)
    (hs : ∀ y, foldedSetIterable (.Call (.Name (PySem.Str.ofString "range") np) [e] [] rp) env y = pure y := by intro _; rfl)
    (hk : env.scope.kind = .function := by rfl) (hl : env.kindOf (PySem.Str.ofString "range") = some .globalImplicit := by rfl) (hG : env.globals = mainGlobals := by rfl) (hB : env.builtins = builtinsNs := by rfl) :
    wpAny (model prog w) A (execs (.For (.Name x px) (.Call (.Name (PySem.Str.ofString "range") np) [e] [] rp) body [] pos :: rest) env) Q E (Shared.mk h0 G0 D0 T0 O0) := by
  refine wpAny_execs_cons (wpAny_For ?_ hs)
  refine wpAny_Call_NameR ((Tr.bltn (R := fun _ v => v = .type "range") W (gb_range w) bb_range (by decide) (fun _ _ _ _ r => r) rfl hk hl hG hB (by decide)) (Shared.mk h0 G0 D0 T0 O0) g _ _ (Le.refl _) a.sit fun v g1 h1 tk1 G1 r => ?_)
  subst r
  refine PyProof.Rows.callWith_type1 (args_cons (he g1 G1.gg _ _ _ (a.grow G1) fun v2 mu2 g2 h2 tk2 a2 hg2 ⟨d, hPd, r2⟩ => args_nil ?_) hse) hse hpl
  obtain ⟨n, rfl, hn, has⟩ := hP d mu2 hPd
  obtain ⟨t, rfl⟩ := r2.int_inv
  refine call_range_1 ?_
  refine wpAny_pyIter_range (IsRange.new ..) (small_one (by decide) (by decide) (by omega) (by omega)) ?_
  have hsz : Builtin.Range.rangeSize 0 (n : Int) 1 = (n : Int) := by rw [rangeSize_one]; split <;> omega
  rw [hsz]
  have G3 := (Grow.push0 a2.le { cls := .type "range", data := .fields #[.int 0 tk2, .int (n : Int) t, .int 1 (tk2 + 1)] })
  have G4 := (Grow.push0 G3.gh { cls := .type "range_iterator", data := .fields #[rawInt 0, rawInt (n : Int), rawInt 1] })
  have a4 := (a2.grow G3).grow G4
  generalize hH3 : h2.push { cls := .type "range", data := .fields #[.int 0 tk2, .int (n : Int) t, .int 1 (tk2 + 1)] } = H3 at G4 a4 ⊢
  have fr : ∀ b o, h2.get? b = some o → b ≠ H3.objs.size := fun b o q z => by
    have := Heap.lt_size q
    rw [z, ← hH3, Heap.size_push] at this
    exact absurd this (Nat.not_lt.mpr (Nat.le_succ _))
  have itE : IsRangeIter (H3.push { cls := .type "range_iterator", data := .fields #[rawInt 0, rawInt (n : Int), rawInt 1] }) H3.objs.size 0 (n : Int) 1 := Heap.get?_push_size _ rfl
  have hg3 : g2.get? H3.objs.size = none := (a2.le.trans (hH3 ▸ Le.push h2 _)).none (get_fresh _)
  refine for_loop (T := fun _ => True) (xs := rangeD n) (fun i m mu g => I n i m mu g) (fun i d m' mu g => ∃ t m, d = .int (i : Int) ∧ i < n ∧ m' = upd m x (.int (i : Int) t) ∧ I n i m mu g) as (itr_range hh hg3) ⟨by simpa using itE, G4.gh⟩ a4 (fun b hb => ?_) (fun b hb => ?_) (fun b hb => ?_) trivial has (fun i d v m mu g h tk Q' E' hd a hi hm r k => ?_)
    (hI n mu2 g2 hPd (G1.gg.trans hg2)) (fun i m mu g g' le q => mono n i m mu g g' le q) (fun i d m mu g h tk E' e' hd ⟨t, m1, hdd, hlt, hm, hi⟩ hs hle a => by subst hm; exact turn n i t m1 mu g h tk E' e' hlt hi hs hle a) (fun m mu g h tk hi hs a => done n m mu g h tk (by simpa [rangeD] using hi) hs a)
  · rw [List.mem_singleton.mp hb]
    obtain ⟨o, _, _, q, _⟩ := a2.sit.ns
    exact fun z => fr _ _ q z.symm
  · rw [List.mem_singleton.mp hb]
    refine a2.heap_none ?_
    cases q : h2.get? H3.objs.size with
    | none => rfl
    | some o => exact absurd rfl (fr _ _ q)
  · rw [List.mem_singleton.mp hb, ← has]
    intro z
    obtain ⟨p, hp, e⟩ := List.mem_map.mp z
    exact fr _ _ (a2.sit.mu p hp).1 e
  · simp only [rangeD, List.getElem?_map, Option.map_eq_some_iff] at hd
    obtain ⟨j, hj, rfl⟩ := hd
    obtain ⟨hlt, hij⟩ := List.getElem?_eq_some_iff.mp hj
    rw [List.length_range] at hlt
    rw [List.getElem_range] at hij
    subst hij
    obtain ⟨t', rfl⟩ := r.int_inv
    refine wpAny_assign_Name (wpAny_storeName_local hlx a.sit.ns (fun h' hn' hs' => ?_) hpp)
    have a' := a.store hn' hs'
    refine k (upd m x (.int (i : Int) t')) mu h' _ a' hm ⟨Le.refl _, a'.le, fun b o nz q => (hs'.2 b fun z => nz (.inl z)).trans q, fun b o q => ?_, fun _ _ _ z => z⟩ ⟨t', m, rfl, hlt, rfl, hi⟩
    by_cases z : b = env.locals
    · subst z; obtain ⟨o', _, _, r', _⟩ := hn'; exact ⟨o', r'⟩
    · exact ⟨o, (hs'.2 b z).trans q⟩
end

end
section
open PySem PySem.W PySem.Spec PySem.Calls PyProof.Rows

section
variable {X : Addr → Prop} {g₀ e g h g2 h2 e' : Heap} {env cenv : Env} {m mC : Str → Option Value} {mu mu2 : Mu} {as : List Addr} {D C : Addr} {oD : Obj}
/-- into a comprehension's frame, and back -/
theorem At.intoC (a : At X g₀ e env m mu g h) (has : mu.map (·.1) = as) (hC : cenv.locals = C) (hn : h.Ns C mC) (gC : g.get? C = none) (mC' : ∀ p ∈ mu, p.1 ≠ C) : ∃ e', (∀ b, e'.get? b = if b = C then none else h.get? b) ∧ At (· ∈ as) g e' cenv mC mu g h := by
  obtain ⟨e', q⟩ := hide_ex h C
  subst hC
  have le : ∀ b o, e'.get? b = some o → h.get? b = some o := fun b o z => by rw [q] at z; split at z; · cases z
                                                                             · exact z
  refine ⟨e', q, ⟨a.le, hn, gC, a.sit.mu⟩, ⟨Le.refl g, a.le, fun b o _ z => le b o z, fun b o z => ⟨o, le b o z⟩, fun _ _ _ z => z⟩, by rw [q, if_pos rfl], fun p hp => ⟨mC' p hp, .inl (by rw [← has]; exact List.mem_map_of_mem hp)⟩⟩
theorem At.backC (a : At X g₀ e env m ((D, oD) :: mu) g h) (has : mu.map (·.1) = as) (q : ∀ b, e'.get? b = if b = C then none else h.get? b) (b : At (· ∈ as) g e' cenv mC mu2 g2 h2) (hC : cenv.locals = C) (has2 : mu2.map (·.1) = as)
    (CL : C ≠ env.locals) (Ce : e.get? C = none) (DC : D ≠ C) (Das : D ∉ as) (Las : env.locals ∉ as) : At X g₀ e env m ((D, oD) :: mu2) g2 h2 := by
  subst hC
  have kp : ∀ c o, c ≠ cenv.locals → c ∉ as → h.get? c = some o → h2.get? c = some o := fun c o n1 n2 z => b.gr.hh c o (fun y => y.elim n1 n2) (by rw [q, if_neg n1]; exact z)
  have fr : ∀ c o, c ≠ cenv.locals → h.get? c = some o → g.get? c = none → g2.get? c = none := fun c o n1 z n => b.gr.fr c o (by rw [q, if_neg n1]; exact z) n
  have nas : ∀ c o, ¬ X c → e.get? c = some o → c ∉ as := fun c o n z hc => by
    rw [← has] at hc
    obtain ⟨p, hp, rfl⟩ := List.mem_map.mp hc
    rcases (a.mu p (.tail _ hp)).2 with hX | hX
    · exact n hX
    · rw [hX] at z; cases z
  have neC : ∀ c o, e.get? c = some o → c ≠ cenv.locals := fun c o z y => by subst y; rw [Ce] at z; cases z
  obtain ⟨oL, _, _, eL, _⟩ := a.sit.ns
  obtain ⟨dh, dg⟩ := a.sit.mu _ (.head _)
  refine ⟨⟨b.gr.gh, a.sit.ns.at' fun o z => kp _ o (Ne.symm CL) Las z, fr _ _ (Ne.symm CL) eL a.sit.gL, fun p hp => ?_⟩, ⟨a.gr.gg.trans b.gr.gg, b.gr.gh, fun c o n z => ?_, fun c o z => ?_, fun c o z n => ?_⟩, a.eL, fun p hp => ?_⟩
  · rcases List.mem_cons.mp hp with rfl | hp
    · exact ⟨kp _ _ DC Das dh, fr _ _ DC dh dg⟩
    · exact b.sit.mu p hp
  · have z1 := a.gr.hh c o n z
    exact kp c o (neC c o z) (nas c o (fun y => n (.inr y)) z) z1
  · obtain ⟨o', z1⟩ := a.gr.dm c o z
    obtain ⟨o2, z2⟩ := b.gr.dm c o' (by rw [q, if_neg (neC c o z)]; exact z1)
    exact ⟨o2, z2⟩
  · obtain ⟨o', z1⟩ := a.gr.dm c o z
    exact fr c o' (neC c o z) z1 (a.gr.fr c o z n)
  · rcases List.mem_cons.mp hp with rfl | hp
    · exact a.mu _ (.head _)
    · have : p.1 ∈ mu.map (·.1) := by rw [has, ← has2]; exact List.mem_map_of_mem hp
      obtain ⟨p', hp', e1⟩ := List.mem_map.mp this
      rw [← e1]
      exact a.mu p' (.tail _ hp')
end

section
variable {prog : Program} {w : World} {A : Around} {env : Env} {m : Str → Option Value} {mu : Mu} {g g₀ e₀ : Heap} {mg mb : Str → Option Value} {X : Addr → Prop} {s : Shared} {h0 : Heap} {G0 : Array GenState} {D0 : Drawn} {T0 : Nat} {O0 : OsState} {E : Value → Shared → Prop} {Q : Flow → Shared → Prop} {rest : List Stmt}
/-- «x = [elt for target in iter]»: the ledger may turn in the items -/
theorem St.comp {x : Str} {px pos cpos : Pos} {elt target iter : Expr} {scope : Scope} {cl : List (Str × Addr)} {T : Expr → Prop} (bs : PyData → List (Str × PyData)) (as : List Addr) (PI : List PyData → Mu → Heap → Prop) (I : List PyData → Nat → Mu → Heap → List PyData → Prop) (a : At X g₀ e₀ env m mu g h0)
    (hsrc : ∀ (Q' : Value → Shared → Prop), (∀ it fp St Mid xs mu' g' h' tk, At X g₀ e₀ env m mu' g' h' → Le g g' → Itr prog w A T g' it fp xs St Mid → St 0 h' → (∀ b ∈ fp, b ≠ env.locals ∧ e₀.get? b = none ∧ b ∉ as) → mu'.map (·.1) = as → PI xs mu' g' → Q' (.ref it) (Shared.mk h' G0 D0 tk O0)) →
      wpAny (model prog w) A (eval iter env) (fun v s₁ => wpAny (model prog w) A (pyIter v) Q' E s₁) E (Shared.mk h0 G0 D0 T0 O0))
    (hT : T target) (hasg : ∀ xs mu g C d, PI xs mu g → d ∈ xs → Asg prog w A (compEnvC scope cl C env) target d (bs d)) (hlen : ∀ xs mu g, PI xs mu g → xs.length ≤ sizeLine)
    (hI : ∀ xs mu' g' g2, PI xs mu' g' → Le g' g2 → I xs 0 mu' g2 []) (mono : ∀ xs i mu g g' ys, Le g g' → I xs i mu g ys → I xs i mu g' ys)
    (turn : ∀ xs i d C mC mu g h tk E' e' ys, xs[i]? = some d → I xs i mu g ys → mu.map (·.1) = as → Le g₀ g → Bd g mC (bs d) → At (· ∈ as) g e' (compEnvC scope cl C env) mC mu g h →
      wpAny (model prog w) A (eval elt (compEnvC scope cl C env)) (fun v s2 => ∃ mu2 g2 h2 tk2 dv, s2 = (Shared.mk h2 G0 D0 tk2 O0) ∧ At (· ∈ as) g e' (compEnvC scope cl C env) mC mu2 g2 h2 ∧ mu2.map (·.1) = as ∧ Rd g2 v dv ∧ I xs (i + 1) mu2 g2 (ys ++ [dv])) E' (Shared.mk h G0 D0 tk O0))
    (k : ∀ v xs mu' g' h' tk ys, At X g₀ e₀ env (upd m x v) mu' g' h' → Le g g' → mu'.map (·.1) = as → Rd g' v (.list ys) → I xs xs.length mu' g' ys → wpAny (model prog w) A (execs rest env) Q E (Shared.mk h' G0 D0 tk O0))
    (hsw : swapsWith (.ListComp elt [⟨target, iter, [], 0⟩] scope cpos) (some (.Name x px)) pos.line env = pure true) (hclos : closureFor scope env = pure cl) (hcell : ∀ y ∈ scope.names, y.2 ≠ .cell) (hkind : scope.kind = .function) (hnames : ∀ y ∈ scope.names, y.2 = .local → scope.names.lookup y.1 = some .local)
    (hs : ∀ x, foldedSetIterable iter env x = pure x := by intro _; rfl) (hlx : env.kindOf x = some .local := by rfl) (hpp : (env.scope.kind == .class || (env.scope.kind == .module && env.locals != env.globals)) = false := by rfl) :
    wpAny (model prog w) A (execs (.Assign [.Name x px] (.ListComp elt [⟨target, iter, [], 0⟩] scope cpos) pos :: rest) env) Q E (Shared.mk h0 G0 D0 T0 O0) := by
  refine wpAny_execs_cons ?_
  rw [exec_Assign_Name_used _ _ _ _ hsw]
  refine wpAny_bind (wpAny_standAt (wpAny_bind ?_))
  show wpAny (model prog w) A (comprehension (.ListComp elt [⟨target, iter, [], 0⟩] scope cpos) scope env (firstIterPos [⟨target, iter, [], 0⟩] cpos) (newList []) false (eval iter env) (some (PySem.assign (.Name x px) env)) >>= fun _ => pure ()) _ _ _
  refine wpAny_bind (wpAny_comprehension_free (use := some (PySem.assign (.Name x px) env)) rfl hs hclos hkind hnames (hsrc _ fun it fp St Mid xs mu2 g2 h2 tk2 a2 hg2 It st0 hfresh has2 hPI => ?_))
  refine wpAny_newObj_type (wpAny_newFunctionEnv hcell (by intro y hy; simp at hy) (fun h₁ hns₁ hsb₁ => ?_) hkind)
  dsimp only at hns₁ hsb₁ ⊢
  generalize hH2 : h2.push { cls := .type "list", dict := none, data := .seq ([] : List Value).toArray } = H2 at hns₁ hsb₁ ⊢
  generalize hD : h2.objs.size = D at hns₁ hsb₁ ⊢
  generalize hC : H2.objs.size = C at hns₁ hsb₁ ⊢
  have hCs : C = D + 1 := by rw [← hC, ← hH2, Heap.size_push, hD]
  have hDC : D ≠ C := by rw [hCs]; exact Nat.ne_of_lt (Nat.lt_succ_self _)
  have nD : ∀ b o, h2.get? b = some o → b ≠ D ∧ b ≠ C := fun b o e => by
    have := Heap.lt_size e
    rw [hD] at this
    exact ⟨Nat.ne_of_lt this, by rw [hCs]; exact Nat.ne_of_lt (Nat.lt_succ_of_lt this)⟩
  have aD : At X g₀ e₀ env m ((D, lstO [] 0) :: mu2) g2 H2 := by rw [← hH2, ← hD]; exact a2.alloc _ rfl
  have old : Le H2 h₁ := fun b o e => hsb₁.extBut b o (by have := Heap.lt_size e; rw [hC] at this; exact Nat.ne_of_lt this) (Heap.get?_push_of_some _ e)
  have a3 := aD.grow (Grow.of_le aD.le old)
  have neC : ∀ b o, H2.get? b = some o → b ≠ C := fun b o e => by have := Heap.lt_size e; rw [hC] at this; exact Nat.ne_of_lt this
  have gC : g2.get? C = none := by
    cases q : g2.get? C with
    | none => rfl
    | some o => exact absurd rfl (neC C o (aD.le C o q))
  have eC : e₀.get? C = none := aD.heap_none (by rw [← hC]; exact get_fresh _)
  have CL : C ≠ env.locals := fun z => by obtain ⟨o, _, _, q, _⟩ := aD.sit.ns; exact neC _ o q z.symm
  have eD : e₀.get? D = none := a2.heap_none (by rw [← hD]; exact get_fresh _)
  have Das : D ∉ as := fun z => by
    rw [← has2] at z
    obtain ⟨p, hp, e⟩ := List.mem_map.mp z
    exact (nD _ _ (a2.sit.mu p hp).1).1 e
  have Cas : C ∉ as := fun z => by
    rw [← has2] at z
    obtain ⟨p, hp, e⟩ := List.mem_map.mp z
    exact (nD _ _ (a2.sit.mu p hp).1).2 e
  have Las : env.locals ∉ as := fun z => by
    rw [← has2] at z
    obtain ⟨p, hp, e⟩ := List.mem_map.mp z
    exact (a2.mu p hp).1 e
  have Dfp : D ∉ fp := fun hm => by obtain ⟨o, e⟩ := It.has 0 _ st0 D hm; exact (nD D o e).1 rfl
  have Cfp : C ∉ fp := fun hm => by obtain ⟨o, e⟩ := It.has 0 _ st0 C hm; exact (nD C o e).2 rfl
  have lenx := hlen xs mu2 g2 hPI
  have fpC : ∀ b ∈ fp, b ≠ C := fun b hb z => Cfp (z ▸ hb)
  have fpD : ∀ b ∈ fp, b ≠ D := fun b hb z => Dfp (z ▸ hb)
  have st1 : St 0 h₁ := It.frame 0 _ _ st0 a3.le fun b _ o e => old b o (hH2 ▸ Heap.get?_push_of_some _ e)
  have muD : ∀ mu : Mu, mu.map (·.1) = as → ∀ p ∈ mu, p.1 ≠ D := fun mu hm p hp z => Das (by rw [← hm, ← z]; exact List.mem_map_of_mem hp)
  have muC : ∀ mu : Mu, mu.map (·.1) = as → ∀ p ∈ mu, p.1 ≠ C := fun mu hm p hp z => Cas (by rw [← hm, ← z]; exact List.mem_map_of_mem hp)
  have muF : ∀ (mu : Mu) (ys : List Value) n, mu.map (·.1) = as → ∀ b ∈ fp, ∀ p ∈ (D, lstO ys n) :: mu, p.1 ≠ b := fun mu ys n hm b hb p hp z => by
    rcases List.mem_cons.mp hp with rfl | hp
    · exact Dfp (by rw [show D = b from z]; exact hb)
    · exact (hfresh b hb).2.2 (by rw [← hm, ← z]; exact List.mem_map_of_mem hp)
  have muC' : ∀ (mu : Mu) (ys : List Value) n, mu.map (·.1) = as → ∀ p ∈ (D, lstO ys n) :: mu, p.1 ≠ C := fun mu ys n hm p hp => by
    rcases List.mem_cons.mp hp with rfl | hp
    · exact hDC
    · exact muC mu hm p hp
  have loop : ∀ tk, codeAny (model prog w) A (.compLoop (.ListComp elt [⟨target, iter, [], 0⟩] scope cpos) 0 (.ref it) (.ref D) (compEnvC scope cl C env)) (compPost (model prog w) A E (some (PySem.assign (.Name x px) env)) (fun v s' => wpAny (model prog w) A (pure () : Sem Unit) (fun _ s'' => wpAny (model prog w) A (pure Flow.next) (fun f s3 => match f with | .next => wpAny (model prog w) A (execs rest env) Q E s3 | f => Q f s3) E s'') E s') (.ref D) C) (Shared.mk h₁ G0 D0 tk O0) := by
    intro tk₁
    refine compLoop_go (fun kk s' => ∃ i mu' g' h' tk mC ys n yd, s' = (Shared.mk h' G0 D0 tk O0) ∧ i ≤ xs.length ∧ kk = xs.length + 1 - i ∧ At X g₀ e₀ env m ((D, lstO ys n) :: mu') g' h' ∧ mu'.map (·.1) = as ∧ St i h' ∧ h'.Ns C mC ∧ g'.get? C = none ∧ (∀ b ∈ fp, g'.get? b = none) ∧ Le g2 g' ∧ RdAll g' ys yd ∧ yd.length = i ∧ I xs i mu' g' yd) ?_ (xs.length + 1)
      ⟨0, mu2, g2, h₁, tk₁, _, [], 0, [], rfl, Nat.zero_le _, rfl, a3, has2, st1, hns₁, gC, It.off, Le.refl _, .nil, rfl, hI xs mu2 g2 g2 hPI (Le.refl _)⟩
    rintro kk s' E' ⟨i, mu', g', h', tk, mC, ys, n, yd, rfl, hi, rfl, a, has, st, hn, gC', off, le2, ry, hyl, hi0⟩
    by_cases hlt : i < xs.length
    · obtain ⟨d, hd⟩ : ∃ d, xs[i]? = some d := ⟨xs[i], by simp [hlt]⟩
      refine It.item i d _ g' _ _ hd st le2 a.le off fun v ga ha tka Ga mid rv => ?_
      have offa : ∀ b ∈ fp, ga.get? b = none := fun b hb => by obtain ⟨o, e⟩ := It.has i _ st b hb; exact Ga.fr b o e (off b hb)
      refine It.go i v target _ ga _ _ hT mid (le2.trans Ga.gg) Ga.gh offa fun hb Gb stb => ?_
      have Gab := Ga.trans Gb
      have ab : At X g₀ e₀ env m ((D, lstO ys n) :: mu') ga hb := a.off Gab fun b hb' => ⟨(hfresh b hb').1, (hfresh b hb').2.1, muF mu' ys n has b hb'⟩
      have nb : hb.Ns C mC := hn.at' fun o e => Gab.hh C o Cfp e
      have gCa : ga.get? C = none := by obtain ⟨o, _, _, e, _⟩ := hn; exact Gab.fr C o e gC'
      refine hasg xs mu2 g2 C d hPI (List.mem_of_getElem? hd) _ ga v mC _ _ ⟨Gab.gh, nb, gCa, fun _ h => nomatch h⟩ rv fun hc tkc mC' Gc nc bd _ => ?_
      have ac : At X g₀ e₀ env m ((D, lstO ys n) :: mu') ga hc := ab.off (fp := [C]) (Gc.mono fun b hb' => List.mem_singleton.mpr hb') fun b hb' => by
        rw [List.mem_singleton.mp hb']; exact ⟨CL, eC, muC' mu' ys n has⟩
      have stc : St (i + 1) hc := It.frame _ _ _ stb (le2.trans (Ga.gg.trans Gc.gh)) fun b hb' o e => Gc.hh b o (fpC b hb') e
      obtain ⟨e', q, ai⟩ := (ac.sub (nu := mu') fun p hp => .tail _ hp).intoC (C := C) (cenv := compEnvC scope cl C env) has rfl nc gCa (muC mu' has)
      simp only [forIn, ForIn.forIn] at *
      refine wpAny_tests_nil ?_
      simp only [if_true]
      refine wpAny_mono (turn xs i d C mC' mu' ga hc tkc _ e' yd hd (mono _ _ _ _ _ _ Ga.gg hi0) has ac.gr.gg bd ai) (fun y s2 z => ?_) fun _ _ x => x
      obtain ⟨mu3, g3, h3, tk3, dv, rfl, a3', has3, ry3, hi3⟩ := z
      have a4 := ac.backC has q a3' rfl has3 CL eC hDC Das Las
      have hys : ys.length ≤ sizeLine := by have := ry.length; omega
      refine l_append (a4.get (.head _)) hys fun h5 e5 s5 => ?_
      have a5 := a4.turn (muD mu3 has3) s5 e5
      have ki : ∀ b ∈ fp, ∀ o, hc.get? b = some o → h5.get? b = some o := fun b hb' o e => (s5.2 b (fpD b hb')).trans (a3'.gr.hh b o (fun z => z.elim (fpC b hb') (hfresh b hb').2.2) (by rw [q, if_neg (fpC b hb')]; exact e))
      refine ⟨xs.length + 1 - (i + 1), by omega, i + 1, mu3, g3, h5, tk3, mC', ys ++ [y], n + 1, yd ++ [dv], rfl, hlt, rfl, a5, has3, ?_, ?_, a3'.sit.gL, fun b hb' => ?_, le2.trans (Ga.gg.trans a3'.gr.gg), (ry.mono (Ga.gg.trans a3'.gr.gg)).append (.cons ry3 .nil), by simp [hyl], hi3⟩
      · exact It.frame _ _ _ stc (le2.trans (Ga.gg.trans (a3'.gr.gg.trans a5.le))) ki
      · exact a3'.sit.ns.sameBut s5 (Ne.symm hDC)
      · obtain ⟨o, e⟩ := It.has _ _ stc b hb'
        exact a3'.gr.fr b o (by rw [q, if_neg (fpC b hb')]; exact e) (offa b hb')
    · have hin : i = xs.length := by omega
      subst hin
      refine It.done _ g' _ _ (by simpa using st) le2 a.le off fun hz tkz keep => ?_
      have az := a.offDone keep fun b hb => ⟨off b hb, (hfresh b hb).1, (hfresh b hb).2.1, muF mu' ys n has b hb⟩
      have nz : hz.Ns C mC := hn.at' fun o e => keep C o Cfp e
      refine wpAny_assign_Name (wpAny_storeName_local hlx az.sit.ns (fun h6 hn6 hs6 => ?_) hpp)
      have a6 := az.store hn6 hs6
      refine ⟨mC, nz.sameBut hs6 CL, fun h7 hs7 => ?_⟩
      have a7 := a6.offDone (fp := [C]) (h' := h7) (fun b o nb e => (hs7.2 b fun z => nb (List.mem_singleton.mpr z)).trans e) fun b hb => by
        rw [List.mem_singleton.mp hb]; exact ⟨gC', CL, eC, muC' mu' ys n has⟩
      obtain ⟨g8, hg8, e8, a8⟩ := a7.freeze eD (muD mu' has)
      refine wpAny_pure (wpAny_pure ?_)
      exact k (.ref D) xs mu' g8 h7 _ yd a8 (hg2.trans (le2.trans hg8)) has (.list (isList_of e8) (ry.mono hg8)) (mono _ _ _ _ _ _ hg8 hi0)
  exact codeAny_compStart_list (loop _) (It.self _ _ _ st1 (loop _))
end

end
section
open PySem PySem.W PySem.Spec PySem.Calls PyProof.Rows

section
variable {prog : Program} {w : World} {A : Around} {env : Env} {m : Str → Option Value} {mu : Mu} {g g₀ e₀ : Heap} {mg mb : Str → Option Value} {X : Addr → Prop} {s : Shared} {h0 : Heap} {G0 : Array GenState} {D0 : Drawn} {T0 : Nat} {O0 : OsState} {E : Value → Shared → Prop} {Q : Flow → Shared → Prop} {rest : List Stmt}
theorem St.iteX {test : Expr} {body orelse : List Stmt} {pos : Pos}
    (h : wpAny (model prog w) A (isTrue test env (eval test env)) (fun b s' => if b = true then wpAny (model prog w) A (execs body env) (NextQ prog w A rest env Q E) E s'
      else wpAny (model prog w) A (execs orelse env) (NextQ prog w A rest env Q E) E s') E (Shared.mk h0 G0 D0 T0 O0)) :
    wpAny (model prog w) A (execs (.If test body orelse pos :: rest) env) Q E (Shared.mk h0 G0 D0 T0 O0) :=
  wpAny_execs_cons (wpAny_If h)
/-- «xs.append(e)», e turns the ledger -/
theorem St.appendX {x : Str} {np apos pos ep : Pos} {elt : Expr} {l : Addr} {vs : List Value} {n : Nat} {P : PyData → Mu → Prop} (a : At X g₀ e₀ env m ((l, lstO vs n) :: mu) g h0) (hv : m x = some (.ref l)) (hsz : vs.length ≤ sizeLine)
    (he : TrD prog w A X g₀ e₀ env m ((l, lstO vs n) :: mu) g (eval elt env) P) (hP : ∀ d mu', P d mu' → ∃ mu2, mu' = (l, lstO vs n) :: mu2 ∧ ∀ p ∈ mu2, p.1 ≠ l)
    (k : ∀ v d mu2 g' h' tk, P d ((l, lstO vs n) :: mu2) → At X g₀ e₀ env m ((l, lstO (vs ++ [v]) (n + 1)) :: mu2) g' h' → Le g g' → Rd g' v d → wpAny (model prog w) A (execs rest env) Q E (Shared.mk h' G0 D0 tk O0))
    (hk : env.scope.kind = .function := by rfl) (hl : env.kindOf x = some .local := by rfl) (hdb : (x == ("__debug__" : Str)) = false := by decide)
    (hbase : attributeBase (.Name x np) (PySem.Str.ofString "append") env (eval (.Name x np) env) = eval (.Name x np) env := by rfl)
    (hfew : ((backTo pos (starEach [elt] env)).all (fun x => !x.1) && (backToKw pos (keywordEach [] env)).all (fun x => x.1.isSome) && decide (([elt] : List Expr).length + ([] : List Keyword).length + (if ([] : List Keyword).isEmpty then 0 else 1) < 30)) = true := by rfl)
    (hline : (apos.endLine == pos.line) = true := by rfl) (hse : starEach [elt] env = (false, eval elt env) :: starEach [] env := by rfl)
    (hi : interactive env = false := by rfl) (hs : swapsWith (.Call (.Attribute (.Name x np) (PySem.Str.ofString "append") apos) [elt] [] pos) none ep.line env = pure false := by rfl) :
    wpAny (model prog w) A (execs (.Expr (.Call (.Attribute (.Name x np) (PySem.Str.ofString "append") apos) [elt] [] pos) ep :: rest) env) Q E (Shared.mk h0 G0 D0 T0 O0) := by
  refine St.expr (meth_call a hv (.head _) PySem.F.slot_list_append PySem.F.type_list_append ?_ hk hl hdb hbase hfew hline) hi hs
  refine callWith_method1 (args_cons (he (Shared.mk h0 G0 D0 T0 O0) _ _ a fun v mu' g' h' tk a' le ⟨d, hPd, r⟩ => args_nil ?_) hse) hse
  obtain ⟨mu2, rfl, hd⟩ := hP d mu' hPd
  exact l_append (a'.get (.head _)) hsz fun h2 e2 s2 => k v d mu2 g' h2 tk hPd (a'.turn hd s2 e2) le r
/-- an iterator over a list of the ghost -/
theorem At.iterList {xs : List PyData} {us : List Value} {ax : Addr} {as : List Addr} {T : Expr → Prop} {Q : Value → Shared → Prop} (hh : A.handled = none) (a : At X g₀ e₀ env m mu g s.heap) (hl : g.IsList ax us.toArray) (r : RdAll g us xs) (has : mu.map (·.1) = as)
    (k : ∀ it fp St Mid h', At X g₀ e₀ env m mu g h' → Itr prog w A T g it fp xs St Mid → St 0 h' → (∀ b ∈ fp, b ≠ env.locals ∧ e₀.get? b = none ∧ b ∉ as) → Q (.ref it) { s with heap := h' }) : wpAny (model prog w) A (pyIter (.ref ax)) Q E s := by
  refine wpAny_pyIter_list (IsList.le a.le hl) ?_
  have n : g.get? s.heap.objs.size = none := a.le.none (get_fresh _)
  refine k _ _ _ _ _ (a.grow (Grow.push0 a.le _)) (itr_list hh hl r n) ⟨⟨_, Heap.get?_push_size _ rfl, rfl, rfl⟩, a.le.trans (Le.push _ _)⟩ fun b hb => ?_
  rw [List.mem_singleton.mp hb]
  refine ⟨fun z => ?_, a.fresh, fun z => ?_⟩
  · obtain ⟨o, _, _, q, _⟩ := a.sit.ns
    rw [← z, get_fresh] at q; cases q
  · rw [← has] at z
    obtain ⟨p, hp, e⟩ := List.mem_map.mp z
    exact a.ne_new p hp e
end

end
section
open PySem PySem.W PySem.Spec PySem.Calls PyProof.Rows

def rowA (nm v : Str) : Atr := ⟨S "", nm, nm, v⟩
def OkAttrs (as : List Atr) : Prop := ∃ vs : List Str, vs.length ≤ 2 ∧ (∀ v ∈ vs, v = S "1" ∨ v = S "2") ∧ as = List.zipWith rowA [S "b", S "d"] vs
def okKid (f : Fm) : Prop := okPlain f ∨ ∃ p, okPlain p ∧ f = .mk (S "element") (some (S "f")) (S "") [] [p]
def okTree (f : Fm) : Prop := ∃ as ks, f = .mk (S "element") (some (S "e")) (S "") as ks ∧ OkAttrs as ∧ ks.length ≤ 3 ∧ ∀ k ∈ ks, okKid k
theorem zip_snoc {v : Str} {vs : List Str} {i : Nat} {nm : Str} (h : vs.length = i) (hn : [S "b", S "d"][i]? = some nm) : List.zipWith rowA [S "b", S "d"] (vs ++ [v]) = List.zipWith rowA [S "b", S "d"] vs ++ [rowA nm v] := by
  match vs, h with
  | [], h => subst h; simp at hn; subst hn; rfl
  | [x], h => subst h; simp at hn; subst hn; rfl
  | x :: y :: r, h => subst h; simp at hn
section
variable {prog : Program} {w : World} {mg mb : Str → Option Value}
set_option maxHeartbeats 4000000 in
theorem law_rows_spec : Eff prog w mg mb 4 99 [] (fun g v => ∃ f, okTree f ∧ Rd g v (rowsD f)) := by
  intro A s g l o vs Q E hR W hg hl gl hs r k
  obtain rfl := r.nil_inv
  have hz := sizeLine_eq
  refine call_atC (cx := S "source") (binds := [(S "source", .ref l)]) (mu := [(l, o)]) (X := (· = l)) hR W hg (fun p hp => by rw [List.mem_singleton.mp hp]; exact ⟨⟨hl, gl⟩, rfl⟩) rfl rfl rfl rfl rfl rfl (fun _ => rfl)
    (fun x hx => by rw [List.mem_singleton.mp hx]; exact .inr ⟨rfl, rfl⟩) rfl rfl rfl fun L h₁ tk E' oc hoc hLc a hR' => ?_
  have hcl : (L + 1 : Nat) ≠ l := fun z => hLc (l, o) (.head _) z.symm
  have hoc' : oc.data = .cell (some (.ref l)) := hoc
  refine St.comp (T := fun _ => True) (cl := [(S "source", L + 1)]) (fun d => [(S "name", d)]) [L + 1, l] (fun xs mu' g' => ∃ (k : Nat) (o' : Obj), k ≤ 2 ∧ xs = ([S "b", S "d"].take k).map PyData.str ∧ mu' = [((L + 1 : Nat), oc), (l, o')] ∧ isSrc o')
    (fun xs i mu' g' ys => ∃ (k : Nat) (o' : Obj) (vs : List Str), k ≤ 2 ∧ xs = ([S "b", S "d"].take k).map PyData.str ∧ mu' = [((L + 1 : Nat), oc), (l, o')] ∧ isSrc o' ∧ vs.length = i ∧ (∀ v ∈ vs, v = S "1" ∨ v = S "2") ∧ ys = (List.zipWith rowA [S "b", S "d"] vs).map atrL) a
    (fun Q' kk => ?_) trivial (fun xs mu g C d _ _ => Asg.name rfl rfl) (fun xs mu g ⟨k, o', hk, e, _⟩ => ?_) (fun xs mu' g' g2 ⟨k, o', hk, e, em, ho'⟩ _ => ⟨k, o', [], hk, e, em, ho', rfl, (fun _ h => nomatch h), rfl⟩) (fun xs i mu g g' ys _ h => h)
    (fun xs i d C mC mu g3 h3 tk3 E3 e3 ys hd ⟨kq, o', vs, hk, exs, em, ho', hvn, hvs, hys⟩ has hle bd a3 => ?_) (fun vr xs mu' g1 h1 tk1 ys a1 hg1 has rv ⟨kq, o', vs, hk, exs, em, ho', hvn, hvs, hys⟩ => ?_) rfl rfl (by decide) rfl (by decide)
  · -- the names
    refine Subscript_ ((Tr.list (ds := [.str (S "b"), .str (S "d")]) (SpE.cons Tr.const_str (SpE.cons Tr.const_str SpE.nil))) _ g _ _ (Le.refl _) a.sit fun v1 g1 h1 tk1 G1 r1 => wpAny_Slice (wpAny_pure
      ((TrX.eff (l1 := [((L + 1 : Nat), oc)]) (l2 := []) (W.mono G1.gg) (hR'.le (by decide)) (gf_law_take _) (gd_law_take _) (law_take_spec 3 (by decide) (by decide)) rfl (fun p hp => by rw [List.mem_singleton.mp hp]; exact hcl) hs (SpR.cons (Tr.cell rfl (.head _) hoc' (mono_ref l) rfl) (SpE.cons Tr.const_int SpE.nil))) _ _ _ (a.grow G1) fun v2 mu2 g2 h2 tk2 a2 hg2 ⟨o', hmu, ho', d, t, hv, hd0, hd1⟩ => wpAny_pure ?_)))
    subst hv hmu
    obtain ⟨ax, us, rfl, hL, ra⟩ := (r1.mono hg2).list_inv
    have hlen := ra.length
    have G3 := Grow.push0 a2.le { cls := .type "slice", data := .fields #[.none, .int d t, .none] }
    have hL3 : (h2.push { cls := .type "slice", data := .fields #[.none, .int d t, .none] }).IsList ax us.toArray := (IsList.le a2.le hL).push _
    refine tail_any (ops := [.ref h2.objs.size, .ref ax]) hL3.typeIs slot_list_getitem.lookup (wpAny_getItem_list_slice hL3 (Heap.IsSliceOf.new ..) .none (.int _ _) .none (by simp) ?_ (by rw [List.size_toArray, hlen]; exact Nat.le_of_ble_eq_true rfl)) (by with_unfolding_all rfl)
    have e4 : slicePick us.toArray none (some d) none = (us.take d.toNat).toArray := by
      have := slicePick_upto' us.toArray d.toNat
      rw [Int.toNat_of_nonneg hd0] at this
      exact this
    rw [e4]
    obtain ⟨g4, G4, e5⟩ := Grow.push G3.gh (lstO (us.take d.toNat)) rfl
    have a4 := (a2.grow G3).grow G4
    refine At.iterList (T := fun _ => True) hR'.hd (a4 : At (· = l) g s.heap _ _ _ g4 _) (isList_of e5) (ra.mono G4.gg).take (as := [L + 1, l]) rfl fun it fp St Mid h' a5 It st0 fresh => ?_
    exact kk it fp St Mid _ _ g4 h' tk2 a5 ((G1.gg.trans hg2).trans G4.gg) It st0 fresh rfl ⟨d.toNat, o', by omega, by rw [List.map_take]; rfl, rfl, ho'⟩
  · rw [e, List.length_map, List.length_take]; omega
  · -- an item
    subst em
    have hd2 : (([S "b", S "d"].take kq).map PyData.str)[i]? = some d := exs ▸ hd
    simp only [List.getElem?_map, Option.map_eq_some_iff] at hd2
    obtain ⟨nm, hnm, rfl⟩ := hd2
    have hnm2 : [S "b", S "d"][i]? = some nm := by
      rw [List.getElem?_take] at hnm
      split at hnm
      · exact hnm
      · cases hnm
    obtain ⟨vn, en, rn⟩ := bd (S "name", .str nm) (.head _)
    replace en : mC (S "name") = some vn := en
    have W3 := W.mono hle
    refine (TrD.list (PP := fun ds mu' => ∃ vl o2, mu' = [((L + 1 : Nat), oc), (l, o2)] ∧ isSrc o2 ∧ (vl = S "1" ∨ vl = S "2") ∧ ds = [.tuple [.str (S ""), .str nm], .str nm, .str vl]) ?_
      (fun ds mu' ⟨vl, o2, _, _, _, e⟩ => by rw [e]; exact Nat.le_of_ble_eq_true rfl)) _ _ _ a3 fun v2 mu2 g2 h2 tk2 a2 hg2 ⟨d2, ⟨ds2, e2, vl, o2, em, ho2, hvl, eds⟩, r2⟩ => ?_
    · refine SpX.consE (P := fun d mu' => d = .tuple [.str (S ""), .str nm] ∧ mu' = [((L + 1 : Nat), oc), (l, o')]) (TrD.pure (Tr.tuple (SpE.cons Tr.const_str (SpE.cons (Tr.name en (mono_da _) rn) SpE.nil))) ⟨rfl, rfl⟩) fun d4 mu4 g4 ⟨e1, e2⟩ le4 => ?_
      subst e1 e2
      refine SpX.consE (P := fun d mu' => d = .str nm ∧ mu' = [((L + 1 : Nat), oc), (l, o')]) (TrD.pure (Tr.name en (mono_da _) (rn.mono le4)) ⟨rfl, rfl⟩) fun d5 mu5 g5 ⟨e1, e2⟩ le5 => ?_
      subst e1 e2
      refine SpX.consE (P := fun d mu' => ∃ vl o2, d = .str vl ∧ mu' = [((L + 1 : Nat), oc), (l, o2)] ∧ isSrc o2 ∧ (vl = S "1" ∨ vl = S "2")) ?_ fun d6 mu6 g6 ⟨vl, o2, e1, e2, ho2, hvl⟩ le6 => ?_
      · refine TrX.weak (TrX.eff (l1 := [((L + 1 : Nat), oc)]) (l2 := []) (W3.mono (le4.trans le5)) (hR'.le (by decide)) (gf_law_one _) (gd_law_one _) (law_one_spec [.str (S "1"), .str (S "2")] (by decide) (by decide)) rfl (fun p hp => by rw [List.mem_singleton.mp hp]; exact hcl) ho' (SpR.cons (Tr.cell rfl (.head _) hoc' (mono_ref l) rfl) (SpE.cons (by tb_rel) SpE.nil))) fun v mu' g' ⟨o2, e, ho2, d, hd, r⟩ => ?_
        simp only [List.mem_cons, List.not_mem_nil, or_false] at hd
        rcases hd with rfl | rfl
        · exact ⟨_, ⟨_, o2, rfl, e, ho2, .inl rfl⟩, r⟩
        · exact ⟨_, ⟨_, o2, rfl, e, ho2, .inr rfl⟩, r⟩
      · subst e1 e2
        exact SpX.nil ⟨vl, o2, rfl, ho2, hvl, rfl⟩
    · subst e2 em eds
      refine ⟨_, g2, h2, tk2, _, rfl, a2, rfl, r2, kq, o2, vs ++ [vl], hk, exs, rfl, ho2, by simp [hvn], fun v hv => ?_, ?_⟩
      · rcases List.mem_append.mp hv with hv | hv
        · exact hvs v hv
        · rw [List.mem_singleton.mp hv]; exact hvl
      · rw [zip_snoc hvn hnm2, List.map_append, hys]; rfl
  · subst em
    have hlv : vs.length ≤ 2 := by rw [hvn, exs, List.length_map, List.length_take]; omega
    have hat : OkAttrs (List.zipWith rowA [S "b", S "d"] vs) := ⟨vs, hlv, hvs, rfl⟩
    have W1 := W.mono hg1
    refine St.newlist a1 (ds := []) SpE.nil rfl fun l2 us2 n2 g2 h2 tk2 a2 hg2 ru hl2 => ?_
    obtain rfl := ru.nil_inv
    have W2 := W1.mono hg2
    have hl2c : l2 ≠ (L + 1 : Nat) := fun z => hl2 _ (.head _) z.symm
    have hl2l : l2 ≠ l := fun z => hl2 _ (.tail _ (.head _)) z.symm
    refine St.forRange (fun d mu' => ∃ (k : Nat) (o2 : Obj), d = .int (k : Int) ∧ k ≤ 3 ∧ mu' = [(l2, lstO [] n2), ((L + 1 : Nat), oc), (l, o2)] ∧ isSrc o2) 3
      (fun n i m mu g => ∃ us nn o2 fs vrr, m (S "inner") = some (.ref l2) ∧ m (S "rows") = some vrr ∧ Rd g vrr (.list ys) ∧ mu = [(l2, lstO us nn), ((L + 1 : Nat), oc), (l, o2)] ∧ isSrc o2 ∧ RdAll g us (fs.map rowsD) ∧ fs.length = i ∧ (∀ f ∈ fs, okKid f) ∧ n ≤ 3) [l2, L + 1, l] W2 hR'.hd a2
      (fun g' le => ?_) (fun d mu' ⟨k, o2, e, hk, em, _⟩ => ⟨k, e, hk, by rw [em]; rfl⟩) (by decide) (fun k mu' g' ⟨k', o2, e, hk, em, ho2⟩ le => ⟨[], n2, o2, [], vr, upd_self, upd_ne rfl upd_self, rv.mono (hg2.trans le), em, ho2, .nil, rfl, (fun _ h => nomatch h), by injection e with e; omega⟩)
      (fun n i m mu g g' le ⟨us, nn, o2, fs, vrr, e1, e2, e3, e4, e5, e6, e7, e8, e9⟩ => ⟨us, nn, o2, fs, vrr, e1, e2, e3.mono le, e4, e5, e6.mono le, e7, e8, e9⟩)
      (fun n i t m mu g3 h3 tk3 E3 e3 hi ⟨us, nn, o2, fs, vrr, m1, m2, r3, em, ho2, ru, hfl, hfs, hn3⟩ has3 hle a3 => ?_) (fun n m mu g3 h3 tk3 ⟨us, nn, o2, fs, vrr, m1, m2, r3, em, ho2, ru, hfl, hfs, hn3⟩ has3 a3 => ?_)
    · refine TrX.weak (TrX.eff (l1 := [(l2, lstO [] n2), ((L + 1 : Nat), oc)]) (l2 := []) (W2.mono le) (hR'.le (by decide)) (gf_law_take _) (gd_law_take _) (law_take_spec 4 (by decide) (by decide)) rfl (fun p hp => ?_) ho' (SpR.cons (Tr.cell rfl (.tail _ (.head _)) hoc' (mono_ref l) rfl) (SpE.cons Tr.const_int SpE.nil))) fun v mu' g' ⟨o2, e, ho2, d, t, hv, hd0, hd1⟩ => ?_
      · simp only [List.append_nil, List.mem_cons, List.not_mem_nil, or_false] at hp
        rcases hp with rfl | rfl
        · exact hl2l
        · exact hcl
      · subst hv
        exact ⟨.int d, ⟨d.toNat, o2, by rw [Int.toNat_of_nonneg hd0], by omega, e, ho2⟩, .int _ _⟩
    · subst em
      have W3 := W.mono hle
      have hus : us.length ≤ 3 := by have := ru.length; simp at this; omega
      refine St.appendX (P := fun d mu' => ∃ f o3, d = rowsD f ∧ okPlain f ∧ mu' = [(l2, lstO us nn), ((L + 1 : Nat), oc), (l, o3)] ∧ isSrc o3) a3 (upd_ne rfl m1) (by omega) ?_ (fun d mu' ⟨f, o3, _, _, e, _⟩ => ⟨_, e, fun p hp => ?_⟩) fun v4 d4 mu4 g4 h4 tk4 ⟨f4, o4, ed, hf4, em4, ho4⟩ a4 hg4 r4 => ?_
      · refine TrX.weak (TrX.eff (l1 := [(l2, lstO us nn), ((L + 1 : Nat), oc)]) (l2 := []) W3 (hR'.le (by decide)) (gf_law_plain _) (gd_law_plain _) law_plain_spec rfl (fun p hp => ?_) ho2 (SpR.cons (Tr.cell rfl (.tail _ (.head _)) hoc' (mono_ref l) rfl) SpE.nil)) fun v mu' g' ⟨o3, e, ho3, f, hf, rf⟩ => ⟨rowsD f, ⟨f, o3, rfl, hf, e, ho3⟩, rf⟩
        simp only [List.append_nil, List.mem_cons, List.not_mem_nil, or_false] at hp
        rcases hp with rfl | rfl
        · exact hl2l
        · exact hcl
      · simp only [List.mem_cons, List.not_mem_nil, or_false] at hp
        rcases hp with rfl | rfl
        · exact Ne.symm hl2c
        · exact Ne.symm hl2l
      · subst ed
        injection em4 with _ em4
        subst em4
        have W4 := W3.mono hg4
        have ru4 : RdAll g4 (us ++ [v4]) ((fs ++ [f4]).map rowsD) := by rw [List.map_append]; exact (ru.mono hg4).append (.cons r4 .nil)
        refine St.iteX (wpAny_isTrue_Compare1 ((TrX.eff (l1 := [(l2, lstO (us ++ [v4]) (nn + 1)), ((L + 1 : Nat), oc)]) (l2 := []) W4 (hR'.le (by decide)) (gf_law_take _) (gd_law_take _) (law_take_spec 3 (by decide) (by decide)) rfl (fun p hp => ?_) ho4 (SpR.cons (Tr.cell rfl (.tail _ (.head _)) hoc' (mono_ref l) rfl) (SpE.cons Tr.const_int SpE.nil))) _ _ _ a4 fun v5 mu5 g5 h5 tk5 a5 hg5 ⟨o5, em5, ho5, d5, t5, hv5, hd0, hd1⟩ =>
          Tr.const_int _ g5 _ _ (Le.refl _) a5.sit fun v6 g6 h6 tk6 G6 r6 => ?_))
        · simp only [List.append_nil, List.mem_cons, List.not_mem_nil, or_false] at hp
          rcases hp with rfl | rfl
          · exact hl2l
          · exact hcl
        subst hv5 em5
        have a6 := a5.grow G6
        have W6 := W4.mono (hg5.trans G6.gg)
        have ru6 := ru4.mono (hg5.trans G6.gg)
        have r36 := r3.mono (hg4.trans (hg5.trans G6.gg))
        refine Cp.eq (n := 3) hR' (int_shaped d5) (int_shaped 0) _ g6 _ _ _ _ G6.gh (.int _ _) r6 fun h7 tk7 le7 => wpAny_truthy_bool ?_
        have a7 := a6.grow (Grow.of_le a6.le le7)
        rw [eqv_int]
        cases hd5 : (d5 == 0) with
        | false =>
          simp only [Bool.false_eq_true, if_false]
          refine St.nil (St.nil ?_)
          exact ⟨upd m (S "turn") (.int (i : Int) t), [(l2, lstO (us ++ [v4]) (nn + 1)), ((L + 1 : Nat), oc), (l, o5)], g6, h7, tk7, rfl, a7, rfl, us ++ [v4], nn + 1, o5, fs ++ [f4], vrr, upd_ne rfl m1, upd_ne rfl m2, r36, rfl, ho5, ru6, by simp [hfl], fun f hf => (List.mem_append.mp hf).elim (hfs f) (fun z => by rw [List.mem_singleton.mp z]; exact .inl hf4), hn3⟩
        | true =>
          simp only [if_true]
          refine St.setitem' (X := (· ∈ [l2, L + 1, l])) (g₀ := g3) (e₀ := e3) (l := l2) (m := upd m (S "turn") (.int (i : Int) t)) (upd_ne rfl m1) ?_
          refine (TrD.list (PP := fun ds mu' => ∃ p o8, mu' = [(l2, lstO (us ++ [v4]) (nn + 1)), ((L + 1 : Nat), oc), (l, o8)] ∧ isSrc o8 ∧ okPlain p ∧ ds = [.str (S "element"), .tuple [.str (S "f"), .str (S ""), .str (S "f")], .str (S ""), .list [], .list [rowsD p]]) ?_
            (fun ds mu' ⟨p, o8, _, _, _, e⟩ => by rw [e]; exact Nat.le_of_ble_eq_true rfl)) _ _ _ a7 fun v8 mu8 g8 h8 tk8 a8 hg8 ⟨d8, ⟨ds8, e8, p8, o8, em8, ho8, hp8, eds8⟩, r8⟩ => ?_
          · refine SpX.consE (P := fun d mu' => d = .str (S "element") ∧ mu' = [(l2, lstO (us ++ [v4]) (nn + 1)), ((L + 1 : Nat), oc), (l, o5)]) (TrD.pure Tr.const_str ⟨rfl, rfl⟩) fun x1 x2 x3 ⟨e1, e2⟩ le1 => ?_
            subst e1 e2
            refine SpX.consE (P := fun d mu' => d = .tuple [.str (S "f"), .str (S ""), .str (S "f")] ∧ mu' = [(l2, lstO (us ++ [v4]) (nn + 1)), ((L + 1 : Nat), oc), (l, o5)]) (TrD.pure (by tb_rel) ⟨rfl, rfl⟩) fun x1 x2 x4 ⟨e1, e2⟩ le2 => ?_
            subst e1 e2
            refine SpX.consE (P := fun d mu' => d = .str (S "") ∧ mu' = [(l2, lstO (us ++ [v4]) (nn + 1)), ((L + 1 : Nat), oc), (l, o5)]) (TrD.pure Tr.const_str ⟨rfl, rfl⟩) fun x1 x2 x5 ⟨e1, e2⟩ le3 => ?_
            subst e1 e2
            refine SpX.consE (P := fun d mu' => d = .list [] ∧ mu' = [(l2, lstO (us ++ [v4]) (nn + 1)), ((L + 1 : Nat), oc), (l, o5)]) (TrD.pure (Tr.list SpE.nil) ⟨rfl, rfl⟩) fun x1 x2 x6 ⟨e1, e2⟩ le4 => ?_
            subst e1 e2
            refine SpX.consE (P := fun d mu' => ∃ ds, d = .list ds ∧ ∃ p o8, ds = [rowsD p] ∧ okPlain p ∧ mu' = [(l2, lstO (us ++ [v4]) (nn + 1)), ((L + 1 : Nat), oc), (l, o8)] ∧ isSrc o8) (TrD.list (SpX.consE (P := fun d mu' => ∃ f o3, d = rowsD f ∧ okPlain f ∧ mu' = [(l2, lstO (us ++ [v4]) (nn + 1)), ((L + 1 : Nat), oc), (l, o3)] ∧ isSrc o3) ?_ fun x1 x2 x7 ⟨p, o8, e1, hp, e2, ho8⟩ le5 => SpX.nil ⟨p, o8, by rw [e1], hp, e2, ho8⟩) (fun ds mu' ⟨p, o8, e, _⟩ => by rw [e]; exact Nat.le_of_ble_eq_true rfl)) fun x1 x2 x7 ⟨ds, e1, p, o8, e2, hp, e3, ho8⟩ le5 => ?_
            · refine TrX.weak (TrX.eff (l1 := [(l2, lstO (us ++ [v4]) (nn + 1)), ((L + 1 : Nat), oc)]) (l2 := []) (W6.mono (le1.trans (le2.trans (le3.trans le4)))) (hR'.le (by decide)) (gf_law_plain _) (gd_law_plain _) law_plain_spec rfl (fun p hp => ?_) ho5 (SpR.cons (Tr.cell rfl (.tail _ (.head _)) hoc' (mono_ref l) rfl) SpE.nil)) fun v mu' g' ⟨o3, e, ho3, f, hf, rf⟩ => ⟨rowsD f, ⟨f, o3, rfl, hf, e, ho3⟩, rf⟩
              simp only [List.append_nil, List.mem_cons, List.not_mem_nil, or_false] at hp
              rcases hp with rfl | rfl
              · exact hl2l
              · exact hcl
            · subst e1 e2 e3
              exact SpX.nil ⟨p, o8, rfl, ho8, hp, rfl⟩
          · subst e8 em8 eds8
            refine ⟨g8, h8, tk8, _, us ++ [v4], nn + 1, -1, us.length, rfl, a8, fun p hp => ?_, Tr.neg Tr.const_int, by decide, by rw [List.length_append]; exact last_index, by simp, fun g9 h9 tk9 hg9 a9 => St.nil (St.nil ?_)⟩
            · simp only [List.mem_cons, List.not_mem_nil, or_false] at hp
              rcases hp with rfl | rfl
              · exact Ne.symm hl2c
              · exact Ne.symm hl2l
            · rw [set_last] at a9
              have hk8 : okKid (.mk (S "element") (some (S "f")) (S "") [] [p8]) := .inr ⟨p8, hp8, rfl⟩
              have r9 : Rd g9 v8 (rowsD (.mk (S "element") (some (S "f")) (S "") [] [p8])) := by rw [rowsD_mk]; exact r8.mono hg9
              exact ⟨upd m (S "turn") (.int (i : Int) t), [(l2, lstO (us ++ [v8]) (nn + 1)), ((L + 1 : Nat), oc), (l, o8)], g9, h9, tk9, rfl, a9, rfl, us ++ [v8], nn + 1, o8, fs ++ [_], vrr, upd_ne rfl m1, upd_ne rfl m2, r36.mono (hg8.trans hg9), rfl, ho8, by rw [List.map_append]; exact (ru.mono (hg4.trans (hg5.trans (G6.gg.trans (hg8.trans hg9))))).append (.cons r9 .nil), by simp [hfl], fun f hf => (List.mem_append.mp hf).elim (hfs f) (fun z => by rw [List.mem_singleton.mp z]; exact hk8), hn3⟩
    · subst em
      obtain ⟨g4, hg4, e4, a4⟩ := a3.freeze ((a3.mu _ (.head _)).2.resolve_left hl2l) (fun p hp => by
        simp only [List.mem_cons, List.not_mem_nil, or_false] at hp
        rcases hp with rfl | rfl
        · exact Ne.symm hl2c
        · exact Ne.symm hl2l)
      have rin : Rd g4 (.ref l2) (.list (fs.map rowsD)) := .list (isList_of e4) (ru.mono hg4)
      have r4 := r3.mono hg4
      refine St.ret a4 (R := Da (.list [.str (S "element"), .tuple [.str (S "e"), .str (S ""), .str (S "e")], .str (S ""), .list ys, .list (fs.map rowsD)])) ?_ fun v5 g5 h5 tk5 a5 r5 => ?_
      · exact Tr.list (SpE.cons Tr.const_str (SpE.cons (by tb_rel) (SpE.cons Tr.const_str (SpE.cons (Tr.name m2 (mono_da _) r4) (SpE.cons (Tr.name m1 (mono_da _) rin) SpE.nil)))))
      · refine k v5 g5 h5 tk5 o2 a5.done (a5.get (.tail _ (.head _))) ho2 ⟨.mk (S "element") (some (S "e")) (S "") (List.zipWith rowA [S "b", S "d"] vs) fs, ⟨_, fs, rfl, hat, by omega, hfs⟩, ?_⟩
        rw [rowsD_mk, ← hys]; exact r5
end

end
section
open PySem PySem.W PySem.Spec PySem.Calls PyProof.Rows

/-! ## data read with the addresses of its lists -/
mutual
inductive Fp (g : Heap) : Value → PyData → List Addr → Prop
  | flat {v : Value} {d : PyData} : noL d = true → Rd g v d → Fp g v d []
  | list {l : Addr} {vs : List Value} {n : Nat} {ds : List PyData} {ls : List Addr} : g.get? l = some (lstO vs n) → FpAll g vs ds ls → Fp g (.ref l) (.list ds) (l :: ls)
inductive FpAll (g : Heap) : List Value → List PyData → List Addr → Prop
  | nil : FpAll g [] [] []
  | cons {v : Value} {vs : List Value} {d : PyData} {ds : List PyData} {l1 l2 : List Addr} : Fp g v d l1 → FpAll g vs ds l2 → FpAll g (v :: vs) (d :: ds) (l1 ++ l2)
end
mutual
theorem Fp.rd {g : Heap} : ∀ {v : Value} {d : PyData} {ls : List Addr}, Fp g v d ls → Rd g v d
  | _, _, _, .flat _ r => r
  | _, _, _, .list e r => .list (isList_of e) r.rd
theorem FpAll.rd {g : Heap} : ∀ {vs : List Value} {ds : List PyData} {ls : List Addr}, FpAll g vs ds ls → RdAll g vs ds
  | _, _, _, .nil => .nil
  | _, _, _, .cons a b => .cons a.rd b.rd
end
mutual
theorem Fp.mono {g g' : Heap} (x : Le g g') : ∀ {v : Value} {d : PyData} {ls : List Addr}, Fp g v d ls → Fp g' v d ls
  | _, _, _, .flat h r => .flat h (r.mono x)
  | _, _, _, .list e r => .list (x _ _ e) (r.mono x)
theorem FpAll.mono {g g' : Heap} (x : Le g g') : ∀ {vs : List Value} {ds : List PyData} {ls : List Addr}, FpAll g vs ds ls → FpAll g' vs ds ls
  | _, _, _, .nil => .nil
  | _, _, _, .cons a b => .cons (a.mono x) (b.mono x)
end
mutual
theorem Fp.hide {g g' : Heap} {l : Addr} {o : Obj} (q : ∀ b, g'.get? b = if b = l then Option.none else g.get? b) (ho : g.get? l = some o) (hc : o.cls ≠ .type "tuple") : ∀ {v : Value} {d : PyData} {ls : List Addr}, Fp g v d ls → l ∉ ls → Fp g' v d ls
  | _, _, _, .flat h r, _ => .flat h (r.hide q ho hc h)
  | _, _, _, .list e r, n => .list (by rw [q, if_neg fun z => n (by rw [← z]; exact .head _)]; exact e) (r.hide q ho hc fun z => n (.tail _ z))
theorem FpAll.hide {g g' : Heap} {l : Addr} {o : Obj} (q : ∀ b, g'.get? b = if b = l then Option.none else g.get? b) (ho : g.get? l = some o) (hc : o.cls ≠ .type "tuple") : ∀ {vs : List Value} {ds : List PyData} {ls : List Addr}, FpAll g vs ds ls → l ∉ ls → FpAll g' vs ds ls
  | _, _, _, .nil, _ => .nil
  | _, _, _, .cons a b, n => .cons (a.hide q ho hc fun z => n (List.mem_append.mpr (.inl z))) (b.hide q ho hc fun z => n (List.mem_append.mpr (.inr z)))
end
mutual
theorem Fp.has {g : Heap} : ∀ {v : Value} {d : PyData} {ls : List Addr}, Fp g v d ls → ∀ b ∈ ls, ∃ vs n, g.get? b = some (lstO vs n)
  | _, _, _, .flat _ _, _, h => nomatch h
  | _, _, _, .list e r, b, h => by
    rcases List.mem_cons.mp h with rfl | h
    · exact ⟨_, _, e⟩
    · exact r.has b h
theorem FpAll.has {g : Heap} : ∀ {vs : List Value} {ds : List PyData} {ls : List Addr}, FpAll g vs ds ls → ∀ b ∈ ls, ∃ vs n, g.get? b = some (lstO vs n)
  | _, _, _, .nil, _, h => nomatch h
  | _, _, _, .cons a r, b, h => (List.mem_append.mp h).elim (a.has b) (r.has b)
end
theorem FpAll.flat {g : Heap} : ∀ {vs : List Value} {ds : List PyData}, noLs ds = true → RdAll g vs ds → FpAll g vs ds []
  | [], ds, h, r => by obtain ⟨_, r⟩ := r; cases r; exact .nil
  | v :: vs, ds, h, r => by
    obtain ⟨d, ds', rfl, a, b⟩ := r.cons_inv
    rw [noLs, Bool.and_eq_true] at h
    exact .cons (l1 := []) (.flat h.1 a) (FpAll.flat h.2 b)
theorem FpAll.append {g : Heap} : ∀ {vs ws : List Value} {ds es : List PyData} {l1 l2 : List Addr}, FpAll g vs ds l1 → FpAll g ws es l2 → FpAll g (vs ++ ws) (ds ++ es) (l1 ++ l2)
  | _, _, _, _, _, _, .nil, q => q
  | _, _, _, _, _, _, .cons a b, q => by rw [List.append_assoc]; exact .cons a (b.append q)
theorem FpAll.snoc {g : Heap} {vs : List Value} {v : Value} {ds : List PyData} {d : PyData} {l1 l2 : List Addr} (a : FpAll g vs ds l1) (b : Fp g v d l2) : FpAll g (vs ++ [v]) (ds ++ [d]) (l1 ++ l2) := by
  have := a.append (.cons b .nil)
  simpa using this
/-- one of a row's data, and the others -/
theorem FpAll.pick {g : Heap} : ∀ {vs : List Value} {ds : List PyData} {ls : List Addr} {j : Nat} {d : PyData}, FpAll g vs ds ls → ds[j]? = some d →
    ∃ v l1 l2 l3, vs[j]? = some v ∧ ls = l1 ++ l2 ++ l3 ∧ Fp g v d l2 ∧ FpAll g (vs.take j) (ds.take j) l1 ∧ FpAll g (vs.drop (j + 1)) (ds.drop (j + 1)) l3
  | _, _, _, _, _, .nil, h => by simp at h
  | _, _, _, 0, d, .cons (l1 := l1) (l2 := l2) a b, h => by
    simp at h; subst h
    exact ⟨_, [], l1, l2, rfl, by simp, a, .nil, b⟩
  | _, _, _, j + 1, d, .cons (l1 := l1) (l2 := l2) a b, h => by
    obtain ⟨v, m1, m2, m3, e1, rfl, f, p, q⟩ := b.pick (j := j) (by simpa using h)
    exact ⟨v, l1 ++ m1, m2, m3, by simpa using e1, by simp, f, .cons a p, q⟩
theorem Fp.list_inv {g : Heap} {v : Value} {ds : List PyData} {ls : List Addr} (h : Fp g v (.list ds) ls) : ∃ l vs n ls', v = .ref l ∧ ls = l :: ls' ∧ g.get? l = some (lstO vs n) ∧ FpAll g vs ds ls' := by
  cases h with
  | flat h _ => simp [noL] at h
  | list e r => exact ⟨_, _, _, _, rfl, rfl, e, r⟩
theorem FpAll.cons_inv {g : Heap} {vs : List Value} {d : PyData} {ds : List PyData} {ls : List Addr} (h : FpAll g vs (d :: ds) ls) : ∃ v vs' l1 l2, vs = v :: vs' ∧ ls = l1 ++ l2 ∧ Fp g v d l1 ∧ FpAll g vs' ds l2 := by
  cases h with
  | cons a b => exact ⟨_, _, _, _, rfl, rfl, a, b⟩
theorem FpAll.nil_inv {g : Heap} {vs : List Value} {ls : List Addr} (h : FpAll g vs [] ls) : vs = [] ∧ ls = [] := by
  cases h with
  | nil => exact ⟨rfl, rfl⟩
theorem Fp.flat_inv {g : Heap} {v : Value} {d : PyData} {ls : List Addr} (h : Fp g v d ls) (hd : noL d = true) : ls = [] ∧ Rd g v d := by
  cases h with
  | flat _ r => exact ⟨rfl, r⟩
  | list e r => simp [noL] at hd

/-- read, with new lists alone -/
def FH (d : PyData) : Ph := fun e g v => ∃ ls, Fp g v d ls ∧ ls.Nodup ∧ ∀ b ∈ ls, e.get? b = none
theorem monoH_FH (d : PyData) : MonoH (FH d) := fun _ _ _ _ x ⟨ls, r, h1, h2⟩ => ⟨ls, r.mono x, h1, h2⟩
theorem FH.of_FL {ds : List PyData} (h : noLs ds = true) {e g : Heap} {v : Value} : FL ds e g v → FH (.list ds) e g v := fun ⟨l, vs, n, ev, q, f, r⟩ => by
  subst ev
  exact ⟨[l], .list q (.flat h r), by simp, fun b hb => by rw [List.mem_singleton.mp hb]; exact f⟩

section
variable {prog : Program} {w : World} {A : Around} {env : Env} {m : Str → Option Value} {mu : Mu} {g : Heap} {mg mb : Str → Option Value}
theorem TrH.mono {g' : Heap} {t : Sem Value} {R : Ph} (h : TrH prog w A env m mu g t R) (x : Le g g') : TrH prog w A env m mu g' t R := fun s g₁ Q E hg => h s g₁ Q E (x.trans hg)
theorem TrH.weak {t : Sem Value} {R R' : Ph} (h : TrH prog w A env m mu g t R) (x : ∀ e g v, R e g v → R' e g v) : TrH prog w A env m mu g t R' :=
  fun s g₁ Q E hg X k => h s g₁ Q E hg X fun v g' h' tk G r => k v g' h' tk G (x _ _ _ r)
/-- «list(e)» -/
theorem TrH.list_of {np pos : Pos} {e : Expr} {ds : List PyData} (W : Wd w mg mb g) (h : Ev prog w A env m mu g e (Da (.list ds))) (hsz : ds.length ≤ sizeLine)
    (hse : starEach [e] env = (false, eval e env) :: starEach [] env := by rfl) (hpl : (backTo pos (starEach [] env)).any (·.1) = false := by rfl)
    (hk : env.scope.kind = .function := by rfl) (hl : env.kindOf (PySem.Str.ofString "list") = some .globalImplicit := by rfl) (hG : env.globals = mainGlobals := by rfl) (hB : env.builtins = builtinsNs := by rfl) :
    EvH prog w A env m mu g (.Call (.Name (PySem.Str.ofString "list") np) [e] [] pos) (FL ds) :=
  fun s g₁ Q E hg X k => wpAny_Call_NameR ((Tr.bltn (R := fun _ v => v = .type "list") W (gb_list w) bb_list (by decide) (fun _ _ _ _ r => r) rfl hk hl hG hB (by decide)) s g₁ _ _ hg X fun v g1 h1 tk1 G1 r => by
    subst r
    refine PyProof.Rows.callWith_type1 (args_cons (h _ _ _ _ (hg.trans G1.gg) (X.grow G1) fun v2 g2 h2 tk2 G2 r2 => args_nil ?_) hse) hse hpl
    obtain ⟨a, us, rfl, ⟨o, ho, hc, n, hd⟩, ra⟩ := r2.list_inv
    refine call_list_seq a (.inl rfl) (G2.gh _ _ ho) hc hd (fun h' c' hk e => ?_) (by simpa [ra.length] using hsz)
    have lg : Le g2 h' := G2.gh.trans hk
    obtain ⟨g', q⟩ := ghost_ex lg e
    have nD : g2.get? h2.objs.size = none := G2.gh.none (get_fresh _)
    have gg : Le g2 g' := fun b x e' => by
      rw [q]; by_cases z : b = h2.objs.size
      · subst z; rw [nD] at e'; cases e'
      · rw [if_neg z]; exact e'
    refine k _ g' h' tk2 ((G1.trans G2).trans ⟨gg, fun b x e' => ?_, hk, fun b x e' n => ?_⟩) ⟨_, us, c', rfl, by rw [q, if_pos rfl], ?_, ra.mono gg⟩
    · rw [q] at e'; by_cases z : b = h2.objs.size
      · subst z; rw [if_pos rfl] at e'; cases e'; exact e
      · rw [if_neg z] at e'; exact lg b x e'
    · rw [q, if_neg fun z => by subst z; rw [get_fresh] at e'; cases e']; exact n
    · cases z : s.heap.get? h2.objs.size with
      | none => rfl
      | some o => exact absurd (Heap.lt_size ((G1.trans G2).hh _ _ z)) (Nat.lt_irrefl _))
end

end
section
open PySem PySem.W PySem.Spec PySem.Calls PyProof.Rows

section
variable {prog : Program} {w : World} {A : Around} {env : Env} {m : Str → Option Value} {mu : Mu} {g : Heap} {mg mb : Str → Option Value}
set_option maxHeartbeats 1000000 in
theorem TrH.comp0 {elt target iter : Expr} {scope : Scope} {pos : Pos} {cl : List (Str × Addr)} {α : Type} {xs : List α} (enc : α → PyData) (bs : α → List (Str × PyData)) (f : α → PyData) {T : Expr → Prop}
    (hsrc : Ie prog w A T env m mu g iter (xs.map enc)) (hT : T target) (hlen : xs.length ≤ sizeLine)
    (hasg : ∀ C d, d ∈ xs → Asg prog w A (compEnvC scope cl C env) target (enc d) (bs d))
    (helt : ∀ C d g' m', d ∈ xs → Le g g' → Bd g' m' (bs d) → EvH prog w A (compEnvC scope cl C env) m' mu g' elt (FH (f d)))
    (hclos : closureFor scope env = pure cl) (hcell : ∀ y ∈ scope.names, y.2 ≠ .cell) (hkind : scope.kind = .function) (hnames : ∀ y ∈ scope.names, y.2 = .local → scope.names.lookup y.1 = some .local)
    (hs : ∀ x, foldedSetIterable iter env x = pure x := by intro _; rfl) :
    EvH prog w A env m mu g (.ListComp elt [⟨target, iter, [], 0⟩] scope pos) (FH (.list (xs.map f))) := by
  intro s g₁ Q E hg X k
  rw [eval_ListComp]
  refine wpAny_comprehension_free (use := none) rfl hs hclos hkind hnames (hsrc s g₁ _ _ hg X fun it fp St Mid g2 h2 tk2 G2 It st0 hfresh => ?_)
  refine wpAny_newObj_type (wpAny_newFunctionEnv hcell (by intro y hy; simp at hy) (fun h₁ hns₁ hsb₁ => ?_) hkind)
  dsimp only at hns₁ hsb₁ ⊢
  generalize hH2 : h2.push { cls := .type "list", dict := none, data := .seq ([] : List Value).toArray } = H2 at hns₁ hsb₁ ⊢
  generalize hD : h2.objs.size = D at hns₁ hsb₁ ⊢
  generalize hC : H2.objs.size = C at hns₁ hsb₁ ⊢
  have hCs : C = D + 1 := by rw [← hC, ← hH2, Heap.size_push, hD]
  have hDC : D ≠ C := by rw [hCs]; exact Nat.ne_of_lt (Nat.lt_succ_self _)
  have nD : ∀ b o, h2.get? b = some o → b ≠ D ∧ b ≠ C := fun b o e => by
    have := Heap.lt_size e
    rw [hD] at this
    exact ⟨Nat.ne_of_lt this, by rw [hCs]; exact Nat.ne_of_lt (Nat.lt_succ_of_lt this)⟩
  have old : Le h2 h₁ := fun b o e => hsb₁.extBut b o (nD b o e).2 (Heap.get?_push_of_some _ (hH2 ▸ Heap.get?_push_of_some _ e))
  have hacc : h₁.PlainList D #[] := ⟨_, hsb₁.extBut _ _ hDC (Heap.get?_push_of_some _ (hH2 ▸ hD ▸ Heap.get?_push_size _ rfl))⟩
  have Dfp : D ∉ fp := fun hm => by obtain ⟨o, e⟩ := It.has 0 _ st0 D hm; exact (nD D o e).1 rfl
  have Cfp : C ∉ fp := fun hm => by obtain ⟨o, e⟩ := It.has 0 _ st0 C hm; exact (nD C o e).2 rfl
  have gD : g2.get? D = none := by
    cases q : g2.get? D with
    | none => rfl
    | some o => exact absurd rfl (nD D o (G2.gh D o q)).1
  have gC : g2.get? C = none := by
    cases q : g2.get? C with
    | none => rfl
    | some o => exact absurd rfl (nD C o (G2.gh C o q)).2
  have st1 : St 0 h₁ := It.frame 0 _ _ st0 (G2.gh.trans old) fun b _ o e => old b o e
  have hpE : ((compEnvC scope cl C env).scope.kind == .class || ((compEnvC scope cl C env).scope.kind == .module && (compEnvC scope cl C env).locals != (compEnvC scope cl C env).globals)) = false := by simp [compEnvC, relabel, hkind]
  let Xs : Addr → Prop := fun b => b = C ∨ b = D ∨ b ∈ fp
  have muX : ∀ p ∈ mu, ¬ Xs p.1 ∧ h₁.get? p.1 = some p.2 ∧ g2.get? p.1 = none := fun p hp => by
    have e0 := X.mu p hp
    have e1 := (X.grow G2).mu p hp
    refine ⟨fun z => ?_, old _ _ e1.1, e1.2⟩
    rcases z with z | z | z
    · exact (nD _ _ e1.1).2 z
    · exact (nD _ _ e1.1).1 z
    · rw [hfresh _ z] at e0; cases e0.1
  have muAt : ∀ g' h', GrowX Xs g2 h₁ g' h' → ∀ p ∈ mu, h'.get? p.1 = some p.2 ∧ g'.get? p.1 = none := fun g' h' G p hp => ⟨G.hh _ _ (muX p hp).1 (muX p hp).2.1, G.fr _ _ (muX p hp).2.1 (muX p hp).2.2⟩
  have loop : ∀ tk, codeAny (model prog w) A (.compLoop (.ListComp elt [⟨target, iter, [], 0⟩] scope pos) 0 (.ref it) (.ref D) (compEnvC scope cl C env)) (compPost (model prog w) A E none Q (.ref D) C) { s with heap := h₁, toks := tk } := by
    intro tk₁
    refine compLoop_go (fun kk s' => ∃ i g' h' tk mC ys, s' = { s with heap := h', toks := tk } ∧ i ≤ xs.length ∧ kk = xs.length + 1 - i ∧ GrowX Xs g2 h₁ g' h' ∧ St i h' ∧ h'.PlainList D ys ∧ h'.Ns C mC ∧ ∃ ls, FpAll g' ys.toList ((xs.take i).map f) ls ∧ ls.Nodup ∧ (∀ b ∈ ls, s.heap.get? b = none) ∧ D ∉ ls) ?_ (xs.length + 1)
      ⟨0, g2, h₁, tk₁, _, #[], rfl, Nat.zero_le _, rfl, GrowX.refl (G2.gh.trans old), st1, hacc, hns₁, [], by simpa using FpAll.nil, List.nodup_nil, (fun _ h => nomatch h), (fun h => nomatch h)⟩
    rintro kk s' E' ⟨i, g', h', tk, mC, ys, rfl, hi, rfl, G, st, hl, hn, ls, hr, hnd, hfr, hDl⟩
    have off' : ∀ b ∈ fp, g'.get? b = none := fun b hb => by obtain ⟨o, e⟩ := It.has 0 _ st1 b hb; exact G.fr b o e (It.off b hb)
    have gD' : g'.get? D = none := by obtain ⟨n, e⟩ := hacc; exact G.fr D _ e gD
    have gC' : g'.get? C = none := by obtain ⟨o, _, _, e, _⟩ := hns₁; exact G.fr C o e gC
    by_cases hlt : i < xs.length
    · obtain ⟨d, hd⟩ : ∃ d, xs[i]? = some d := ⟨xs[i], by simp [hlt]⟩
      have hmem : d ∈ xs := List.mem_of_getElem? hd
      refine It.item i (enc d) _ g' _ _ (by simp [hd]) st G.gg G.gh off' fun v ga ha tka Ga mid rv => ?_
      have offa : ∀ b ∈ fp, ga.get? b = none := fun b hb => by obtain ⟨o, e⟩ := It.has i _ st b hb; exact Ga.fr b o e (off' b hb)
      refine It.go i v target _ ga _ _ hT mid (G.gg.trans Ga.gg) Ga.gh offa fun hb Gb stb => ?_
      have Gab : GrowX (· ∈ fp) g' h' ga hb := Ga.trans Gb
      have nb : hb.Ns C mC := hn.at' fun o e => Gab.hh C o Cfp e
      have sitb : Sit (compEnvC scope cl C env) mC [] ga hb := ⟨Gab.gh, nb, by obtain ⟨o, _, _, e, _⟩ := hn; exact Gab.fr C o e gC', fun _ h => nomatch h⟩
      refine hasg C d hmem _ ga v mC _ _ sitb rv fun hc tkc mC' Gc nc bd _ => ?_
      have sitc : Sit (compEnvC scope cl C env) mC' mu ga hc := ⟨Gc.gh, nc, sitb.gL, muAt ga hc (G.trans ((Gab.mono fun b hb' => .inr (.inr hb')).trans (Gc.mono fun b hb' => .inl hb')))⟩
      have stc : St (i + 1) hc := It.frame _ _ _ stb (G.gg.trans (Gab.gg.trans Gc.gh)) fun b hb' o e => Gc.hh b o (fun z => Cfp (by have z' : b = C := z; rw [z'] at hb'; exact hb')) e
      have toX0 : GrowX Xs g' h' ga hc := (Gab.mono fun b hb' => .inr (.inr hb')).trans (Gc.mono fun b hb' => .inl hb')
      have ldc : hc.PlainList D ys := hl.at fun o e => Gc.hh D o hDC (Gab.hh D o Dfp e)
      refine wpAny_tests_nil ?_
      simp only [if_true]
      refine helt C d ga mC' hmem ((hg.trans G2.gg).trans (G.gg.trans Gab.gg)) bd _ ga _ _ (Le.refl _) sitc fun y ge he tke Ge ry => ?_
      obtain ⟨ls2, fp2, nd2, fr2⟩ := ry
      have toX := toX0
      have le_ : he.PlainList D ys := ldc.at fun o e => Ge.hh D o e
      have hys : ys.size ≤ sizeLine := by
        have e1 := hr.rd.length
        simp only [List.length_map, Array.length_toList, List.length_take] at e1
        omega
      refine wpAny_list_append_plain (hsz := hys) le_ fun hf lf sf => ?_
      have gDe : ge.get? D = none := by
        obtain ⟨n', e'⟩ := ldc
        obtain ⟨n2, e2⟩ := hl
        exact Ge.fr D _ e' (toX.fr D _ e2 gD')
      have Gf : GrowX Xs ge he ge hf := by
        refine ⟨Le.refl _, fun b o e => (sf.2 b fun z => by subst z; rw [gDe] at e; cases e).trans (Ge.gh b o e), fun b o n e => (sf.2 b fun z => n (.inr (.inl z))).trans e, fun b o e => ?_, fun _ _ _ z => z⟩
        by_cases z : b = D
        · subst z; obtain ⟨n, e⟩ := lf; exact ⟨_, e⟩
        · exact ⟨o, (sf.2 b z).trans e⟩
      have inHc : ∀ b ∈ ls, ∃ o, hc.get? b = some o := fun b hb => by
        obtain ⟨_, _, q⟩ := hr.has b hb
        exact ⟨_, toX0.gh _ _ (toX0.gg _ _ q)⟩
      have sHc : ∀ b o, s.heap.get? b = some o → hc.get? b = some o := fun b o q => by
        have q2 := G2.hh b o q
        have nn := nD b o q2
        have nf : b ∉ fp := fun z => by rw [hfresh b z] at q; cases q
        exact toX0.hh b o (fun z => z.elim nn.2 fun z => z.elim nn.1 nf) (G.hh b o (fun z => z.elim nn.2 fun z => z.elim nn.1 nf) (old b o q2))
      refine ⟨xs.length + 1 - (i + 1), by omega, i + 1, ge, hf, tke, mC', ys.push y, rfl, hlt, rfl, (G.trans toX).trans (Ge.toX.trans Gf), ?_, lf, (nc.keeps Ge.hh).sameBut sf (Ne.symm hDC), ls ++ ls2, ?_, ?_, ?_, ?_⟩
      · exact It.frame _ _ _ stc (G.gg.trans (toX.gg.trans (Ge.gg.trans Gf.gh))) fun b hb' o e => (sf.2 b fun z => Dfp (z ▸ hb')).trans (Ge.hh b o e)
      · rw [take_succ_get hd, List.map_append, Array.toList_push]
        exact (hr.mono (toX.gg.trans Ge.gg)).snoc fp2
      · refine List.nodup_append.mpr ⟨hnd, nd2, fun a ha b hb z => ?_⟩
        subst z
        obtain ⟨o, q⟩ := inHc a ha
        rw [fr2 a hb] at q; cases q
      · intro b hb
        rcases List.mem_append.mp hb with hb | hb
        · exact hfr b hb
        · cases q : s.heap.get? b with
          | none => rfl
          | some o => have := sHc b o q; rw [fr2 b hb] at this; cases this
      · intro hb
        rcases List.mem_append.mp hb with hb | hb
        · exact hDl hb
        · obtain ⟨_, e⟩ := ldc; rw [fr2 D hb] at e; cases e
    · have hin : i = xs.length := by omega
      subst hin
      refine It.done _ g' _ _ (by simpa using st) G.gg G.gh off' fun hz tkz keep => ?_
      have nz : hz.Ns C mC := hn.at' fun o e => keep C o Cfp e
      refine ⟨mC, nz, fun h'' hs'' => ?_⟩
      obtain ⟨n, el⟩ := hl
      have ez : h''.get? D = some { cls := .type "list", data := .seq ys n } := (hs''.2 D hDC).trans (keep D _ Dfp el)
      have kz : ∀ b o, b ≠ C → b ∉ fp → h'.get? b = some o → h''.get? b = some o := fun b o n1 n2 e => (hs''.2 b n1).trans (keep b o n2 e)
      have lz : Le g' h'' := fun b o e => kz b o (fun z => by subst z; rw [gC'] at e; cases e) (fun z => by rw [off' b z] at e; cases e) (G.gh b o e)
      obtain ⟨gf, q⟩ := ghost_ex lz ez
      rw [List.take_length] at hr
      have gg' : Le g' gf := fun b o e => by rw [q]; by_cases z : b = D
                                             · subst z; rw [gD'] at e; cases e
                                             · rw [if_neg z]; exact e
      refine k (.ref D) gf h'' tkz ⟨G2.gg.trans (G.gg.trans gg'), fun b o e => ?_, fun b o e => ?_, fun b o e e' => ?_⟩ ?_
      · rw [q] at e
        by_cases z : b = D
        · subst z; rw [if_pos rfl] at e; cases e; exact ez
        · rw [if_neg z] at e; exact lz b o e
      · have e2 := G2.hh b o e
        have nf : b ∉ fp := fun z => by rw [hfresh b z] at e; cases e
        have nn := nD b o e2
        exact kz b o nn.2 nf (G.hh b o (fun z => z.elim nn.2 fun z => z.elim nn.1 nf) (old b o e2))
      · have e2 := G2.hh b o e
        rw [q, if_neg (nD b o e2).1]
        exact G.fr b o (old b o e2) (G2.fr b o e e')
      · refine ⟨D :: ls, .list (vs := ys.toList) (n := n) (by rw [q, if_pos rfl]) (hr.mono gg'), List.nodup_cons.mpr ⟨hDl, hnd⟩, fun b hb => ?_⟩
        rcases List.mem_cons.mp hb with rfl | hb
        · cases q : s.heap.get? b with
          | none => rfl
          | some o => exact absurd rfl (nD b o (G2.hh b o q)).1
        · exact hfr b hb
  exact codeAny_compStart_list (loop _) (It.self _ _ _ st1 (loop _))
end

end
section
open PySem PySem.W PySem.Spec PySem.Calls PyProof.Rows

def PureH (prog : Program) (w : World) (mg mb : Str → Option Value) (n : Nat) (f : Addr) (ds : List PyData) (R : Ph) : Prop :=
  ∀ (A : Around) (s : Shared) (g : Heap) (vs : List Value) (Q : Value → Shared → Prop) (E : Value → Shared → Prop), Rm n A → Wd w mg mb g → Le g s.heap → RdAll g vs ds →
    (∀ v g' h' tk, Grow g s.heap g' h' → R s.heap g' v → Q v { s with heap := h', toks := tk }) → wpAny (model prog w) A (call (.ref f) vs) Q E s
def AntiH (R : Ph) : Prop := ∀ e e' g v, Le e e' → R e' g v → R e g v
theorem antiH_FH (d : PyData) : AntiH (FH d) := fun _ _ _ _ x ⟨ls, r, h1, h2⟩ => ⟨ls, r, h1, fun b hb => x.none (h2 b hb)⟩
section
variable {prog : Program} {w : World} {A : Around} {env : Env} {m : Str → Option Value} {mu : Mu} {g : Heap} {mg mb : Str → Option Value}
theorem TrH.call {x : Str} {np pos : Pos} {n : Nat} {f : Addr} {ds : List PyData} {R : Ph} {e1 : Expr} {rest : List Expr} (W : Wd w mg mb g) (hR : Rm n A) (hf : nsIn (hd.heap_39 w.params) mainGlobals x = some (some (.ref f)))
    (hod : ∃ o fd, (hd.heap_39 w.params).lookup f = some o ∧ o.data = .func fd) (hc : PureH prog w mg mb n f ds R) (hA : AntiH R) (ha : SpD prog w A env m mu g (backTo pos (starEach (e1 :: rest) env)) ds)
    (he : starEach (e1 :: rest) env = (false, eval e1 env) :: starEach rest env := by rfl) (hk : env.scope.kind = .function := by rfl) (hl : env.kindOf x = some .globalImplicit := by rfl) (hG : env.globals = mainGlobals := by rfl) (hd : (x == ("__debug__" : Str)) = false := by decide) :
    EvH prog w A env m mu g (.Call (.Name x np) (e1 :: rest) [] pos) R :=
  fun s g₁ Q E hg X k => wpAny_Call_NameR ((Tr.glob (R := fun _ v => v = .ref f) W hf (fun _ _ _ _ r => r) rfl hk hl hG hd) s g₁ _ _ hg X fun v g1 h1 tk1 G1 r => by
    subst r
    obtain ⟨o, fd, ho, hdat⟩ := hod
    exact callWith_def hdat (ha _ _ _ _ (hg.trans G1.gg) (X.grow G1) fun vs g2 h2 tk2 G2 r2 => ⟨(W.mono ((hg.trans G1.gg).trans (G2.gg.trans G2.gh))).K _ _ ho, hc _ _ g2 _ _ _ hR (W.mono ((hg.trans G1.gg).trans G2.gg)) G2.gh r2 fun v g3 h3 tk3 G3 r3 =>
      k _ _ _ _ ((G1.trans G2).trans G3) (hA _ _ _ _ ((G1.trans G2).hh) r3)⟩) he)
def FO (ds : List PyData) : Ph := fun e g v => ∃ l vs n ls, v = .ref l ∧ g.get? l = some (lstO vs n) ∧ FpAll g vs ds ls ∧ ls.Nodup ∧ ∀ b ∈ ls, e.get? b = none
theorem TrH.list2 {e1 e2 : Expr} {pos : Pos} {d1 d2 : PyData} (h1 : EvH prog w A env m mu g e1 (FH d1)) (h2 : EvH prog w A env m mu g e2 (FH d2)) (he : backTo pos (starEach [e1, e2] env) = [(false, eval e1 env), (false, eval e2 env)] := by rfl) :
    EvH prog w A env m mu g (.List [e1, e2] pos) (FO [d1, d2]) :=
  fun s g₁ Q E hg X k => List_ (by
    rw [he]
    refine Calls.spliced_cons (h1 s g₁ _ _ hg X fun v1 g1 h1' tk1 G1 r1 => Calls.spliced_cons (h2 _ g1 _ _ (hg.trans G1.gg) (X.grow G1) fun v2 g2 h2' tk2 G2 r2 => Calls.spliced_nil ?_))
    obtain ⟨l1, f1, n1, q1⟩ := r1
    obtain ⟨l2, f2, n2, q2⟩ := r2
    obtain ⟨g3, G3, e⟩ := Grow.push G2.gh (lstO [v1, v2]) rfl
    refine wpAny_newList (k _ g3 _ _ ((G1.trans G2).trans G3) ⟨_, [v1, v2], 0, l1 ++ (l2 ++ []), rfl, e, .cons ((f1.mono G2.gg).mono G3.gg) (.cons (f2.mono G3.gg) .nil), ?_, fun b hb => ?_⟩) (by exact Nat.le_of_ble_eq_true rfl)
    · rw [List.append_nil]
      refine List.nodup_append.mpr ⟨n1, n2, fun a ha b hb z => ?_⟩
      subst z
      obtain ⟨_, _, q⟩ := f1.has a ha
      have := G1.gh _ _ q
      rw [q2 a hb] at this; cases this
    · rw [List.append_nil] at hb
      rcases List.mem_append.mp hb with hb | hb
      · exact q1 b hb
      · exact Le.none G1.hh (q2 b hb))
theorem add_listO {s : Shared} {a b : Addr} {vs ws : List Value} {Q : Value → Shared → Prop} {E : Value → Shared → Prop} (hl : s.heap.IsList a vs.toArray) (hb : s.heap.IsList b ws.toArray) (hsz : vs.length + ws.length ≤ sizeLine)
    (k : Q (.ref s.heap.objs.size) { s with heap := s.heap.push (lstO (vs ++ ws)) }) : wpAny (model prog w) A (binaryOp .Add (.ref a) (.ref b)) Q E s := by
  obtain ⟨⟨cls, dd, data, sl⟩, ho, hc, n, hd⟩ := hl
  obtain ⟨⟨cls2, dd2, data2, sl2⟩, ho2, hc2, n2, hd2⟩ := hb
  simp only at hc hd hc2 hd2
  subst hc hd hc2 hd2
  refine concat_meets ⟨_, ho, rfl⟩ ⟨_, ho2, rfl⟩ noFill_list_add seq_list_add PySem.F.slot_list_add PySem.F.entry_list_add (PySem.F.args_list_add_2 _ _) (list_addW a b vs.toArray ws.toArray n n2 dd dd2 sl sl2 (by simpa using hsz)) ⟨ho, ho2, ?_⟩
  have e2 : vs.toArray ++ ws.toArray = (vs ++ ws).toArray := by simp
  rw [e2]
  exact k
end
theorem noL_lab (l : Option Str) : noL (labD l) = true := by cases l <;> rfl
section
variable {prog : Program} {w : World} {mg mb : Str → Option Value}
theorem law_copied_spec : ∀ (n : Nat) (f : Fm), okF n f = true → PureH prog w mg mb n 109 [rowsD f] (FH (rowsD f))
  | 0, f, h => by cases f; simp [okF] at h
  | n + 1, .mk kd l vl as ks, h => by
    have o := okF_succ h
    have q1 := o.alen; have q2 := o.klen; have hz := sizeLine_eq
    intro A s g vs Q E hR W hg r k
    obtain ⟨v, rfl, r1⟩ := r.one
    rw [rowsD_mk] at r1
    refine call_at (binds := [(S "rows", v)]) (mu := []) (X := NoX) hR W hg (fun _ h => nomatch h) rfl rfl rfl rfl rfl (by decide) (locs rfl) rfl rfl rfl fun L h₁ tk E' a hR' => ?_
    refine St.retX (wpAny_BinOp ((Tr.slice_to (j := 3) (Tr.name rfl (mono_da _) r1) Tr.const_int (Nat.le_of_ble_eq_true rfl)) _ g _ _ (Le.refl _) a.sit fun v2 g2 h2 tk2 G2 r2 => ?_))
    have W2 := W.mono G2.gg
    have r12 := r1.mono G2.gg
    have a2 := a.grow G2
    refine (TrH.list2 (d1 := .list (as.map atrL)) (d2 := .list (ks.map rowsD)) ?_ ?_) _ g2 _ _ (Le.refl _) a2.sit fun v3 g3 h3 tk3 G3 r3 => ?_
    · refine TrH.comp0 (cl := []) atrL (fun f => [(S "row", atrL f)]) _ (T := fun _ => True) (Ie.list hR'.hd (by tb_rel)) trivial (by omega)
        (fun C d hd => Asg.name rfl rfl) (fun C d g' m' hd hg' bd => ?_) rfl (by decide) rfl (by decide)
      obtain ⟨v', hv, rv⟩ := bd _ (.head _)
      exact TrH.weak (TrH.list_of (W2.mono hg') (Tr.name hv (mono_da _) rv) (Nat.le_of_ble_eq_true rfl)) fun e g v q => FH.of_FL rfl q
    · refine TrH.comp0 (cl := []) rowsD (fun f => [(S "row", rowsD f)]) _ (T := fun _ => True) (Ie.list hR'.hd (by tb_rel)) trivial (by omega)
        (fun C d hd => Asg.name rfl rfl) (fun C d g' m' hd hg' bd => ?_) rfl (by decide) rfl (by decide)
      obtain ⟨v', hv, rv⟩ := bd _ (.head _)
      exact TrH.call (W2.mono hg') hR' (gf_law_copied _) (gd_law_copied _) (law_copied_spec n d (o.kids d hd)) (antiH_FH _) (SpE.cons (Tr.name hv (mono_da _) rv) SpE.nil)
    · obtain ⟨l3, ws, n3, ls, rfl, e3, f3, nd, fr⟩ := r3
      obtain ⟨l2, us, rfl, hL, ru⟩ := (r2.mono G3.gg).list_inv
      have a3 := a2.grow G3
      have hus : us.length = 3 := ru.length
      have hws : ws.length = 2 := f3.rd.length
      refine add_listO (IsList.le G3.gh hL) (IsList.le G3.gh (isList_of e3)) (by omega) ?_
      obtain ⟨g4, G4, e4⟩ := Grow.push G3.gh (lstO (us ++ ws)) rfl
      have fe : ∀ b ∈ ls, s.heap.get? b = none := fun b hb => a2.heap_none (fr b hb)
      refine k _ g4 _ tk3 (a3.grow G4).done0 ⟨h3.objs.size :: ls, ?_, List.nodup_cons.mpr ⟨fun hb => ?_, nd⟩, fun b hb => ?_⟩
      · rw [rowsD_mk]
        refine .list e4 ?_
        have ff : FpAll g4 us [.str kd, labD l, .str vl] [] := FpAll.flat (by simp [noLs, noL, noL_lab]) (ru.mono G4.gg)
        exact ff.append (f3.mono G4.gg)
      · obtain ⟨_, _, q⟩ := f3.has _ hb
        have := G3.gh _ _ q
        rw [get_fresh] at this; cases this
      · rcases List.mem_cons.mp hb with rfl | hb
        · exact a3.fresh
        · exact fe b hb
end

end
section
open PySem PySem.W PySem.Spec PySem.Calls PyProof.Rows

section
variable {prog : Program} {w : World} {A : Around} {E : Value → Shared → Prop} {s : Shared}
/-- «xs[1:] = ys» -/
theorem l_setslice {l b sl : Addr} {vs ws : List Value} {n : Nat} {t : Tok} {Q : Unit → Shared → Prop} (e : s.heap.get? l = some (lstO vs n)) (hb : s.heap.IsList b ws.toArray) (hne : l ≠ b) (hsl : s.heap.IsSliceOf sl (.int 1 t) .none .none) (h1 : 1 ≤ vs.length) (hsz : vs.length + ws.length ≤ 1000)
    (hQ : ∀ h' n', h'.get? l = some (lstO (vs.take 1 ++ ws) n') → Heap.SameBut l s.heap h' → Q () { s with heap := h' }) : wpAny (model prog w) A (setItem (.ref l) (.ref sl) (.ref b)) Q E s := by
  have hz := sizeLine_eq
  have hl : s.heap.IsList l vs.toArray := isList_of e
  obtain ⟨os, hos, hcs, hds⟩ := id hsl
  obtain ⟨ob, hob, hcb, nb, hdb⟩ := id hb
  have hTs : s.TypeIs (.ref sl) "slice" := ⟨os, hos, hcs⟩
  unfold setItem
  try with_reducible refine wpAny_holding ?_
  first | refine wpAny_bind (wpAny_pure ?_) | skip
  refine wpAny_bind (wpAny_sequenceKey hl.typeIs (by decide) ?_)
  refine wpAny_bind (wpAny_callSpecial?_slot (name := Str.ofString "__setitem__") hl.typeIs PySem.slot_list_setitem
    (wpAny_call_entry PySem.slot_list_setitem hl.typeIs PySem.entry_list_setitem ?_ (PySem.args_list_setitem _ _ _)))
  show wpAny _ _ (Builtin.List.listSubscript? (.ref sl) >>= _) _ _ s
  refine wpAny_bind ?_
  unfold Builtin.List.listSubscript?
  refine wpAny_bind (wpAny_specialOf hTs slice_no_index ?_)
  simp only [Option.isNone_none, if_true]
  refine wpAny_pure ?_
  show wpAny _ _ (typeOf (.ref sl) >>= _) _ _ s
  refine wpAny_bind (wpAny_typeOf hTs ?_)
  rw [if_neg (by decide)]
  rw [listSliceParts_eq]
  have hstep : ¬ ((rawPart none == rawInt 0) = true) := Bool.false_ne_true
  refine wpAny_bind (wpAny_bind (wpAny_field hos hds (x := .none) rfl (wpAny_bind (wpAny_listPart .none ?_))))
  rw [if_neg hstep]
  refine wpAny_bind (wpAny_field hos hds (x := .int 1 t) rfl (wpAny_bind (wpAny_listPart (.int 1 t) ?_)))
  refine wpAny_bind (wpAny_field hos hds (x := .none) rfl (wpAny_bind (wpAny_listPart .none (wpAny_pure ?_))))
  have hsame : Builtin.List.listSameRef (.ref l) (.ref b) = false := by simp only [Builtin.List.listSameRef]; exact beq_false_of_ne hne
  simp only [hsame, Bool.false_eq_true, if_false]
  refine wpAny_bind ?_
  unfold Builtin.List.listAllItems
  refine wpAny_bind (wpAny_typeOf ⟨ob, hob, hcb⟩ ?_)
  rw [if_pos (by decide)]
  refine listItems_at hob hdb ?_
  refine wpAny_bind (listItems_at e rfl ?_)
  refine wpAny_bind (wpAny_of_eq (sliceIndices_raw (some 1) none none _ (by simp)) ?_)
  have eb : sliceBounds (some 1) none none vs.toArray.size = (1, (vs.length : Int), 1) := by
    simp only [sliceBounds, Option.getD_none, List.size_toArray]
    have h2 : ¬ ((1 : Int) < 0) := by omega
    simp only [h2, if_false, show (1 : Int) > 0 by decide, if_true]
    congr 1
    omega
  rw [eb]
  have hl2 : Builtin.List.listTooLong (vs.toArray.size + ws.toArray.size) = false := by
    simp only [Builtin.List.listTooLong, List.size_toArray, decide_eq_false_iff_not]; omega
  simp only [beq_self_eq_true, if_true, hl2, Bool.false_eq_true, if_false]
  refine wpAny_bind (wpAny_rule ?_)
  refine wpAny_bind (listUpdate_at e rfl ?_ (by rw [List.size_toArray]; omega) (by
    simp only [Array.size_append, Array.size_extract, List.size_toArray]; omega))
  refine wpAny_bind (wpAny_letGo (wpAny_pure ⟨_, rfl, wpAny_pure ?_⟩))
  have er : (vs.toArray.extract 0 (1 : Int).toNat ++ ws.toArray ++ vs.toArray.extract (max (1 : Int) (vs.length : Int)).toNat) = (vs.take 1 ++ ws).toArray := by
    apply Array.ext'
    have e3 : (max (1 : Int) (vs.length : Int)).toNat = vs.length := by omega
    rw [e3]
    simp
  refine hQ _ (if (vs.take 1 ++ ws).toArray.size == vs.toArray.size then n else n + 1) (upd_get e ?_ rfl) (Heap.SameBut.update ..)
  exact (congrArg (fun x : Array Value => ({ cls := .type "list", data := .seq x (if x.size == vs.toArray.size then n else n + 1) } : Obj)) er)
end

end
section
open PySem PySem.W PySem.Spec PySem.Calls PyProof.Rows

theorem RdAll.set {g : Heap} : ∀ {vs : List Value} {ds : List PyData} {j : Nat} {v : Value} {d : PyData}, RdAll g vs ds → Rd g v d → RdAll g (vs.set j v) (ds.set j d)
  | [], ds, j, v, d, r, q => by obtain ⟨_, r⟩ := r; cases r; exact .nil
  | x :: vs, ds, 0, v, d, r, q => by
    obtain ⟨d', ds', rfl, a, b⟩ := r.cons_inv
    exact .cons q b
  | x :: vs, ds, j + 1, v, d, r, q => by
    obtain ⟨d', ds', rfl, a, b⟩ := r.cons_inv
    exact .cons a (b.set q)
section
variable {prog : Program} {w : World} {A : Around} {env : Env} {m : Str → Option Value} {mu : Mu} {g g₀ e₀ : Heap} {mg mb : Str → Option Value} {X : Addr → Prop} {s : Shared} {h0 : Heap} {G0 : Array GenState} {D0 : Drawn} {T0 : Nat} {O0 : OsState} {E : Value → Shared → Prop} {Q : Flow → Shared → Prop} {rest : List Stmt}
/-- an item of a list that may turn, as it lies -/
theorem Tr.sub_mutV {value slice : Expr} {pos : Pos} {l : Addr} {vs : List Value} {n : Nat} {i : Int} {x : Value} (hv : Ev prog w A env m mu g value (fun _ v => v = .ref l)) (hm : (l, lstO vs n) ∈ mu)
    (h2 : Ev prog w A env m mu g slice (Da (.int i))) (h0 : 0 ≤ i) (hhi : i < 2 ^ 63) (hx : vs[i.toNat]? = some x)
    (hs : ∀ (t : Addr) (i : Int) (u : Tok), subscripted slice false (.ref t) (.int i u) = operate [.ref t, .int i u] (getItem (.ref t) (.int i u)) := by intro _ _ _; with_unfolding_all rfl) :
    Ev prog w A env m mu g (.Subscript value slice pos) (fun _ v => v = x) :=
  fun s g₁ Q E hg X k => Subscript_ (hv s g₁ _ _ hg X fun v g1 h1' tk1 G1 r1 => h2 _ _ _ _ (hg.trans G1.gg) (X.grow G1) fun u g2 h2' tk2 G2 r2 => by
    subst r1
    obtain ⟨t, rfl⟩ := r2.int_inv
    have hL : h2'.IsList l vs.toArray := isList_of (((X.grow G1).grow G2).mu _ hm).1
    exact tail_any hL.typeIs slot_list_getitem.lookup (wpAny_getItem_list hL h0 hhi (by simpa using hx) (k x g2 h2' tk2 (G1.trans G2) rfl)) (hs _ _ _))
/-- an item of a list of the ghost, as it lies -/
theorem Tr.sub_listV {value slice : Expr} {pos : Pos} {l : Addr} {vs : List Value} {i : Int} {x : Value} (hv : Ev prog w A env m mu g value (fun _ v => v = .ref l)) (hL : g.IsList l vs.toArray)
    (h2 : Ev prog w A env m mu g slice (Da (.int i))) (h0 : 0 ≤ i) (hhi : i < 2 ^ 63) (hx : vs[i.toNat]? = some x)
    (hs : ∀ (t : Addr) (i : Int) (u : Tok), subscripted slice false (.ref t) (.int i u) = operate [.ref t, .int i u] (getItem (.ref t) (.int i u)) := by intro _ _ _; with_unfolding_all rfl) :
    Ev prog w A env m mu g (.Subscript value slice pos) (fun _ v => v = x) :=
  fun s g₁ Q E hg X k => Subscript_ (hv s g₁ _ _ hg X fun v g1 h1' tk1 G1 r1 => h2 _ _ _ _ (hg.trans G1.gg) (X.grow G1) fun u g2 h2' tk2 G2 r2 => by
    subst r1
    obtain ⟨t, rfl⟩ := r2.int_inv
    have hL : h2'.IsList l vs.toArray := IsList.le (hg.trans (G1.gg.trans (G2.gg.trans G2.gh))) hL
    exact tail_any hL.typeIs slot_list_getitem.lookup (wpAny_getItem_list hL h0 hhi (by simpa using hx) (k x g2 h2' tk2 (G1.trans G2) rfl)) (hs _ _ _))
theorem St.retlistX {x : Str} {np pos : Pos} {l : Addr} {vs : List Value} {n : Nat} {ds : List PyData} (a : At X g₀ e₀ env m ((l, lstO vs n) :: mu) g h0) (hv : m x = some (.ref l)) (r : RdAll g vs ds) (hd : ∀ p ∈ mu, p.1 ≠ l) (hX : e₀.get? l = none)
    (k : ∀ g' h' tk, At X g₀ e₀ env m mu g' h' → Rd g' (.ref l) (.list ds) → Q (.ret (.ref l)) (Shared.mk h' G0 D0 tk O0))
    (hk : env.scope.kind = .function := by rfl) (hl : env.kindOf x = some .local := by rfl) (hdb : (x == ("__debug__" : Str)) = false := by decide) :
    wpAny (model prog w) A (execs (.Return (some (.Name x np)) pos :: rest) env) Q E (Shared.mk h0 G0 D0 T0 O0) := by
  refine St.ret a (R := fun g v => v = .ref l ∧ RdAll g vs ds) (Tr.name hv (fun _ _ _ x q => ⟨q.1, q.2.mono x⟩) ⟨rfl, r⟩ hk hl hdb) fun v g' h' tk a' r' => ?_
  obtain ⟨rfl, rr⟩ := r'
  obtain ⟨g2, hg2, e, a2⟩ := a'.freeze hX hd
  exact k g2 h' tk a2 (.list (isList_of e) (rr.mono hg2))
/-- «x, y = (e1, e2)», e2 turns the ledger -/
theorem St.assign2X {x y : Str} {p1 p2 tp vp pos : Pos} {k1 k2 : Nat} {e1 e2 : Expr} {R1 : Ph} {R2 : Value → Mu → Prop} (hh : A.handled = none) (a : At X g₀ e₀ env m mu g h0) (h1 : EvH prog w A env m mu g e1 R1) (m1 : MonoH R1) (h2 : ∀ g', Le g g' → TrX prog w A X g₀ e₀ env m mu g' (eval e2 env) (fun v mu' _ => R2 v mu'))
    (k : ∀ v1 v2 mu' g' h' tk, At X g₀ e₀ env (upd (upd m y v2) x v1) mu' g' h' → Le g g' → R1 h0 g' v1 → R2 v2 mu' → wpAny (model prog w) A (execs rest env) Q E (Shared.mk h' G0 D0 tk O0))
    (hlx : env.kindOf x = some .local := by rfl) (hly : env.kindOf y = some .local := by rfl) (he : backTo vp (starEach [e1, e2] env) = [(false, eval e1 env), (false, eval e2 env)] := by rfl)
    (hs : swapsWithSole [.Tuple [.Name x p1, .Name y p2] k1 tp] (.Tuple [e1, e2] k2 vp) pos.line env = pure false := by rfl) (hw : swappedStores [.Tuple [.Name x p1, .Name y p2] k1 tp] (.Tuple [e1, e2] k2 vp) env = pure (some [x, y]) := by rfl)
    (hp : (env.scope.kind == .class || (env.scope.kind == .module && env.locals != env.globals)) = false := by rfl) :
    wpAny (model prog w) A (execs (.Assign [.Tuple [.Name x p1, .Name y p2] k1 tp] (.Tuple [e1, e2] k2 vp) pos :: rest) env) Q E (Shared.mk h0 G0 D0 T0 O0) := by
  refine wpAny_execs_cons (Assign_Tuple_swapped (names := [x, y]) ?_ hs hw)
  refine Tuple_ ?_
  rw [he]
  refine Calls.spliced_cons (h1 (Shared.mk h0 G0 D0 T0 O0) g _ _ (Le.refl g) a.sit fun v1 g1 h1' tk1 G1 r1 => Calls.spliced_cons (h2 g1 G1.gg _ _ _ (a.grow G1) fun v2 mu2 g2 h2' tk2 a2 hg2 r2 => Calls.spliced_nil ?_))
  refine wpAny_newTuple ?_ (by show 2 ≤ sizeLine; exact Nat.le_of_ble_eq_true rfl)
  have a3 := a2.grow (Grow.push0 a2.le (tupO [v1, v2]))
  refine wpAny_unpackItems_tuple hh (items := #[v1, v2]) ⟨_, Heap.get?_push_size _ rfl, rfl, 0, rfl⟩ fun h4 ext => ?_
  have le4 : Le (h2'.push (tupO [v1, v2])) h4 := fun b o e => ext b o (Nat.ne_of_lt (Heap.lt_size e)) e
  have a4 := a3.grow (Grow.of_le a3.le le4)
  refine wpAny_bind (wpAny_holding (wpAny_bindName (wpAny_storeName_local hly a4.sit.ns (fun h5 hn5 hs5 => ?_) hp)))
  have a5 := a4.store hn5 hs5
  refine wpAny_bind (wpAny_holding (wpAny_bindName (wpAny_storeName_local hlx a5.sit.ns (fun h6 hn6 hs6 => wpAny_pure ?_) hp)))
  exact k v1 v2 mu2 g2 h6 _ (a5.store hn6 hs6) (G1.gg.trans hg2) (m1 _ _ _ _ hg2 r1) r2
/-- slices of what an expression gives anew -/
theorem Tr.slice_fromT {value e : Expr} {p pos : Pos} {ds : List PyData} {j : Nat} (h : Ev prog w A env m mu g value (Da (.list ds))) (h2 : Ev prog w A env m mu g e (Da (.int (j : Int)))) (hsz : ds.length ≤ sizeLine)
    (hs : ∀ a b, subscripted (.Slice (some e) none none p) false (.ref a) (.ref b) = operate [.ref b, .ref a] (getItem (.ref a) (.ref b)) := by intro _ _; with_unfolding_all rfl) :
    Ev prog w A env m mu g (.Subscript value (.Slice (some e) none none p) pos) (Da (.list (ds.drop j))) :=
  fun s g₁ Q E hg X k => Subscript_ (h s g₁ _ _ hg X fun v g1 h1 tk1 G1 r1 => wpAny_Slice ((Pt.int h2) _ _ _ _ (hg.trans G1.gg) (X.grow G1) fun vl g3 h3 tk3 G3 r3 => wpAny_pure (wpAny_pure (by
    obtain ⟨a, vs, rfl, hl, ra⟩ := (r1.mono G3.gg).list_inv
    have G4 := Grow.push0 G3.gh { cls := .type "slice", data := .fields #[vl, .none, .none] }
    have hl' := (IsList.le G3.gh hl).push { cls := .type "slice", data := .fields #[vl, .none, .none] }
    refine tail_any hl'.typeIs slot_list_getitem.lookup (wpAny_getItem_list_slice hl' (Heap.IsSliceOf.new ..) r3 .none .none (by simp) ?_ (by rw [List.size_toArray, ra.length]; exact hsz)) (hs _ _)
    rw [slicePick_from']
    obtain ⟨g5, G5, e⟩ := Grow.push G4.gh (lstO (vs.drop j)) rfl
    exact k _ g5 _ _ (((G1.trans G3).trans G4).trans G5) (.list (isList_of e) (ra.mono G5.gg).drop)))))
theorem Tr.slice_revT {value e : Expr} {p pos : Pos} {ds : List PyData} (h : Ev prog w A env m mu g value (Da (.list ds))) (h2 : Ev prog w A env m mu g e (Da (.int (-1)))) (hsz : ds.length ≤ sizeLine)
    (hs : ∀ a b, subscripted (.Slice none none (some e) p) false (.ref a) (.ref b) = operate [.ref a, .ref b] (getItem (.ref a) (.ref b)) := by intro _ _; with_unfolding_all rfl) :
    Ev prog w A env m mu g (.Subscript value (.Slice none none (some e) p) pos) (Da (.list ds.reverse)) :=
  fun s g₁ Q E hg X k => Subscript_ (h s g₁ _ _ hg X fun v g1 h1 tk1 G1 r1 => wpAny_Slice (wpAny_pure (wpAny_pure ((Pt.int h2) _ _ _ _ (hg.trans G1.gg) (X.grow G1) fun vl g3 h3 tk3 G3 r3 => by
    obtain ⟨a, vs, rfl, hl, ra⟩ := (r1.mono G3.gg).list_inv
    have G4 := Grow.push0 G3.gh { cls := .type "slice", data := .fields #[.none, .none, vl] }
    have hl' := (IsList.le G3.gh hl).push { cls := .type "slice", data := .fields #[.none, .none, vl] }
    refine tail_any hl'.typeIs slot_list_getitem.lookup (wpAny_getItem_list_slice hl' (Heap.IsSliceOf.new ..) .none .none r3 (by decide) ?_ (by rw [List.size_toArray, ra.length]; exact hsz)) (hs _ _)
    obtain ⟨g5, G5, e⟩ := Grow.push G4.gh { cls := .type "list", data := .seq (slicePick vs.toArray none none (some (-1))) } rfl
    refine k _ g5 _ _ (((G1.trans G3).trans G4).trans G5) (.list (vs := (slicePick vs.toArray none none (some (-1))).toList) ⟨_, e, rfl, 0, by simp⟩ ?_)
    rw [pick_rev]
    exact (ra.mono G5.gg).reverse))))
end

end
section
open PySem PySem.W PySem.Spec PySem.Calls PyProof.Rows

def addZ : Atr := ⟨S "u", S "z", S "z", S "1"⟩
def ChgA (as as' : List Atr) : Prop := as' = as ∨ as' = as ++ [addZ] ∨ ∃ a r nm v, as = a :: r ∧ as' = ⟨a.ks, a.kn, nm, v⟩ :: r ∧ (nm = S "b" ∧ v = S "9" ∨ nm = S "p:b" ∧ v = a.value)
def ChgK (ks ks' : List Fm) : Prop := ks' = ks ∨ ks' = ks.drop 1 ∨ (∃ p, okPlain p ∧ ks' = ks ++ [p]) ∨ ks' = ks.reverse ∨ ∃ j kd lb vl as kk, ks[j]? = some (.mk kd lb vl as kk) ∧ ks' = ks.set j (.mk kd lb (S "new") as kk)
def Changed (f f' : Fm) : Prop := ∃ k l v as ks l' as' ks', f = .mk k l v as ks ∧ f' = .mk k l' v as' ks' ∧ (l' = l ∨ l' = some (S "g")) ∧ ChgA as as' ∧ ChgK ks ks'
theorem idx2 {n : Nat} (h : n = 5) : seqIndex? 2 n = some 2 := by subst h; rfl
theorem idx3 {n : Nat} (h : n = 5) : seqIndex? 3 n = some 3 := by subst h; rfl
theorem idx4 {n : Nat} (h : n = 5) : seqIndex? 4 n = some 4 := by subst h; rfl
theorem mem_set_map {α β : Type} (f : α → β) (l : List α) (j : Nat) (x : α) : (l.set j x).map f = (l.map f).set j (f x) := by rw [List.map_set]
theorem At.mutate {X : Addr → Prop} {g₀ e₀ g h : Heap} {env : Env} {m : Str → Option Value} {mu : Mu} {r : Addr} {us : List Value} {n : Nat} (a : At X g₀ e₀ env m mu g h) (er : g.get? r = some (lstO us n)) (gr : g₀.get? r = none) (e0 : e₀.get? r = none) :
    ∃ g9, (∀ b, g9.get? b = if b = r then none else g.get? b) ∧ ∀ h' us' n', Heap.SameBut r h h' → h'.get? r = some (lstO us' n') → ∃ g11, Le g9 g11 ∧ g11.get? r = some (lstO us' n') ∧ At X g₀ e₀ env m mu g11 h' := by
  have hd : ∀ p ∈ mu, p.1 ≠ r := fun p hp z => by have := (a.sit.mu p hp).2; rw [z, er] at this; cases this
  obtain ⟨g9, q9, a9⟩ := a.thaw er gr e0
  refine ⟨g9, q9, fun h' us' n' hs he => ?_⟩
  obtain ⟨g11, le, e11, a11⟩ := (a9.turn hd hs he).freeze e0 hd
  exact ⟨g11, le, e11, a11⟩
theorem FpAll.five {g : Heap} {vs : List Value} {d0 d1 d2 : PyData} {A K : List PyData} {ls : List Addr} (h : FpAll g vs [d0, d1, d2, .list A, .list K] ls) (f0 : noL d0 = true) (f1 : noL d1 = true) (f2 : noL d2 = true) :
    ∃ x0 x1 x2 la lk us1 n1 us2 n2 l3 l4, vs = [x0, x1, x2, .ref la, .ref lk] ∧ ls = (la :: l3) ++ (lk :: l4) ∧ Rd g x0 d0 ∧ Rd g x1 d1 ∧ Rd g x2 d2 ∧ g.get? la = some (lstO us1 n1) ∧ FpAll g us1 A l3 ∧ g.get? lk = some (lstO us2 n2) ∧ FpAll g us2 K l4 := by
  obtain ⟨x0, v1, m0, k0, rfl, rfl, p0, h⟩ := h.cons_inv
  obtain ⟨x1, v2, m1, k1, rfl, rfl, p1, h⟩ := h.cons_inv
  obtain ⟨x2, v3, m2, k2, rfl, rfl, p2, h⟩ := h.cons_inv
  obtain ⟨x3, v4, m3, k3, rfl, rfl, p3, h⟩ := h.cons_inv
  obtain ⟨x4, v5, m4, k4, rfl, rfl, p4, h⟩ := h.cons_inv
  obtain ⟨rfl, rfl⟩ := h.nil_inv
  obtain ⟨rfl, r0⟩ := p0.flat_inv f0
  obtain ⟨rfl, r1⟩ := p1.flat_inv f1
  obtain ⟨rfl, r2⟩ := p2.flat_inv f2
  obtain ⟨la, us1, n1, l3, rfl, rfl, e3, q3⟩ := p3.list_inv
  obtain ⟨lk, us2, n2, l4, rfl, rfl, e4, q4⟩ := p4.list_inv
  exact ⟨x0, x1, x2, la, lk, us1, n1, us2, n2, l3, l4, rfl, by simp, r0, r1, r2, e3, q3, e4, q4⟩
theorem attrs_shaped {as : List Atr} (h : ∀ a ∈ as, atrOk a = true) : SeqAt.shaped (.list (as.map atrL)) = true := by
  refine shaped_of (n := 3) ?_ ?_ (by decide)
  · rw [PyData.canLay0]; exact canLay_all fun a ha => (atrL_lay (h a ha)).1
  · rw [PyData.depth]; have := depth_all fun a ha => (atrL_lay (h a ha)).2; omega
theorem nil_shaped : SeqAt.shaped (.list []) = true := by decide +kernel
section
variable {prog : Program} {w : World} {mg mb : Str → Option Value}
set_option maxHeartbeats 4000000 in
theorem law_changed_spec {N : Nat} (hN : N ≤ 3) (f : Fm) (hf : okF N f = true) : Eff prog w mg mb 4 116 [rowsD f] (fun g v => ∃ f', Changed f f' ∧ Rd g v (rowsD f')) := by
  intro A s g l o vs0 Q E hR W hg hl gl hs r k
  obtain ⟨kd, lb, vl, as, ks⟩ := f
  obtain ⟨N', rfl⟩ : ∃ N', N = N' + 1 := by cases N with | zero => simp [okF] at hf | succ N' => exact ⟨N', rfl⟩
  have ok := okF_succ hf
  have q1 := ok.alen; have q2 := ok.klen; have hz := sizeLine_eq
  obtain ⟨v, rfl, r1⟩ := r.one
  refine call_at (binds := [(S "source", .ref l), (S "rows", v)]) (mu := [(l, o)]) (X := (· = l)) hR W hg (fun p hp => by rw [List.mem_singleton.mp hp]; exact ⟨⟨hl, gl⟩, rfl⟩) rfl rfl rfl rfl rfl (by decide) (locs rfl) rfl rfl rfl fun L h₁ tk E' a hR' => ?_
  refine St.assign2X (R1 := FH (rowsD (.mk kd lb vl as ks))) (R2 := fun v mu' => ∃ o' d t, mu' = [(l, o')] ∧ isSrc o' ∧ v = .int d t ∧ 0 ≤ d ∧ d < 8) hR'.hd a (TrH.call W (hR'.le (by omega)) (gf_law_copied _) (gd_law_copied _) (law_copied_spec (N' + 1) _ hf) (antiH_FH _) (SpE.cons (Tr.name rfl (mono_da _) r1) SpE.nil)) (monoH_FH _)
    (fun g' le => TrX.weak (TrX.eff (l1 := []) (l2 := []) (W.mono le) (hR'.le (by decide)) (gf_law_take _) (gd_law_take _) (law_take_spec 8 (by decide) (by decide)) rfl (fun _ h => nomatch h) hs (SpR.cons (Tr.ref rfl) (SpE.cons Tr.const_int SpE.nil))) fun v mu' g' ⟨o', e, ho', d, t, hv, h0, h1⟩ => ⟨o', d, t, e, ho', hv, h0, h1⟩)
    fun v1 v2 mu2 g2 h2 tk2 a2 hg2 r2 ⟨o', d, t, em, ho', ev, hd0, hd1⟩ => ?_
  subst em ev
  obtain ⟨lls, fp, nd, fr⟩ := r2
  rw [rowsD_mk] at fp
  obtain ⟨lf, vs, n, ls, rfl, rfl, ef, fpA⟩ := fp.list_inv
  have fre : ∀ b ∈ lf :: ls, s.heap.get? b = none := fun b hb => a.heap_none (fr b hb)
  obtain ⟨nlf, nd'⟩ := List.nodup_cons.mp nd
  obtain ⟨g4, q4, a4⟩ := a2.thaw ef (hg.none (fre _ (.head _))) (fre _ (.head _))
  have hg4 : Le g g4 := le_hide hg2 q4 (hg.none (fre _ (.head _)))
  have fp4 := fpA.hide q4 ef (fun z => by injection z with z; exact absurd z (by decide)) nlf
  have hlf : ∀ (o : Obj), ∀ p ∈ ([(l, o)] : Mu), p.1 ≠ lf := fun o p hp z => by
    have z2 : l = lf := by rw [List.mem_singleton.mp hp] at z; exact z
    have hl' := hl
    rw [z2, fre _ (.head _)] at hl'; cases hl'
  have lfl : lf ≠ l := fun z => hlf o (l, o) (.head _) z.symm
  have hvl : vs.length = 5 := by have := fp4.rd.length; simpa using this
  have mf : (upd (upd (fun x => List.lookup x [(S "source", Value.ref l), (S "rows", v)].reverse) (S "way") (.int d t)) (S "found") (.ref lf)) (S "found") = some (.ref lf) := upd_self
  have mw : (upd (upd (fun x => List.lookup x [(S "source", Value.ref l), (S "rows", v)].reverse) (S "way") (.int d t)) (S "found") (.ref lf)) (S "way") = some (.int d t) := upd_ne rfl upd_self
  have ms : (upd (upd (fun x => List.lookup x [(S "source", Value.ref l), (S "rows", v)].reverse) (S "way") (.int d t)) (S "found") (.ref lf)) (S "source") = some (.ref l) := upd_ne rfl (upd_ne rfl rfl)
  have a4' := a4
  generalize hm : (upd (upd (fun x => List.lookup x [(S "source", Value.ref l), (S "rows", v)].reverse) (S "way") (.int d t)) (S "found") (.ref lf)) = m3 at mf mw ms
  replace a4 : At (· = l) g s.heap _ m3 ((lf, lstO vs n) :: [(l, o')]) g4 h2 := hm ▸ a4'
  clear a4'
  have hlen5 : ([.str kd, labD lb, .str vl, .list (as.map atrL), .list (ks.map rowsD)] : List PyData).length = 5 := rfl
  have test : ∀ (c : Int), Cp prog w (A.deeper _) .Eq (Da (.int d)) (Da (.int c)) (d == c) := fun c => by
    have := Cp.eq (prog := prog) (w := w) hR' (int_shaped d) (int_shaped c)
    rwa [eqv_int] at this
  -- way 1
  refine St.ite (b := d == 1) a4 (Ts.cmp (Tr.name mw (mono_da _) (.int _ _)) (mono_da _) Tr.const_int (test 1)) (fun hb g5 h5 tk5 a5 hg5 => ?_) fun hb g5 h5 tk5 a5 hg5 => ?_
  · have fp5 := fp4.mono hg5
    refine St.setitem (j := 1) (i := 1) (d := labD (some (S "g"))) a5 mf (hlf o') (by show Ev _ _ _ _ _ _ _ _ (Da (.tuple [.str (S "g"), .str (S ""), .str (S "g")])); tb_rel) Tr.const_int (by decide) (idx1 (by omega)) (by omega) fun v6 g6 h6 tk6 hg6 r6 a6 => St.nil ?_
    refine St.retlistX a6 mf ((fp5.mono hg6).rd.set (j := 1) r6) (hlf o') (fre _ (.head _)) fun g7 h7 tk7 a7 r7 => ?_
    exact k _ g7 h7 tk7 o' a7.done (a7.get (.head _)) ho' ⟨.mk kd (some (S "g")) vl as ks, ⟨_, _, _, _, _, _, _, _, rfl, rfl, .inr rfl, .inl rfl, .inl rfl⟩, by rw [rowsD_mk]; exact r7⟩
  -- way 2
  have fp5 := fp4.mono hg5
  have W5 := W.mono (hg4.trans hg5)
  refine St.ite (b := (d == 2) && ((!PyData.eqv (.list (as.map atrL)) (.list [])) && true)) a5 (Ts.and (Ts.cmp (Tr.name mw (mono_da _) (.int _ _)) (mono_da _) Tr.const_int (test 2)) fun _ => Ts.and (Ts.cmp (Tr.sub_mut (j := 3) (Tr.ref mf) (.head _) fp5.rd Tr.const_int (by decide) (by decide) rfl rfl) (mono_da _) (Tr.list SpE.nil) (Cp.ne hR' (attrs_shaped ok.attrs) nil_shaped)) fun _ => Ts.and_nil) (fun hb2 g6 h6 tk6 a6 hg6 => ?_) fun hb2 g6 h6 tk6 a6 hg6 => ?_
  · have fp6 := fp5.mono hg6
    have W6 := W5.mono hg6
    obtain ⟨at0, r', rfl⟩ : ∃ at0 r', as = at0 :: r' := by
      cases as with
      | nil => simp [PyData.eqv, PyData.eqvAll] at hb2
      | cons x rr => exact ⟨x, rr, rfl⟩
    refine wpAny_execs_cons (wpAny_Assign_Subscript ((TrX.eff (l1 := [(lf, lstO vs n)]) (l2 := []) W6 (hR'.le (by decide)) (gf_law_one _) (gd_law_one _) (law_one_spec [.list [.str (S "b"), .str (S "9")], .list [.str (S "p:b"), .str at0.value]] (Nat.le_of_ble_eq_true rfl) (Nat.le_of_ble_eq_true rfl)) rfl (fun p hp => by rw [List.mem_singleton.mp hp]; exact lfl) ho'
      (SpR.cons (Tr.ref ms) (SpE.cons (Tr.list (SpE.cons (Tr.list (SpE.cons Tr.const_str (SpE.cons Tr.const_str SpE.nil))) (SpE.cons (Tr.list (SpE.cons Tr.const_str (SpE.cons (Tr.sub_list (Tr.sub_list (Tr.sub_mut (j := 3) (Tr.ref mf) (.head _) fp6.rd Tr.const_int (by decide) (by decide) rfl rfl) Tr.const_int (by decide) (by decide) rfl) Tr.const_int (by decide) (by decide) rfl) SpE.nil))) SpE.nil))) SpE.nil))) _ _ _ a6 fun v7 mu7 g7 h7 tk7 a7 hg7 ⟨o7, em, ho7, dd, hdd, r7⟩ => ?_))
    subst em
    have fp7 := fp6.mono hg7
    obtain ⟨x0, x1, x2, la, lk, us1, n1, us2, n2, l3, l4, evs, els, rx0, rx1, rx2, ela, fA, elk, fK⟩ := fp7.five rfl (noL_lab _) rfl
    subst evs els
    obtain ⟨xr, us1', m1, m2, rfl, rfl, fr0, fA'⟩ := fA.cons_inv
    obtain ⟨r0, ru, nr, lr, rfl, rfl, er0, fru⟩ := fr0.list_inv
    obtain ⟨nm, vv, hdd', hnv⟩ : ∃ nm vv, dd = .list [.str nm, .str vv] ∧ (nm = S "b" ∧ vv = S "9" ∨ nm = S "p:b" ∧ vv = at0.value) := by
      simp only [List.mem_cons, List.not_mem_nil, or_false] at hdd
      rcases hdd with rfl | rfl
      · exact ⟨_, _, rfl, .inl ⟨rfl, rfl⟩⟩
      · exact ⟨_, _, rfl, .inr ⟨rfl, rfl⟩⟩
    subst hdd'
    obtain ⟨bb, ws, rfl, hbL, rws⟩ := r7.list_inv
    refine (Tr.sub_listV (x := .ref r0) (Tr.sub_mutV (x := .ref la) (Tr.ref mf) (.head _) Tr.const_int (by decide) (by decide) rfl) (isList_of ela) Tr.const_int (by decide) (by decide) rfl) _ g7 _ _ (Le.refl _) a7.sit fun ov g8 h8 tk8 G8 rov => ?_
    subst rov
    refine wpAny_Slice ((Pt.int Tr.const_int) _ g8 _ _ (Le.refl _) (a7.grow G8).sit fun v9 g9 h9 tk9 G9 r9 => wpAny_pure (wpAny_pure ?_))
    obtain ⟨t9, rfl⟩ : ∃ t9, v9 = .int 1 t9 := by cases r9; exact ⟨_, rfl⟩
    have G10 := Grow.push0 G9.gh { cls := .type "slice", data := .fields #[.int 1 t9, .none, .none] }
    have hG := G8.trans (G9.trans G10)
    have a10 := ((a7.grow G8).grow G9).grow G10
    have er10 := hG.gg _ _ er0
    have fr0' : s.heap.get? r0 = none := fre _ (.tail _ (.tail _ (.head _)))
    obtain ⟨g11, q11, mutK⟩ := a10.mutate er10 (hg.none fr0') fr0'
    have hru3 : ru.length = 3 := fru.rd.length
    have hws2 : ws.length = 2 := rws.length
    have hne : r0 ≠ bb := fun z => by
      obtain ⟨ob, eb, _, nb, db⟩ := hbL
      rw [← z, er0] at eb
      cases eb
      injection db with db _
      have := congrArg Array.size db
      simp [hru3, hws2] at this
    refine l_setslice (a10.le _ _ er10) (IsList.le (hG.gg.trans a10.le) hbL) hne (Heap.IsSliceOf.new ..) (by omega) (by omega) fun h12 n12 e12 s12 => ?_
    obtain ⟨g13, le13, e13, a13⟩ := mutK h12 _ _ s12 e12
    have hcr : (lstO ru nr).cls ≠ .type "tuple" := fun z => by injection z with z; exact absurd z (by decide)
    have nr0 : r0 ≠ la ∧ r0 ∉ m2 ∧ r0 ≠ lk ∧ r0 ∉ l4 := by
      simp only [List.cons_append, List.nodup_cons, List.mem_append, List.mem_cons, not_or, List.nodup_append] at nd'
      grind
    have mv : ∀ {v : Value} {d : PyData}, noL d = true → Rd g7 v d → Rd g13 v d := fun hn r => ((r.mono hG.gg).hide q11 er10 hcr hn).mono le13
    have mvA : ∀ {vs : List Value} {ds : List PyData} {ls : List Addr}, r0 ∉ ls → FpAll g7 vs ds ls → RdAll g13 vs ds := fun hn f => (((f.mono hG.gg).hide q11 er10 hcr hn).mono le13).rd
    have mvO : ∀ {b : Addr} {o : Obj}, r0 ≠ b → g7.get? b = some o → g13.get? b = some o := fun hn e => le13 _ _ (by rw [q11, if_neg (Ne.symm hn)]; exact hG.gg _ _ e)
    have rws13 : RdAll g13 ws [.str nm, .str vv] := ((rws.mono hG.gg).hide q11 er10 hcr rfl).mono le13
    obtain ⟨xk, ru', k1, k2, rfl, rfl, fk, _⟩ := fru.cons_inv
    have rk := mv (d := keyD at0) rfl (fk.flat_inv rfl).2
    have rrow : Rd g13 (.ref r0) (atrL ⟨at0.ks, at0.kn, nm, vv⟩) := by
      refine .list (vs := [xk] ++ ws) (isList_of e13) ?_
      exact .cons rk rws13
    have rA : Rd g13 (.ref la) (.list ((⟨at0.ks, at0.kn, nm, vv⟩ :: r').map atrL)) := .list (isList_of (mvO nr0.1 ela)) (.cons rrow (mvA nr0.2.1 fA'))
    have rK : Rd g13 (.ref lk) (.list (ks.map rowsD)) := .list (isList_of (mvO nr0.2.2.1 elk)) (mvA nr0.2.2.2 fK)
    have rall : RdAll g13 [x0, x1, x2, .ref la, .ref lk] [.str kd, labD lb, .str vl, .list ((⟨at0.ks, at0.kn, nm, vv⟩ :: r').map atrL), .list (ks.map rowsD)] :=
      .cons (mv rfl rx0) (.cons (mv (noL_lab _) rx1) (.cons (mv rfl rx2) (.cons rA (.cons rK .nil))))
    refine St.nil (St.nil ?_)
    refine St.retlistX a13 mf rall (hlf o7) (fre _ (.head _)) fun g14 h14 tk14 a14 r14 => ?_
    exact k _ g14 h14 tk14 o7 a14.done (a14.get (.head _)) ho7 ⟨.mk kd lb vl (⟨at0.ks, at0.kn, nm, vv⟩ :: r') ks, ⟨_, _, _, _, _, _, _, _, rfl, rfl, .inl rfl, .inr (.inr ⟨at0, r', nm, vv, rfl, rfl, hnv⟩), .inl rfl⟩, by rw [rowsD_mk]; exact r14⟩
  -- way 3
  have fp6 := fp5.mono hg6
  have W6 := W5.mono hg6
  refine St.ite (b := d == 3) a6 (Ts.cmp (Tr.name mw (mono_da _) (.int _ _)) (mono_da _) Tr.const_int (test 3)) (fun hb3 g7 h7 tk7 a7 hg7 => ?_) fun hb3 g7 h7 tk7 a7 hg7 => ?_
  · have fp7 := fp6.mono hg7
    refine St.setitem (j := 3) (i := 3) (d := .list ((as ++ [addZ]).map atrL)) a7 mf (hlf o') ?_ Tr.const_int (by decide) (idx3 hvl) (by omega) fun v8 g8 h8 tk8 hg8 r8 a8 => St.nil (St.nil (St.nil ?_))
    · rw [List.map_append]
      exact Tr.binop (Tr.sub_mut (j := 3) (Tr.ref mf) (.head _) fp7.rd Tr.const_int (by decide) (by decide) rfl rfl) (mono_da _) (Tr.list (SpE.cons (Tr.list (SpE.cons (by tb_rel) (SpE.cons Tr.const_str (SpE.cons Tr.const_str SpE.nil)))) SpE.nil)) (Bo.add_list (by rw [List.length_map]; show _ + 1 ≤ _; omega))
    · refine St.retlistX a8 mf ((fp7.mono hg8).rd.set (j := 3) r8) (hlf o') (fre _ (.head _)) fun g9 h9 tk9 a9 r9 => ?_
      exact k _ g9 h9 tk9 o' a9.done (a9.get (.head _)) ho' ⟨.mk kd lb vl (as ++ [addZ]) ks, ⟨_, _, _, _, _, _, _, _, rfl, rfl, .inl rfl, .inr (.inl rfl), .inl rfl⟩, by rw [rowsD_mk]; exact r9⟩
  -- way 4
  have fp7 := fp6.mono hg7
  have W7 := W6.mono hg7
  have ksh := rows_shaped (n := N') (by omega) ok.kids
  refine St.ite (b := (d == 4) && ((!PyData.eqv (.list (ks.map rowsD)) (.list [])) && true)) a7 (Ts.and (Ts.cmp (Tr.name mw (mono_da _) (.int _ _)) (mono_da _) Tr.const_int (test 4)) fun _ => Ts.and (Ts.cmp (Tr.sub_mut (j := 4) (Tr.ref mf) (.head _) fp7.rd Tr.const_int (by decide) (by decide) rfl rfl) (mono_da _) (Tr.list SpE.nil) (Cp.ne hR' ksh nil_shaped)) fun _ => Ts.and_nil) (fun hb4 g8 h8 tk8 a8 hg8 => ?_) fun hb4 g8 h8 tk8 a8 hg8 => ?_
  · have fp8 := fp7.mono hg8
    have W8 := W7.mono hg8
    have hk1 : 1 ≤ ks.length := by
      cases ks with
      | nil => simp [PyData.eqv, PyData.eqvAll] at hb4
      | cons x rr => simp
    refine wpAny_execs_cons (wpAny_Assign_Subscript (Tr.const_str (x := S "new") _ g8 _ _ (Le.refl _) a8.sit fun v9 g9 h9 tk9 G9 r9 => ?_))
    have fp9 := fp8.mono G9.gg
    have W9 := W8.mono G9.gg
    obtain ⟨x0, x1, x2, la, lk, us1, n1, us2, n2, l3, l4, evs, els, rx0, rx1, rx2, ela, fA, elk, fK⟩ := fp9.five rfl (noL_lab _) rfl
    subst evs els
    have hus2 : us2.length = ks.length := by have := fK.rd.length; simpa using this
    have rK9 : Rd g9 (.ref lk) (.list (ks.map rowsD)) := .list (isList_of elk) fK.rd
    refine Subscript_ ((Tr.sub_mutV (x := .ref lk) (Tr.ref mf) (.head _) Tr.const_int (by decide) (by decide) rfl) _ g9 _ _ (Le.refl _) (a8.grow G9).sit fun ov g10 h10 tk10 G10 rov => ?_)
    subst rov
    have a10 := (a8.grow G9).grow G10
    refine (TrX.eff (l1 := [(lf, _)]) (l2 := []) (W9.mono G10.gg) (hR'.le (by decide)) (gf_law_take _) (gd_law_take _) (law_take_spec (ks.length : Int) (by omega) (by omega)) rfl (fun p hp => by rw [List.mem_singleton.mp hp]; exact lfl) ho' (SpR.cons (Tr.ref ms) (SpE.cons ?_ SpE.nil))) _ _ _ a10 fun v11 mu11 g11 h11 tk11 a11 hg11 ⟨o11, em, ho11, dj, tj, hv11, hj0, hj1⟩ => ?_
    · have : ((ks.map rowsD).length : Int) = (ks.length : Int) := by rw [List.length_map]
      rw [← this]
      exact Tr.bcall (W9.mono G10.gg) (gb_len _) bb_len (Bc.len_list (by rw [List.length_map]; omega)) (SpE.cons (Tr.sub_mut (j := 4) (Tr.ref mf) (.head _) (fp9.mono G10.gg).rd Tr.const_int (by decide) (by decide) rfl rfl) SpE.nil)
    subst em hv11
    have hgg := G10.gg.trans hg11
    obtain ⟨kid, hkid⟩ : ∃ kid, ks[dj.toNat]? = some kid := ⟨ks[dj.toNat]'(by omega), by simp⟩
    obtain ⟨kk, kl, kv, ka, kc⟩ := kid
    obtain ⟨vk, l5, l6, l7, hvk, els, fkid, fpre, fpost⟩ := fK.pick (j := dj.toNat) (d := rowsD (.mk kk kl kv ka kc)) (by simp [hkid])
    rw [rowsD_mk] at fkid
    obtain ⟨r0, ru, nr, lr, rfl, rfl, er0, fru⟩ := fkid.list_inv
    have hLk := IsList.le (hgg.trans a11.le) (isList_of elk)
    refine tail_any hLk.typeIs slot_list_getitem.lookup (wpAny_getItem_list hLk hj0 (by omega) (x := .ref r0) (by simpa using hvk) ?_) (by with_unfolding_all rfl)
    refine Tr.const_int _ g11 _ _ (Le.refl _) a11.sit fun vi g12 h12 tk12 G12 ri => ?_
    obtain ⟨ti, rfl⟩ := ri.int_inv
    have a12 := a11.grow G12
    have hG := hgg.trans G12.gg
    have er12 := hG _ _ er0
    subst els
    have fr0' : s.heap.get? r0 = none := fre _ (.tail _ (List.mem_append.mpr (.inr (.tail _ (List.mem_append.mpr (.inl (List.mem_append.mpr (.inr (.head _)))))))))
    obtain ⟨g13, q13, mutK⟩ := a12.mutate er12 (hg.none fr0') fr0'
    have hru : ru.length = 5 := fru.rd.length
    refine l_set (j := 2) (a12.le _ _ er12) (by decide) (idx2 hru) (by omega) fun h14 e14 s14 => ?_
    obtain ⟨g15, le15, e15, a15⟩ := mutK h14 _ _ s14 e14
    have hcr : (lstO ru nr).cls ≠ .type "tuple" := fun z => by injection z with z; exact absurd z (by decide)
    have nr0 : r0 ≠ la ∧ r0 ∉ l3 ∧ r0 ≠ lk ∧ r0 ∉ l5 ∧ r0 ∉ l7 ∧ r0 ∉ lr := by
      simp only [List.cons_append, List.nodup_cons, List.mem_append, List.mem_cons, not_or, List.nodup_append] at nd'
      grind
    have mv : ∀ {v : Value} {d : PyData}, noL d = true → Rd g9 v d → Rd g15 v d := fun hn r => ((r.mono hG).hide q13 er12 hcr hn).mono le15
    have mvA : ∀ {vs : List Value} {ds : List PyData} {ls : List Addr}, r0 ∉ ls → FpAll g9 vs ds ls → RdAll g15 vs ds := fun hn f => (((f.mono hG).hide q13 er12 hcr hn).mono le15).rd
    have mvO : ∀ {b : Addr} {o : Obj}, r0 ≠ b → g9.get? b = some o → g15.get? b = some o := fun hn e => le15 _ _ (by rw [q13, if_neg (Ne.symm hn)]; exact hG _ _ e)
    have rnew : Rd g15 v9 (.str (S "new")) := mv rfl r9
    have rkid : Rd g15 (.ref r0) (rowsD (.mk kk kl (S "new") ka kc)) := by
      rw [rowsD_mk]
      exact .list (isList_of e15) ((mvA nr0.2.2.2.2.2 fru).set (j := 2) rnew)
    have hset : us2 = us2.take dj.toNat ++ [.ref r0] ++ us2.drop (dj.toNat + 1) := by
      have h1 : dj.toNat < us2.length := by omega
      have h2 : us2[dj.toNat] = .ref r0 := by have := List.getElem?_eq_getElem h1; rw [hvk] at this; exact (Option.some.inj this).symm
      rw [← h2, List.append_assoc]
      simp
    have rKs : RdAll g15 us2 ((ks.set dj.toNat (.mk kk kl (S "new") ka kc)).map rowsD) := by
      rw [mem_set_map, List.set_eq_take_append_cons_drop, if_pos (by rw [List.length_map]; omega), hset]
      have := ((mvA nr0.2.2.2.1 fpre).append (.cons rkid .nil)).append (mvA nr0.2.2.2.2.1 fpost)
      simpa using this
    have rA : Rd g15 (.ref la) (.list (as.map atrL)) := .list (isList_of (mvO nr0.1 ela)) (mvA nr0.2.1 fA)
    have rK : Rd g15 (.ref lk) (.list ((ks.set dj.toNat (.mk kk kl (S "new") ka kc)).map rowsD)) := .list (isList_of (mvO nr0.2.2.1 elk)) rKs
    have rall : RdAll g15 [x0, x1, x2, .ref la, .ref lk] [.str kd, labD lb, .str vl, .list (as.map atrL), .list ((ks.set dj.toNat (.mk kk kl (S "new") ka kc)).map rowsD)] :=
      .cons (mv rfl rx0) (.cons (mv (noL_lab _) rx1) (.cons (mv rfl rx2) (.cons rA (.cons rK .nil))))
    refine St.nil (St.nil (St.nil (St.nil ?_)))
    refine St.retlistX a15 mf rall (hlf o11) (fre _ (.head _)) fun g16 h16 tk16 a16 r16 => ?_
    exact k _ g16 h16 tk16 o11 a16.done (a16.get (.head _)) ho11 ⟨.mk kd lb vl as (ks.set dj.toNat (.mk kk kl (S "new") ka kc)), ⟨_, _, _, _, _, _, _, _, rfl, rfl, .inl rfl, .inl rfl, .inr (.inr (.inr (.inr ⟨_, kk, kl, kv, ka, kc, hkid, rfl⟩)))⟩, by rw [rowsD_mk]; exact r16⟩
  -- way 5
  have fp8 := fp7.mono hg8
  have W8 := W7.mono hg8
  refine St.ite (b := (d == 5) && ((!PyData.eqv (.list (ks.map rowsD)) (.list [])) && true)) a8 (Ts.and (Ts.cmp (Tr.name mw (mono_da _) (.int _ _)) (mono_da _) Tr.const_int (test 5)) fun _ => Ts.and (Ts.cmp (Tr.sub_mut (j := 4) (Tr.ref mf) (.head _) fp8.rd Tr.const_int (by decide) (by decide) rfl rfl) (mono_da _) (Tr.list SpE.nil) (Cp.ne hR' ksh nil_shaped)) fun _ => Ts.and_nil) (fun hb5 g9 h9 tk9 a9 hg9 => ?_) fun hb5 g9 h9 tk9 a9 hg9 => ?_
  · have fp9 := fp8.mono hg9
    refine St.setitem (j := 4) (i := 4) (d := .list ((ks.drop 1).map rowsD)) a9 mf (hlf o') ?_ Tr.const_int (by decide) (idx4 hvl) (by omega) fun v10 g10 h10 tk10 hg10 r10 a10 => St.nil (St.nil (St.nil (St.nil (St.nil ?_))))
    · rw [List.map_drop]
      exact Tr.slice_fromT (j := 1) (Tr.sub_mut (j := 4) (Tr.ref mf) (.head _) fp9.rd Tr.const_int (by decide) (by decide) rfl rfl) Tr.const_int (by rw [List.length_map]; omega)
    · refine St.retlistX a10 mf ((fp9.mono hg10).rd.set (j := 4) r10) (hlf o') (fre _ (.head _)) fun g11 h11 tk11 a11 r11 => ?_
      exact k _ g11 h11 tk11 o' a11.done (a11.get (.head _)) ho' ⟨.mk kd lb vl as (ks.drop 1), ⟨_, _, _, _, _, _, _, _, rfl, rfl, .inl rfl, .inl rfl, .inr (.inl rfl)⟩, by rw [rowsD_mk]; exact r11⟩
  -- way 6
  have fp9 := fp8.mono hg9
  have W9 := W8.mono hg9
  refine St.ite (b := d == 6) a9 (Ts.cmp (Tr.name mw (mono_da _) (.int _ _)) (mono_da _) Tr.const_int (test 6)) (fun hb6 g10 h10 tk10 a10 hg10 => ?_) fun hb6 g10 h10 tk10 a10 hg10 => ?_
  · have fp10 := fp9.mono hg10
    have W10 := W9.mono hg10
    refine St.setitem' (X := (· = l)) (g₀ := g) (e₀ := s.heap) (m := m3) mf ?_
    refine wpAny_BinOp ((Tr.sub_mut (j := 4) (Tr.ref mf) (.head _) fp10.rd Tr.const_int (by decide) (by decide) rfl rfl) _ g10 _ _ (Le.refl _) a10.sit fun v11 g11 h11 tk11 G11 r11 => ?_)
    refine (TrD.list (PP := fun ds mu' => ∃ p o12, ds = [rowsD p] ∧ okPlain p ∧ mu' = [(lf, lstO vs n), (l, o12)] ∧ isSrc o12) (SpX.consE (P := fun d mu' => ∃ p o3, d = rowsD p ∧ okPlain p ∧ mu' = [(lf, lstO vs n), (l, o3)] ∧ isSrc o3) ?_ fun x1 x2 x7 ⟨p, o8, e1, hp, e2, ho8⟩ le5 => SpX.nil ⟨p, o8, by rw [e1], hp, e2, ho8⟩) (fun ds mu' ⟨p, o8, e, _⟩ => by rw [e]; exact Nat.le_of_ble_eq_true rfl)) _ _ _ (a10.grow G11) fun v12 mu12 g12 h12 tk12 a12 hg12 ⟨d12, ⟨ds12, ed12, p12, o12, eds12, hp12, em12, ho12⟩, r12⟩ => ?_
    · exact TrX.weak (TrX.eff (l1 := [(lf, lstO vs n)]) (l2 := []) (W10.mono G11.gg) (hR'.le (by decide)) (gf_law_plain _) (gd_law_plain _) law_plain_spec rfl (fun p hp => by rw [List.mem_singleton.mp hp]; exact lfl) ho' (SpR.cons (Tr.ref ms) SpE.nil)) fun v mu' g' ⟨o3, e, ho3, f, hf, rf⟩ => ⟨rowsD f, ⟨f, o3, rfl, hf, e, ho3⟩, rf⟩
    · subst ed12 eds12 em12
      refine Bo.add_list (ds := ks.map rowsD) (es := [rowsD p12]) (by rw [List.length_map]; show _ + 1 ≤ _; omega) _ g12 _ _ _ _ a12.le (r11.mono hg12) r12 fun v13 g13 h13 tk13 G13 r13 => ?_
      have a13 := a12.grow G13
      refine ⟨g13, h13, tk13, [(l, o12)], vs, n, 4, 4, rfl, a13, hlf o12, Tr.const_int, by decide, idx4 hvl, by omega, fun g14 h14 tk14 hg14 a14 => St.nil (St.nil (St.nil (St.nil (St.nil (St.nil ?_)))))⟩
      have r14 : Rd g14 v13 (.list ((ks ++ [p12]).map rowsD)) := by rw [List.map_append]; exact r13.mono hg14
      refine St.retlistX a14 mf ((fp10.mono (G11.gg.trans (hg12.trans (G13.gg.trans hg14)))).rd.set (j := 4) r14) (hlf o12) (fre _ (.head _)) fun g15 h15 tk15 a15 r15 => ?_
      exact k _ g15 h15 tk15 o12 a15.done (a15.get (.head _)) ho12 ⟨.mk kd lb vl as (ks ++ [p12]), ⟨_, _, _, _, _, _, _, _, rfl, rfl, .inl rfl, .inl rfl, .inr (.inr (.inl ⟨p12, hp12, rfl⟩))⟩, by rw [rowsD_mk]; exact r15⟩
  -- way 7
  have fp10 := fp9.mono hg10
  refine St.ite (b := d == 7) a10 (Ts.cmp (Tr.name mw (mono_da _) (.int _ _)) (mono_da _) Tr.const_int (test 7)) (fun hb7 g11 h11 tk11 a11 hg11 => ?_) fun hb7 g11 h11 tk11 a11 hg11 => ?_
  · have fp11 := fp10.mono hg11
    refine St.setitem (j := 4) (i := 4) (d := .list (ks.reverse.map rowsD)) a11 mf (hlf o') ?_ Tr.const_int (by decide) (idx4 hvl) (by omega) fun v12 g12 h12 tk12 hg12 r12 a12 => St.nil (St.nil (St.nil (St.nil (St.nil (St.nil (St.nil ?_))))))
    · rw [List.map_reverse]
      exact Tr.slice_revT (Tr.sub_mut (j := 4) (Tr.ref mf) (.head _) fp11.rd Tr.const_int (by decide) (by decide) rfl rfl) (Tr.neg Tr.const_int) (by rw [List.length_map]; omega)
    · refine St.retlistX a12 mf ((fp11.mono hg12).rd.set (j := 4) r12) (hlf o') (fre _ (.head _)) fun g13 h13 tk13 a13 r13 => ?_
      exact k _ g13 h13 tk13 o' a13.done (a13.get (.head _)) ho' ⟨.mk kd lb vl as ks.reverse, ⟨_, _, _, _, _, _, _, _, rfl, rfl, .inl rfl, .inl rfl, .inr (.inr (.inr (.inl rfl)))⟩, by rw [rowsD_mk]; exact r13⟩
  · refine St.nil (St.nil (St.nil (St.nil (St.nil (St.nil (St.nil ?_))))))
    refine St.retlistX a11 mf (fp10.mono hg11).rd (hlf o') (fre _ (.head _)) fun g13 h13 tk13 a13 r13 => ?_
    exact k _ g13 h13 tk13 o' a13.done (a13.get (.head _)) ho' ⟨.mk kd lb vl as ks, ⟨_, _, _, _, _, _, _, _, rfl, rfl, .inl rfl, .inl rfl, .inl rfl⟩, by rw [rowsD_mk]; exact r13⟩
end

end
section
open PySem PySem.W PySem.Spec PySem.Calls PyProof.Rows

theorem list_keys_miss : typeLookup (.type "list") "keys" = pure none := by rw [typeLookup_type, builtinLookup_eq_fast]; kernel_rfl
section
variable {prog : Program} {w : World} {A : Around} {E : Value → Shared → Prop} {s : Shared}
theorem keys_none {a : Addr} {xs : Array Value} {Q : Option Value → Shared → Prop} (hx : s.heap.IsList a xs) (hdict : ∃ k, s.heap.get? a = some { cls := .type "list", dict := none, data := .seq xs k, slots := #[] }) (hA : A.handled = none)
    (h : ∀ h' tk, Le s.heap h' → Q none { s with heap := h', toks := tk }) : wpAny (model prog w) A (getAttr? (.ref a) "keys") Q E s := by
  obtain ⟨k, hx⟩ := hdict
  obtain ⟨hp, g, d, tk, os⟩ := s
  have hT : ∀ tk', (⟨hp, g, d, tk', os⟩ : Shared).TypeIs (.ref a) "list" := fun _ => ⟨_, hx, rfl⟩
  have f1 := sub_AttributeError
  have f3 := PySem.F.slot_list_getattribute.lookup
  have f4 := PySem.F.slot_list_getattribute.bind (.ref a)
  have f5 := am_list_getattr_none
  have hsz : (("keys" : Str)).length + 100 ≤ sizeLine := by
    have h1 := sizeLine_eq
    have h2 : (("keys" : Str)).length = 4 := by decide +kernel
    omega
  have hname : (["__module__", "__name__", "__qualname__", "__doc__", "__annotations__"] : List Str).contains "keys" = false := by decide +kernel
  unfold getAttr? getAttrBy? getAttrBy
  repeat (any_goals (first | assumption | exact hT _ | ((with_reducible show wpAny _ _ (call (Value.builtin "list.__getattribute__") _ _) _ _ _); refine call_meets PySem.F.slot_list_getattribute (hT _) am_entry_list_getattribute (PySem.F.args_list_getattribute_2 _ _) (meets_getattribute_miss_list a xs k #[] "keys" _ list_keys_miss hname hsz) ⟨hx, hA, fun h' tk' e hx' => ?_⟩) | wp_step))
  obtain ⟨t', u', he⟩ := hx'.there
  show wpAny _ _ (getattributeRaised _ _ _ _ _ _ _) _ _ _
  unfold getattributeRaised
  repeat (any_goals (first | assumption | wp_step))
  exact h _ _ hx'.keeps
end

end
section
open PySem PySem.W PySem.Spec PySem.Calls PyProof.Rows

abbrev KND (prog : Program) (w : World) : HeapKind prog w (List Str) := tupleKind (PySem.strKind prog w)
def keyL (a : Atr) : List Str := [a.ks, a.kn]
def pairT (a : Atr) : PyData := .tuple [.str a.name, .str a.value]
def entT (a : Atr) : PyData := .tuple [keyD a, pairT a]
theorem plain_dloop : plainId "dict.update.loop" = true := by decide +kernel
theorem entry_dloop : entryFor table "dict.update.loop" = some Builtin.«dict.update.loop» := entryFor_of_fast (by kernel_rfl)
abbrev Ent := List Str × Addr × Value
inductive XA (g : Heap) : List Ent → List Atr → Prop
  | nil : XA g [] []
  | cons {a : Atr} {ka : Addr} {v : Value} {xs : List Ent} {as : List Atr} : Rd g (.ref ka) (keyD a) → Rd g v (pairT a) → XA g xs as → XA g ((keyL a, ka, v) :: xs) (a :: as)
theorem XA.mono {g g' : Heap} (x : Le g g') {xs : List Ent} {as : List Atr} (h : XA g xs as) : XA g' xs as := by
  induction h with
  | nil => exact .nil
  | cons a b _ ih => exact .cons (a.mono x) (b.mono x) ih
theorem XA.snoc {g : Heap} {xs : List Ent} {as : List Atr} (h : XA g xs as) {a : Atr} {ka : Addr} {v : Value} (h1 : Rd g (.ref ka) (keyD a)) (h2 : Rd g v (pairT a)) : XA g (xs ++ [(keyL a, ka, v)]) (as ++ [a]) := by
  induction h with
  | nil => exact .cons h1 h2 .nil
  | cons a b _ ih => exact .cons a b ih
theorem XA.keys {g : Heap} {xs : List Ent} {as : List Atr} (h : XA g xs as) : xs.map (·.1) = as.map keyL := by
  induction h with
  | nil => rfl
  | cons _ _ _ ih => simp [ih]
theorem key_is {prog : Program} {w : World} {g h : Heap} (x : Le g h) {ka : Addr} {a : Atr} (r : Rd g (.ref ka) (keyD a)) : (KND prog w).is h (keyL a) ka := by
  obtain ⟨b, vs, e, t, ra⟩ := r.tuple_inv
  injection e with e; subst e
  obtain ⟨v, u, rfl, r1, r2⟩ := ra.two
  obtain ⟨t1, rfl⟩ := r1.str_inv
  obtain ⟨t2, rfl⟩ := r2.str_inv
  obtain ⟨o, ho, hc, n, hd⟩ := IsTup.le x t
  exact ⟨o, _, n, ho, hc, hd, .cons (by simp [PySem.strKind, Value.isStrOf]) (.cons (by simp [PySem.strKind, Value.isStrOf]) .nil)⟩

section
variable {prog : Program} {w : World} {A : Around} {R : Result → Shared → Prop} {s : Shared}
set_option maxHeartbeats 1000000 in
theorem dict_loop (hh : A.handled = none) (hu : A.units + 1 < cLine) {l it d : Addr} {us : List Value} {as : List Atr} {g₀ : Heap} (hL : g₀.IsList l us.toArray) (ru : RdAll g₀ us (as.map entT)) (nd : (as.map keyL).Nodup) (hlen : as.length ≤ 1000) (hne : it ≠ d) (res : Value) :
    ∀ (k i : Nat) (h' : Heap) (tk : Tok) (xs : List Ent), as.length - i = k → i ≤ as.length → Le g₀ h' → g₀.get? it = none → g₀.get? d = none → h'.IsListIter it l i → h'.DictOfH (KND prog w) d xs → XA g₀ xs (as.take i) →
    (∀ hf tk' xs', Le g₀ hf → (∀ b o, b ≠ it → b ≠ d → h'.get? b = some o → hf.get? b = some o) → hf.DictOfH (KND prog w) d xs' → XA g₀ xs' as → R (.ok (.ret res)) { s with heap := hf, toks := tk' }) →
    codeAny (model prog w) A (.builtin "dict.update.loop" ⟨[.ref d, .ref it, rawInt (i : Int), res], []⟩) R { s with heap := h', toks := tk } := by
  have hz := sizeLine_eq
  have lu : us.length = as.length := by have := ru.length; simpa using this
  intro k
  induction k with
  | zero =>
    intro i h' tk xs hk hi hg nit nd' hit hd hx hR
    have hin : i = as.length := by omega
    subst hin
    refine codeAny_builtin entry_dloop ?_
    rw [Around.under_plainId plain_dloop _]
    show wpAny _ A.in1 (pyNext (.ref it) >>= _) _ _ _
    refine wpAny_bind (wpAny_pyNext_list_end hh hit (IsList.le hg hL) (by simp [lu]) fun hf he => ?_)
    show wpAny _ A.in1 (Builtin.Dict.addKeywords d [] >>= _) _ _ _
    refine wpAny_bind (wpAny_pure (wpAny_pure ?_))
    rw [List.take_length] at hx
    have kd : ∀ b o, b ≠ it → h'.get? b = some o → hf.get? b = some o := he
    refine hR hf tk xs (fun b o e => kd b o (fun z => by subst z; rw [nit] at e; cases e) (hg b o e)) (fun b o z _ e => kd b o z e) ?_ hx
    obtain ⟨o, es, ep, e1, e2, e3, e4, e5, e6⟩ := hd
    refine ⟨o, es, ep, kd d o (Ne.symm hne) e1, e2, e3, e4, fun x hx' => ?_, e6⟩
    obtain ⟨o2, items, n, f1, f2, f3, f4⟩ := e5 x hx'
    refine ⟨o2, items, n, kd _ _ (fun z => ?_) f1, f2, f3, f4⟩
    obtain ⟨oi, q1, q2, _⟩ := hit
    rw [z, q1] at f1; cases f1
    rw [q2] at f2; injection f2 with f2; exact absurd f2 (by decide)
  | succ k ih =>
    intro i h' tk xs hk hi hg nit nd' hit hd hx hR
    have hlt : i < as.length := by omega
    obtain ⟨a, ha⟩ : ∃ a, as[i]? = some a := ⟨as[i], by simp [hlt]⟩
    obtain ⟨x, hxi, rx⟩ := ru.get (k := i) (d := entT a) (by simp [ha])
    obtain ⟨t, ps, rfl, ht, rp⟩ := rx.tuple_inv
    obtain ⟨kv, vv, rfl, rk, rv⟩ := rp.two
    obtain ⟨ka, _, rfl, _, _⟩ := rk.tuple_inv
    refine codeAny_builtin entry_dloop ?_
    rw [Around.under_plainId plain_dloop _]
    show wpAny _ A.in1 (pyNext (.ref it) >>= _) _ _ _
    refine wpAny_bind (wpAny_pyNext_list_item hit (IsList.le hg hL) (x := .ref t) (by simpa using hxi) fun h2 hit2 hs2 => ?_)
    have hg2 : Le g₀ h2 := fun b o e => hs2.extBut b o (fun z => by subst z; rw [nit] at e; cases e) (hg b o e)
    have hd2 : h2.DictOfH (KND prog w) d xs := by
      obtain ⟨o, es, ep, e1, e2, e3, e4, e5, e6⟩ := hd
      refine ⟨o, es, ep, hs2.extBut d o (Ne.symm hne) e1, e2, e3, e4, fun x hx' => ?_, e6⟩
      obtain ⟨o2, items, n, f1, f2, f3, f4⟩ := e5 x hx'
      refine ⟨o2, items, n, hs2.extBut _ _ (fun z => ?_) f1, f2, f3, f4⟩
      obtain ⟨oi, q1, q2, _⟩ := hit
      rw [z, q1] at f1; cases f1
      rw [q2] at f2; injection f2 with f2; exact absurd f2 (by decide)
    obtain ⟨ot, hot, hct, nt, hdt⟩ := IsTup.le hg2 ht
    refine wpAny_bind (wpAny_holding ?_)
    refine wpAny_bind ?_
    refine wpAny_tryCatch ?_
    unfold Builtin.Dict.pairItems
    refine wpAny_bind (wpAny_typeOf ⟨ot, hot, hct⟩ ?_)
    rw [if_pos (by decide)]
    refine wpAny_bind (wpAny_seqItems hot hdt (wpAny_pure ?_))
    show wpAny _ A.in1 (holding [Value.ref ka, vv] (dictSet d (.ref ka) vv)) _ _ _
    have hxl : xs.length = i := by
      have := congrArg List.length hx.keys
      simp only [List.length_map, List.length_take] at this
      omega
    have hnew : atKey xs (keyL a) = none := by
      refine atKey_none_of_get fun j p e => ?_
      have h1 : keyL a ∈ xs.map (·.1) := List.mem_map.mpr ⟨_, List.mem_of_getElem? e, rfl⟩
      rw [hx.keys] at h1
      obtain ⟨j, hj, e2⟩ := List.getElem_of_mem h1
      simp only [List.length_map, List.length_take] at hj
      rw [List.getElem_map, List.getElem_take] at e2
      have e3 : as[i] = a := by have := List.getElem?_eq_getElem hlt; rw [ha] at this; exact (Option.some.inj this).symm
      rw [← e3] at e2
      have hji : j < i := by omega
      have := (List.pairwise_iff_getElem.mp nd) j i (by rw [List.length_map]; omega) (by rw [List.length_map]; exact hlt) hji
      rw [List.getElem_map, List.getElem_map] at this
      exact this e2
    refine wpAny_holding (wpAny_dictSet_heap (knd := KND prog w) (k := keyL a) (tupleKind_room_in1 hu) (key_is hg2 rk) hd2 (fun h3 hd3 hs3 => ?_) (by omega))
    have hg3 : Le g₀ h3 := fun b o e => hs3.extBut b o (fun z => by subst z; rw [nd'] at e; cases e) (hg2 b o e)
    refine wpAny_pure ⟨plainId_quiet plain_dloop _, ?_⟩
    rw [storedH_new hnew] at hd3
    have e1 : ((i : Int) + 1) = ((i + 1 : Nat) : Int) := by omega
    rw [e1]
    refine ih (i + 1) h3 _ (xs ++ [(keyL a, ka, vv)]) (by omega) hlt hg3 nit nd' (hit2.extBut hs3.extBut hne) hd3 (by rw [take_succ_get ha]; exact hx.snoc rk rv) fun hf tk' xs' l1 l2 l3 l4 => hR hf tk' xs' l1 (fun b o n1 n2 e => l2 b o n1 n2 (hs3.extBut b o n2 (hs2.extBut b o n1 e))) l3 l4
end

end
section
open PySem PySem.W PySem.Spec PySem.Calls PyProof.Rows

def DP (prog : Program) (w : World) (as : List Atr) : Pd := fun g v => ∃ d xs, v = .ref d ∧ (d == sysModules) = false ∧ g.DictOfH (KND prog w) d xs ∧ XA g xs as
theorem dictOfH_mono {prog : Program} {w : World} {g g' : Heap} (x : Le g g') {d : Addr} {xs : List Ent} (h : g.DictOfH (KND prog w) d xs) : g'.DictOfH (KND prog w) d xs := by
  obtain ⟨o, es, ep, e1, e2, e3, e4, e5, e6⟩ := h
  refine ⟨o, es, ep, x _ _ e1, e2, e3, e4, fun y hy => ?_, e6⟩
  obtain ⟨o2, items, n, f1, f2, f3, f4⟩ := e5 y hy
  exact ⟨o2, items, n, x _ _ f1, f2, f3, f4⟩
theorem mono_DP (prog : Program) (w : World) (as : List Atr) : Mono (DP prog w as) := fun _ _ _ x ⟨d, xs, e, h1, h2, h3⟩ => ⟨d, xs, e, h1, dictOfH_mono x h2, h3.mono x⟩

section
variable {prog : Program} {w : World} {A : Around} {env : Env} {m : Str → Option Value} {mu : Mu} {g : Heap} {mg mb : Str → Option Value}
theorem call_dict {s : Shared} {as : List Atr} {l : Addr} {us : List Value} {n : Nat} {Q : Value → Shared → Prop} {E : Value → Shared → Prop} (hh : A.handled = none) (hu : A.units + 2 < cLine) (W : Wd w mg mb g) (hg : Le g s.heap) (el : g.get? l = some (lstO us n)) (ru : RdAll g us (as.map entT)) (nd : (as.map keyL).Nodup) (hlen : as.length ≤ 1000)
    (k : ∀ v g' h' tk, Grow g s.heap g' h' → DP prog w as g' v → Q v { s with heap := h', toks := tk }) : wpAny (model prog w) A (call (.type "dict") [.ref l]) Q E s := by
  have hbig : 3 < s.heap.objs.size := by obtain ⟨o, _, _, e, _⟩ := W.g; exact Heap.lt_size (hg _ _ e)
  refine callType_codes (Q₁ := fun obj s₁ => obj = .ref s.heap.objs.size ∧ s₁ = { s with heap := s.heap.push { cls := .type "dict", data := .dict #[] } }) PySem.F.kt_called_dict (PySem.F.kt_typeCall_dict_1 _) PySem.F.entry_dict_init (kt_code_dict_new _ ⟨rfl, rfl⟩) ?_
  rintro obj s₁ ⟨rfl, rfl⟩
  have hnew : (s.heap.push { cls := .type "dict", data := .dict #[] }).DictOfH (KND prog w) s.heap.objs.size [] := Heap.DictOfH.new s.heap
  have hlp : (s.heap.push { cls := .type "dict", data := .dict #[] }).get? l = some (lstO us n) := Heap.get?_push_of_some _ (hg _ _ el)
  refine ⟨hnew.typeIs, PySem.F.args_dict_init_2 _ _, ?_⟩
  unfold Builtin.«dict.__init__»
  refine wpAny_bind ?_
  unfold Builtin.Dict.selfAndRest
  refine wpAny_bind (wpAny_notOrdered_dict hnew.typeIs ?_)
  show wpAny _ _ (pure (s.heap.objs.size, [Value.ref l])) _ _ _
  refine wpAny_pure ?_
  show wpAny _ _ (Builtin.Dict.updateFrom "dict.__init__" s.heap.objs.size (.ref l) [] .none) _ _ _
  unfold Builtin.Dict.updateFrom
  refine wpAny_bind (wpAny_typeOf (T := "list") ⟨_, hlp, rfl⟩ ?_)
  rw [if_pos (by decide)]
  refine wpAny_bind (keys_none (xs := us.toArray) ⟨_, hlp, rfl, n, rfl⟩ ⟨n, hlp⟩ hh fun h2 tk2 le2 => ?_)
  simp only [Option.isNone_none, if_true]
  refine wpAny_bind (wpAny_rule ?_)
  have hl2 : h2.IsList l us.toArray := isList_of (le2 _ _ hlp)
  refine wpAny_bind (wpAny_pyIter_list hl2 ?_)
  have s0 : s.heap.objs.size < h2.objs.size := by
    obtain ⟨o, es, ep, e1, _⟩ := hnew
    exact Heap.lt_size (le2 _ _ e1)
  have old : Le s.heap (h2.push { cls := .type "list_iterator", data := .fields #[.ref l, .int 0 0] }) := fun b o e => Heap.get?_push_of_some _ (le2 _ _ (Heap.get?_push_of_some _ e))
  have gN : ∀ b, s.heap.objs.size ≤ b → g.get? b = none := fun b hb => hg.none (Heap.get?_none_of_le hb)
  refine wpAny_pure ⟨plainId_quiet plain_dloop _, dict_loop (A := A.in1) (s := s) (R := wants (fun r s₂ => r = Value.none ∧ Q (.ref s.heap.objs.size) s₂) E) hh hu (isList_of el) ru nd hlen (Nat.ne_of_gt s0) .none as.length 0 _ _ [] (Nat.sub_zero _) (Nat.zero_le _) (hg.trans old) (gN _ (Nat.le_of_lt s0)) (gN _ (Nat.le_refl _)) ⟨_, Heap.get?_push_size _ rfl, rfl, rfl⟩ (dictOfH_mono (le2.trans (Le.push _ _)) hnew) .nil fun hf tk' xs' l1 l2 l3 l4 => ⟨rfl, ?_⟩⟩
  obtain ⟨o, es, ep, e1, e2, e3, e4, e5, e6⟩ := l3
  obtain ⟨gf, q⟩ := ghost_ex l1 e1
  have gg : Le g gf := fun b x z => by rw [q]; by_cases hb : b = s.heap.objs.size
                                       · subst hb; rw [gN _ (Nat.le_refl _)] at z; cases z
                                       · rw [if_neg hb]; exact z
  have ne : ∀ b o, s.heap.get? b = some o → b ≠ s.heap.objs.size := fun b o e => Nat.ne_of_lt (Heap.lt_size e)
  have l4' := l4.mono gg
  have keyIn : ∀ y ∈ xs', (KND prog w).is gf y.1 y.2.1 := by
    intro y hy
    have : ∀ {xs : List Ent} {as : List Atr}, XA gf xs as → ∀ y ∈ xs, (KND prog w).is gf y.1 y.2.1 := by
      intro xs as h
      induction h with
      | nil => intro y hy; cases hy
      | cons a b _ ih =>
        intro y hy
        rcases List.mem_cons.mp hy with rfl | hy
        · exact key_is (Le.refl _) a
        · exact ih y hy
    exact this l4' y hy
  refine k _ gf hf tk' ⟨gg, fun b x z => ?_, fun b x z => ?_, fun b x z y => ?_⟩ ⟨_, xs', rfl, ?_, ⟨o, es, ep, by rw [q, if_pos rfl], e2, e3, e4, keyIn, e6⟩, l4'⟩
  · rw [q] at z; by_cases hb : b = s.heap.objs.size
    · subst hb; rw [if_pos rfl] at z; cases z; exact e1
    · rw [if_neg hb] at z; exact l1 b x z
  · exact l2 b x (Nat.ne_of_lt (Nat.lt_trans (Heap.lt_size z) s0)) (ne b x z) (old b x z)
  · rw [q, if_neg (ne b x z)]; exact y
  · exact beq_false_of_ne (fun z => by rw [z] at hbig; exact absurd hbig (by decide))
theorem Tr.dict_of {np pos : Pos} {e : Expr} {as : List Atr} {n : Nat} (W : Wd w mg mb g) (hR : Rm n A) (h : EvH prog w A env m mu g e (FH (.list (as.map entT)))) (nd : (as.map keyL).Nodup) (hlen : as.length ≤ 1000)
    (hse : starEach [e] env = (false, eval e env) :: starEach [] env := by rfl) (hpl : (backTo pos (starEach [] env)).any (·.1) = false := by rfl)
    (hk : env.scope.kind = .function := by rfl) (hl : env.kindOf (PySem.Str.ofString "dict") = some .globalImplicit := by rfl) (hG : env.globals = mainGlobals := by rfl) (hB : env.builtins = builtinsNs := by rfl) :
    Ev prog w A env m mu g (.Call (.Name (PySem.Str.ofString "dict") np) [e] [] pos) (DP prog w as) :=
  fun s g₁ Q E hg X k => wpAny_Call_NameR ((Tr.bltn (R := fun _ v => v = .type "dict") W (gb_dict w) bb_dict (by decide) (fun _ _ _ _ r => r) rfl hk hl hG hB (by decide)) s g₁ _ _ hg X fun v g1 h1 tk1 G1 r => by
    subst r
    refine PyProof.Rows.callWith_type1 (args_cons (h _ _ _ _ (hg.trans G1.gg) (X.grow G1) fun v2 g2 h2 tk2 G2 ⟨ls, fp, _, _⟩ => args_nil ?_) hse) hse hpl
    obtain ⟨l, us, n', ls', rfl, _, el, fpA⟩ := fp.list_inv
    exact call_dict hR.hd (by have := hR.un; omega) (W.mono ((hg.trans G1.gg).trans G2.gg)) G2.gh el fpA.rd nd hlen fun v g3 h3 tk3 G3 r3 => k v g3 h3 tk3 ((G1.trans G2).trans G3) r3)

/-! ## asking a dict -/
theorem XA.find {g : Heap} {xs : List Ent} {as : List Atr} (h : XA g xs as) (k : List Str) : match as.find? (fun a => decide (keyL a = k)) with
    | none => atKey xs k = none
    | some a => ∃ ka v, atKey xs k = some (ka, v) ∧ Rd g v (pairT a) := by
  induction h with
  | nil => rfl
  | @cons a ka v xs as h1 h2 _ ih =>
    unfold atKey at *
    by_cases hk : keyL a = k
    · simp only [List.find?_cons, hk, decide_true]
      exact ⟨ka, v, rfl, h2⟩
    · simp only [List.find?_cons, hk, decide_false]
      exact ih
def hasK (as : List Atr) (k : List Str) : Bool := (as.find? (fun a => decide (keyL a = k))).isSome
theorem XA.has {g : Heap} {xs : List Ent} {as : List Atr} (h : XA g xs as) (k : List Str) : (atKey xs k).isSome = hasK as k := by
  have := h.find k
  unfold hasK
  cases e : as.find? (fun a => decide (keyL a = k)) with
  | none => rw [e] at this; rw [this]; rfl
  | some a => rw [e] at this; obtain ⟨ka, v, e2, _⟩ := this; rw [e2]; rfl
def keyOfL (k : List Str) : PyData := .tuple (k.map .str)
theorem Cp.notInD {n : Nat} {a : Atr} {as : List Atr} (hR : Rm n A) : Cp prog w A .NotIn (Da (keyD a)) (DP prog w as) (!hasK as (keyL a)) :=
  fun s g v u Q E hg r ⟨d, xs, e, h1, h2, h3⟩ k => by
    subst e
    obtain ⟨ka, _, rfl, _, _⟩ := r.tuple_inv
    rw [← h3.has (keyL a)] at k
    exact wpAny_notIn_heap (knd := KND prog w) (tupleKind_room_in1 (by have := hR.un; omega)) (key_is hg r) h1 (dictOfH_mono hg h2) (k s.heap _ (Le.refl _))
end

end
section
open PySem PySem.W PySem.Spec PySem.Calls PyProof.Rows

def DAt (h : Heap) (d : Addr) (es : Array DictEntry) (ep : Nat) : Prop := ∃ o, h.get? d = some o ∧ o.ExactDict ∧ o.data = .dict es ep
theorem DAt.le {g h : Heap} (x : Le g h) {d : Addr} {es : Array DictEntry} {ep : Nat} (a : DAt g d es ep) : DAt h d es ep := let ⟨o, e, r⟩ := a; ⟨o, x _ _ e, r⟩
theorem DAt.typeIs {s : Shared} {d : Addr} {es : Array DictEntry} {ep : Nat} (a : DAt s.heap d es ep) : s.TypeIs (.ref d) "dict" := let ⟨o, e, c, _⟩ := a; ⟨o, e, c.1⟩
section
variable {prog : Program} {w : World} {A : Around} {E : Value → Shared → Prop} {s : Shared} {it d : Addr} {i ep : Nat} {es : Array DictEntry}
theorem iter_dict {Q : Value → Shared → Prop} (hd : (d == sysModules) = false) (hm : DAt s.heap d es ep)
    (hQ : Q (.ref s.heap.objs.size) { s with heap := s.heap.push { cls := .type "dict_keyiterator", data := .fields #[.ref d, .int 0 0, .int es.size 0, .int ep 0] } }) :
    wpAny (model prog w) A (pyIter (.ref d)) Q E s := by
  have hT := hm.typeIs
  obtain ⟨o, ho, hc, hdat⟩ := hm
  refine wpAny_pyIter_slot hT PySem.F.slot_dict_iter (wpAny_call_entry PySem.F.slot_dict_iter hT PySem.F.entry_dict_iter ?_ (PySem.F.args_dict_iter_1 _))
  unfold Builtin.«dict.__iter__»
  wp_walk using wpAny_notOrdered_dict hT, wpAny_dictEntries ho hdat, wpAny_dictEpoch ho hdat, wpAny_newObj_type
  · exact ⟨_, rfl, _, _, ⟨_, Heap.get?_push_size _ rfl, rfl⟩, PySem.F.slot_dict_keyiterator_next.lookup, hQ⟩
  · size_fits
/-- the turn of a dict's key iterator, both ways -/
theorem next_keys {Q : Option Value → Shared → Prop} (hh : es[i]? = none → A.handled = none) (hit : s.heap.IsKeyIter it d i es.size ep) (hm : DAt s.heap d es ep)
    (hQ : ∀ e, es[i]? = some e → ∀ h', h'.IsKeyIter it d (i + 1) es.size ep → Heap.SameBut it s.heap h' → Q (some e.key) { s with heap := h' })
    (hE : es[i]? = none → ∀ h', Heap.ExtBut it s.heap h' → Q none { s with heap := h' }) : wpAny (model prog w) A (pyNext (.ref it)) Q E s := by
  have T := hit.typeIs
  obtain ⟨o, ho, hc, hd⟩ := hit
  obtain ⟨od, hod, hcd, hdd⟩ := hm
  unfold pyNext
  refine wpAny_bind (wpAny_attempt (wpAny_callSpecial?_slot (name := Str.ofString "__next__") T PySem.F.slot_dict_keyiterator_next
    (wpAny_call_entry PySem.F.slot_dict_keyiterator_next T PySem.F.entry_dict_keyiterator_next ?_ (PySem.F.args_dict_keyiterator_next_1 _))))
  wp_walk using wpAny_typeNameOfWhole_keyiter T, wpAny_fieldsOf ho hd, wpAny_dictEntries hod hdd, wpAny_dictEpoch hod hdd
  rw [if_neg (Int.not_lt.mpr (Int.natCast_nonneg i)), Int.toNat_natCast]
  cases hx : es[i]? with
  | some e =>
    have K : ∀ h', h' = s.heap.update it (Obj.mapFields (·.setIfInBounds 1 (rawInt ((i : Int) + 1)))) → h'.IsKeyIter it d (i + 1) es.size ep := fun h' q => by
      subst q
      exact ⟨_, Heap.get?_update_self _ ho (Obj.isFreed_of_fields (Obj.data_mapFields hd _)), (Obj.cls_mapFields ..).trans hc, by rw [Obj.data_mapFields hd]; rfl⟩
    wp_walk using wpAny_typeNameOfWhole_keyiter T, wpAny_isOneOf_keyiter T, wpAny_setField ho hd
    · exact Nat.le_of_ble_eq_true rfl
    · refine wpAny_bind (wpAny_holding (wpAny_bind (wpAny_isOneOf_keyiter (s := { s with heap := _ }) (K _ rfl).typeIs ?_)))
      show wpAny _ _ (pure e.key) _ _ _
      exact wpAny_pure (wpAny_pure ⟨_, rfl, wpAny_pure (hQ e hx _ (K _ rfl) (.update ..))⟩)
  | none =>
    wp_walk using wpAny_typeNameOfWhole_keyiter T, wpAny_setField ho hd
    · exact Nat.le_of_ble_eq_true rfl
    · refine stop_raised (hh hx) fun h' e le k => wpAny_bind (wpAny_isInstance (T := "StopIteration") (b := true) k isSubtype_stop (wpAny_pure (hE hx h' fun b o' nb g => le _ _ ?_)))
      exact (Heap.SameBut.update ..).2 b nb |>.trans g
theorem next_dict {Q : Option Value → Shared → Prop} {e : DictEntry} (hit : s.heap.IsKeyIter it d i es.size ep) (hm : DAt s.heap d es ep) (hx : es[i]? = some e)
    (hQ : ∀ h', h'.IsKeyIter it d (i + 1) es.size ep → Heap.SameBut it s.heap h' → Q (some e.key) { s with heap := h' }) : wpAny (model prog w) A (pyNext (.ref it)) Q E s :=
  next_keys (fun z => by rw [hx] at z; cases z) hit hm (fun y z => by rw [hx] at z; cases z; exact hQ) fun z => by rw [hx] at z; cases z
theorem next_dict_end {Q : Option Value → Shared → Prop} (hh : A.handled = none) (hit : s.heap.IsKeyIter it d i es.size ep) (hm : DAt s.heap d es ep) (hx : es[i]? = none)
    (hQ : ∀ h', Heap.ExtBut it s.heap h' → Q none { s with heap := h' }) : wpAny (model prog w) A (pyNext (.ref it)) Q E s :=
  next_keys (fun _ => hh) hit hm (fun y z => by rw [hx] at z; cases z) fun _ => hQ
end

theorem XA.get {g : Heap} {xs : List Ent} {as : List Atr} (h : XA g xs as) : ∀ {i : Nat} {x : Ent}, xs[i]? = some x → ∃ a, as[i]? = some a ∧ x.1 = keyL a ∧ Rd g (.ref x.2.1) (keyD a) ∧ Rd g x.2.2 (pairT a) := by
  induction h with
  | nil => intro i x e; simp at e
  | cons h1 h2 _ ih =>
    intro i x e
    cases i with
    | zero => simp at e; subst e; exact ⟨_, rfl, rfl, h1, h2⟩
    | succ i => simp at e; obtain ⟨a, q, r⟩ := ih e; exact ⟨a, by simpa using q, r⟩
theorem XA.len {g : Heap} {xs : List Ent} {as : List Atr} (h : XA g xs as) : xs.length = as.length := by
  induction h with
  | nil => rfl
  | cons _ _ _ ih => simp [ih]
/-- a dict's parts -/
theorem DP.parts {prog : Program} {w : World} {as : List Atr} {g : Heap} {v : Value} (h : DP prog w as g v) : ∃ d es ep, v = .ref d ∧ (d == sysModules) = false ∧ DAt g d es ep ∧ es.size = as.length ∧ ∀ (i : Nat) (a : Atr), as[i]? = some a → ∃ e, es[i]? = some e ∧ Rd g e.key (keyD a) := by
  obtain ⟨d, xs, rfl, h1, ⟨o, es, ep, e1, e2, e3, e4, e5, e6⟩, hx⟩ := h
  refine ⟨d, es, ep, rfl, h1, ⟨o, e1, e2, e3⟩, by rw [size_of_entries e4, hx.len], fun i a ha => ?_⟩
  have hi : i < xs.length := by rw [hx.len]; obtain ⟨z, _⟩ := List.getElem?_eq_some_iff.mp ha; exact z
  obtain ⟨a', q, _, q2, _⟩ := hx.get (i := i) (x := xs[i]) (by simp [hi])
  rw [ha] at q; cases q
  exact ⟨entryOfKey (KND prog w) xs[i], by rw [entry_at e4]; simp [hi], q2⟩

section
variable {prog : Program} {w : World} {A : Around} {env : Env} {m : Str → Option Value} {mu : Mu} {g : Heap} {mg mb : Str → Option Value}
theorem itr_dict {d it : Addr} {es : Array DictEntry} {ep : Nat} {as : List Atr} {T : Expr → Prop} (hh : A.handled = none) (hm : DAt g d es ep) (hsz : es.size = as.length) (hk : ∀ (i : Nat) (a : Atr), as[i]? = some a → ∃ e, es[i]? = some e ∧ Rd g e.key (keyD a)) (hn : g.get? it = none) :
    Itr prog w A T g it [it] (as.map keyD) (fun i h => h.IsKeyIter it d i es.size ep ∧ Le g h) (fun i _ h => h.IsKeyIter it d (i + 1) es.size ep ∧ Le g h) where
  off := fun b hb => by rw [List.mem_singleton.mp hb]; exact hn
  has := fun i h st b hb => by rw [List.mem_singleton.mp hb]; obtain ⟨o, e, _⟩ := st.1; exact ⟨o, e⟩
  frame := fun i h h' st le k => ⟨by obtain ⟨o, e, q⟩ := st.1; exact ⟨o, k it (List.mem_singleton.mpr rfl) o e, q⟩, le⟩
  item := fun i dd s g₁ Q E hd st hg hg1 hoff k => by
    simp only [List.getElem?_map, Option.map_eq_some_iff] at hd
    obtain ⟨a, ha, rfl⟩ := hd
    obtain ⟨e, he, re⟩ := hk i a ha
    have n1 : g₁.get? it = none := hoff it (List.mem_singleton.mpr rfl)
    refine next_dict st.1 (hm.le (hg.trans hg1)) he fun h' hit hs => ?_
    have G := growX_of_same (fp := [it]) (List.mem_singleton.mpr rfl) hg1 n1 (fun b o hb e => hs.extBut b o hb e) (let ⟨o, e, _⟩ := hit; ⟨o, e⟩)
    exact k e.key g₁ h' s.toks G ⟨hit, hg.trans G.gh⟩ (re.mono hg)
  go := fun i v target s g₁ Q E _ mid hg hg1 hoff k => by
    obtain ⟨o, e, hc, hd⟩ := mid.1
    exact go_plain e hc hd (by decide) (k s.heap (GrowX.refl hg1) mid)
  done := fun s g₁ Q E st hg hg1 hoff k =>
    next_dict_end hh st.1 (hm.le (hg.trans hg1)) (by rw [List.length_map, ← hsz]; simp) fun h' he => k h' s.toks fun b o n e => he b o (fun z => n (List.mem_singleton.mpr z)) e
  self := fun s Q E st hQ => by
    obtain ⟨o, e, hc, hd⟩ := st.1
    have hT : s.TypeIs (.ref it) "dict_keyiterator" := ⟨o, e, hc⟩
    refine wpAny_pyIter_slot hT PySem.F.slot_dict_keyiterator_iter (wpAny_call_entry PySem.F.slot_dict_keyiterator_iter hT PySem.F.entry_dict_keyiterator_iter ?_ (PySem.F.args_dict_keyiterator_iter_1 _))
    show wpAny _ _ (ret (.ref it)) _ _ s
    exact wpAny_pure ⟨_, rfl, "dict_keyiterator", _, hT, PySem.F.slot_dict_keyiterator_next.lookup, hQ⟩
theorem Ie.dict {iter : Expr} {as : List Atr} {T : Expr → Prop} (hh : A.handled = none) (h : Ev prog w A env m mu g iter (DP prog w as)) : Ie prog w A T env m mu g iter (as.map keyD) :=
  fun s g₁ Q E hg X k => h s g₁ _ _ hg X fun v g' h' tk G r => by
    obtain ⟨d, es, ep, rfl, h1, hm, hsz, hk⟩ := r.parts
    refine iter_dict h1 (hm.le G.gh) ?_
    have n : g'.get? h'.objs.size = none := G.gh.none (get_fresh _)
    refine k _ _ _ _ g' _ _ (G.trans (Grow.push0 G.gh _)) (itr_dict hh hm hsz hk n) ⟨⟨_, Heap.get?_push_size _ rfl, rfl, rfl⟩, G.gh.trans (Le.push _ _)⟩ fun b hb => ?_
    rw [List.mem_singleton.mp hb]
    exact G.hh.none (get_fresh _)
end

end
section
open PySem PySem.W PySem.Spec PySem.Calls PyProof.Rows

theorem DAt.at {h h' : Heap} {d : Addr} {es : Array DictEntry} {ep : Nat} (a : DAt h d es ep) (k : ∀ o, h.get? d = some o → h'.get? d = some o) : DAt h' d es ep := let ⟨o, e, r⟩ := a; ⟨o, k _ e, r⟩
theorem walks_dict {prog : Program} {w : World} {A : Around} {I d : Addr} {es : Array DictEntry} {ep : Nat} (hh : A.handled = none) (hne : d ≠ I) :
    Walks prog w A I [I, d] [I] es.size (fun i v => (es[i]?).map (·.key) = some v) (fun i h => h.IsKeyIter I d i es.size ep ∧ DAt h d es ep) where
  sub := fun b hb => by simp at hb; simp [hb]
  frame := fun _ _ _ st hk => ⟨by obtain ⟨o, e, q⟩ := st.1; exact ⟨o, hk I (by simp) o e, q⟩, st.2.at fun o e => hk d (by simp) o e⟩
  item := fun i s Q E hi st hQ => by
    obtain ⟨e, he⟩ : ∃ e, es[i]? = some e := ⟨es[i], by simp [hi]⟩
    refine next_dict st.1 st.2 he fun h' hit' hs' => ?_
    exact hQ _ h' s.toks (by rw [he]; rfl) ⟨hit', st.2.at fun o e => hs'.extBut d o hne e⟩ fun b o hb e => hs'.extBut b o (fun h => hb (by simp [h])) e
  done := fun s Q E st hQ => next_dict_end hh st.1 st.2 (by simp) fun h' he' => hQ h' s.toks fun b o hb e => he' b o (fun h => hb (by simp [h])) e
  self := fun i s Q E st hQ => by
    obtain ⟨o, e, hc, hd⟩ := st.1
    have hT : s.TypeIs (.ref I) "dict_keyiterator" := ⟨o, e, hc⟩
    refine wpAny_pyIter_slot hT PySem.F.slot_dict_keyiterator_iter (wpAny_call_entry PySem.F.slot_dict_keyiterator_iter hT PySem.F.entry_dict_keyiterator_iter ?_ (PySem.F.args_dict_keyiterator_iter_1 _))
    show wpAny _ _ (ret (.ref I)) _ _ s
    exact wpAny_pure ⟨_, rfl, "dict_keyiterator", _, hT, PySem.F.slot_dict_keyiterator_next.lookup, hQ⟩
theorem src_dict {prog : Program} {w : World} {d : Addr} {es : Array DictEntry} {ep : Nat} (lo : (d == sysModules) = false) : KdlSrc prog w "dict" d d es.size (fun i v => (es[i]?).map (·.key) = some v) (fun h => DAt h d es ep) where
  type := fun _ hm => hm.typeIs
  there := fun _ ⟨_, e, _⟩ => ⟨Heap.lt_size e, Heap.lt_size e⟩
  keep := fun _ _ hm hk => hm.at fun o e => hk d (.inl rfl) o e
  notList := by decide
  notTuple := by decide
  hint := fun _ _ _ _ hm hq => kdl_hint_dict hm.typeIs hq
  iter := fun A s hh hm => ⟨_, _, fun E Q hQ => iter_dict lo hm hQ, walks_dict hh (by obtain ⟨_, e, _⟩ := hm; exact Nat.ne_of_lt (Heap.lt_size e)), ⟨⟨_, Heap.get?_push_size _ rfl, rfl, rfl⟩, hm.at fun o e => Heap.get?_push_of_some _ e⟩⟩
section
variable {prog : Program} {w : World} {A : Around} {env : Env} {m : Str → Option Value} {mu : Mu} {g : Heap} {mg mb : Str → Option Value}
theorem rd_acc {g : Heap} {as : List Atr} {es : Array DictEntry} (hk : ∀ (i : Nat) (a : Atr), as[i]? = some a → ∃ e, es[i]? = some e ∧ Rd g e.key (keyD a)) : ∀ (n : Nat) (acc : List Value), acc.length = as.length - n → n ≤ as.length → (∀ (j : Nat) v, acc[j]? = some v → (es[n + j]?).map (·.key) = some v) → RdAll g acc ((as.drop n).map keyD)
  | n, [], hl, hn, _ => by
    have : as.drop n = [] := List.drop_eq_nil_of_le (by simp at hl; omega)
    rw [this]; exact .nil
  | n, v :: acc, hl, hn, h => by
    have hlt : n < as.length := by simp at hl; omega
    rw [List.drop_eq_getElem_cons hlt, List.map_cons]
    obtain ⟨e, he, re⟩ := hk n as[n] (by simp [hlt])
    have h0 := h 0 v rfl
    rw [Nat.add_zero, he] at h0
    cases h0
    refine .cons re (rd_acc hk (n + 1) acc (by simp at hl; omega) hlt fun j v hv => ?_)
    have := h (j + 1) v (by simpa using hv)
    rwa [show n + (j + 1) = n + 1 + j by omega] at this
theorem Bc.list_dict {as : List Atr} (hh : A.handled = none) (hlen : as.length ≤ 1000) {s : Shared} {g : Heap} {v : Value} {Q : Value → Shared → Prop} {E : Value → Shared → Prop} (hg : Le g s.heap) (r : DP prog w as g v)
    (k : ∀ v g' h' tk, Grow g s.heap g' h' → Rd g' v (.list (as.map keyD)) → Q v { s with heap := h', toks := tk }) : wpAny (model prog w) A (call (.type "list") [v]) Q E s := by
  have hz := sizeLine_eq
  obtain ⟨d, es, ep, rfl, h1, hm, hsz, hk⟩ := r.parts
  refine kdl_call (src_dict h1) hh (hm.le hg) (by omega) fun h' tk acc c le e it => ?_
  obtain ⟨gf, q⟩ := ghost_ex (hg.trans le) e
  have gN : g.get? s.heap.objs.size = none := hg.none (get_fresh _)
  have gg : Le g gf := fun b x z => by rw [q]; by_cases hb : b = s.heap.objs.size
                                       · subst hb; rw [gN] at z; cases z
                                       · rw [if_neg hb]; exact z
  have ne : ∀ b o, s.heap.get? b = some o → b ≠ s.heap.objs.size := fun b o e => Nat.ne_of_lt (Heap.lt_size e)
  refine k _ gf h' tk ⟨gg, fun b x z => ?_, le, fun b x z y => by rw [q, if_neg (ne b x z)]; exact y⟩ (.list (vs := acc.toList) ⟨_, by rw [q, if_pos rfl], rfl, c, by simp⟩ ?_)
  · rw [q] at z; by_cases hb : b = s.heap.objs.size
    · subst hb; rw [if_pos rfl] at z; cases z; exact e
    · rw [if_neg hb] at z; exact le _ _ (hg b x z)
  · have := rd_acc hk 0 acc.toList (by rw [Array.length_toList, it.1, hsz]; rfl) (Nat.zero_le _) fun j v hv => by rw [Nat.zero_add]; exact it.2 j v (by rw [← Array.getElem?_toList]; exact hv)
    exact this.mono gg
theorem Tr.list_dict {np pos : Pos} {e : Expr} {as : List Atr} (W : Wd w mg mb g) (hh : A.handled = none) (h : Ev prog w A env m mu g e (DP prog w as)) (hlen : as.length ≤ 1000)
    (hse : starEach [e] env = (false, eval e env) :: starEach [] env := by rfl) (hpl : (backTo pos (starEach [] env)).any (·.1) = false := by rfl)
    (hk : env.scope.kind = .function := by rfl) (hl : env.kindOf (PySem.Str.ofString "list") = some .globalImplicit := by rfl) (hG : env.globals = mainGlobals := by rfl) (hB : env.builtins = builtinsNs := by rfl) :
    Ev prog w A env m mu g (.Call (.Name (PySem.Str.ofString "list") np) [e] [] pos) (Da (.list (as.map keyD))) :=
  fun s g₁ Q E hg X k => wpAny_Call_NameR ((Tr.bltn (R := fun _ v => v = .type "list") W (gb_list w) bb_list (by decide) (fun _ _ _ _ r => r) rfl hk hl hG hB (by decide)) s g₁ _ _ hg X fun v g1 h1 tk1 G1 r => by
    subst r
    refine PyProof.Rows.callWith_type1 (args_cons (h _ _ _ _ (hg.trans G1.gg) (X.grow G1) fun v2 g2 h2 tk2 G2 r2 => args_nil ?_) hse) hse hpl
    exact Bc.list_dict hh hlen G2.gh r2 fun v g3 h3 tk3 G3 r3 => k v g3 h3 tk3 ((G1.trans G2).trans G3) r3)
end

end
section
open PySem PySem.W PySem.Spec PySem.Calls PyProof.Rows

section
variable {cmp : Nat → Nat → (Bool → Shared → Prop) → Shared → Prop} {N : Nat} {I : Shared → Prop}
theorem range_getD {n N : Nat} (h : n < N) : (List.toArray (List.range N)).getD n 0 = n := by
  simp [Array.getD, h]
theorem asc_all {G : Nat → Shared → Prop} (hask : ∀ m C s, 1 ≤ m → m < N → I s → (∀ s', I s' → C false s') → cmp m (m - 1) C s) : ∀ (f n : Nat) (s : Shared), n + f = N → 1 ≤ n → I s → (∀ s', I s' → G N s') → (kas_asc (List.toArray (List.range N)) f n).kasWp cmp G s
  | 0, n, s, h, _, hi, hG => by
    have : n = N := by omega
    subst this
    exact hG s hi
  | f + 1, n, s, h, h1, hi, hG => by
    show cmp ((List.toArray (List.range N)).getD n 0) ((List.toArray (List.range N)).getD (n - 1) 0) (fun b s' => (if b = true then KasT.ret n else kas_asc (List.toArray (List.range N)) f (n + 1)).kasWp cmp G s') s
    rw [range_getD (by omega), range_getD (by omega)]
    refine hask n _ s h1 (by omega) hi fun s' hi' => ?_
    simp only [Bool.false_eq_true, if_false]
    exact asc_all hask f (n + 1) s' (by omega) (by omega) hi' hG
theorem sort_all {Q : Array Nat → Shared → Prop} {s : Shared} (hN : 1 ≤ N) (hask : ∀ m C s, 1 ≤ m → m < N → I s → (∀ s', I s' → C false s') → cmp m (m - 1) C s) (hi : I s) (hQ : ∀ s', I s' → Q (List.toArray (List.range N)) s') : (kas_sort N).kasWp cmp Q s := by
  unfold kas_sort
  rw [KasT.kasWp_bind]
  unfold kas_count
  rw [KasT.kasWp_bind]
  refine asc_all hask (N - 1) 1 s (by omega) (Nat.le_refl _) hi fun s' hi' => ?_
  simp only [beq_self_eq_true, if_true]
  show (if N < N then _ else _ : KasT (Array Nat)).kasWp cmp Q s'
  rw [if_neg (Nat.lt_irrefl _)]
  exact hQ s' hi'
end

def strLt (x y : Str) : Bool := decide (x.cps.toList < y.cps.toList)
/-- the later key is not below the earlier one, and another -/
def ascOk (a b : Atr) : Bool := if a.ks = b.ks then (!decide (a.kn = b.kn) && !strLt b.kn a.kn) else !strLt b.ks a.ks
def Asc (as : List Atr) : Prop := ∀ i a b, as[i]? = some a → as[i + 1]? = some b → ascOk a b = true
section
variable {prog : Program} {w : World} {A : Around} {E : Value → Shared → Prop}
/-- what asking changes: toks alone, above a ghost -/
structure Same (s0 s : Shared) : Prop where
  eq : ∃ tk, s = { s0 with toks := tk }
theorem ask_false {g : Heap} {s0 s : Shared} {x y : Value} {a b : Atr} {C : Bool → Shared → Prop} (hu : A.units + 1 < cLine) (hg : Le g s0.heap) (hs : Same s0 s) (rx : Rd g x (keyD b)) (ry : Rd g y (keyD a)) (h : ascOk a b = true) (hC : ∀ s', Same s0 s' → C false s') :
    wpAny (model prog w) A (keyLt' (tuples' true) x y) C (fun _ _ => False) s := by
  obtain ⟨tk, rfl⟩ := hs.eq
  obtain ⟨p, xs, rfl, ⟨ox, hx, _, n1, dx⟩, rxs⟩ := rx.tuple_inv
  obtain ⟨q, ys, rfl, ⟨oy, hy, _, n2, dy⟩, rys⟩ := ry.tuple_inv
  obtain ⟨x1, x2, rfl, r1, r2⟩ := rxs.two
  obtain ⟨y1, y2, rfl, r3, r4⟩ := rys.two
  obtain ⟨t1, rfl⟩ := r1.str_inv
  obtain ⟨t2, rfl⟩ := r2.str_inv
  obtain ⟨t3, rfl⟩ := r3.str_inv
  obtain ⟨t4, rfl⟩ := r4.str_inv
  refine kat_lt (s := { s0 with toks := tk }) (hg _ _ hx) dx (hg _ _ hy) dy ?_
  have e : (#[Value.str b.ks t1, Value.str b.kn t2].toList.zip #[Value.str a.ks t3, Value.str a.kn t4].toList) = [(.str b.ks t1, .str a.ks t3), (.str b.kn t2, .str a.kn t4)] := rfl
  show KatLex prog w A true _ C (#[Value.str b.ks t1, Value.str b.kn t2].toList.zip #[Value.str a.ks t3, Value.str a.kn t4].toList) 0 { s0 with toks := tk }
  rw [e]
  refine kat_cons (wpAny_eqBool_str ?_)
  refine kat_go (fun e1 => ?_) (fun e1 => ?_)
  · have e2 : b.ks = a.ks := of_decide_eq_true e1
    refine kat_yes (kat_cons (wpAny_eqBool_str ?_))
    have h' := h
    unfold ascOk at h'
    rw [if_pos e2.symm, Bool.and_eq_true] at h'
    have hne : decide (b.kn = a.kn) = false := by
      have := h'.1
      simp at this
      exact decide_eq_false fun z => this z.symm
    rw [hne]
    refine kat_no (kat_one _ _ (PyProof.Rows.lt_str ?_))
    have hlt : strLt b.kn a.kn = false := by simpa using h'.2
    show C (decide _) _
    unfold strLt at hlt
    rw [hlt]
    exact hC _ ⟨_, rfl⟩
  · have e2 : ¬ b.ks = a.ks := of_decide_eq_false e1
    refine kat_no (oneLt_str ?_)
    have h' := h
    unfold ascOk at h'
    rw [if_neg (fun z => e2 z.symm)] at h'
    have hlt : strLt b.ks a.ks = false := by simpa using h'
    show C (decide _) _
    unfold strLt at hlt
    rw [hlt]
    exact hC _ ⟨_, rfl⟩
end

end
section
open PySem PySem.W PySem.Spec PySem.Calls PyProof.Rows

theorem katTups {g h : Heap} (x : Le g h) : ∀ {vs : List Value} {as : List Atr}, RdAll g vs (as.map keyD) → ∃ fs, KatTups h vs fs ∧ fs.length = as.length ∧ ∀ v ∈ fs, ∃ y t, v = .str y t
  | vs, [], r => by obtain rfl := r.nil_inv; exact ⟨[], KatTups.nil, rfl, fun _ h => nomatch h⟩
  | vs, a :: as, r => by
    obtain ⟨v, vs', rfl, ra, rr⟩ := r.cons_inv'
    obtain ⟨fs, h1, h2, h3⟩ := katTups x rr
    obtain ⟨p, ps, rfl, ⟨o, ho, hc, n, hd⟩, rp⟩ := ra.tuple_inv
    obtain ⟨x1, x2, rfl, r1, _⟩ := rp.two
    obtain ⟨t1, rfl⟩ := r1.str_inv
    exact ⟨.str a.ks t1 :: fs, KatTups.cons (x _ _ ho) hc hd rfl h1, by simp [h2], fun v hv => by rcases List.mem_cons.mp hv with rfl | hv; exact ⟨_, _, rfl⟩; exact h3 v hv⟩
section
variable {prog : Program} {w : World} {A : Around} {E : Value → Shared → Prop} {s : Shared} {g : Heap}
theorem map_getD (vs : List Value) : (List.range vs.length).map (fun i => vs.getD i Value.none) = vs := by
  apply List.ext_getElem
  · simp
  · intro i h1 h2
    simp at h1
    simp [h1]
set_option maxHeartbeats 1000000 in
theorem list_sort {a : Addr} {vs : List Value} {n : Nat} {as : List Atr} {P : PySem.Fin → Shared → Prop} (hu : A.units + 1 < cLine) (ho : s.heap.get? a = some (lstO vs n)) (hg : Le g s.heap) (ga : g.get? a = none) (r : RdAll g vs (as.map keyD)) (hasc : Asc as) (hlen : as.length < 64)
    (k : ∀ h' tk n', h'.get? a = some (lstO vs n') → (∀ b o, b ≠ a → s.heap.get? b = some o → h'.get? b = some o) → P (.done (.ret .none)) { s with heap := h', toks := tk }) :
    wpAny (model prog w) A (Builtin.«list.sort» ⟨[.ref a], []⟩) P E s := by
  have hz := sizeLine_eq
  have hvl : vs.length = as.length := by have := r.length; simpa using this
  have s1 := Heap.SameBut.update s.heap a (Obj.mapSeq fun _ => (#[] : Array Value))
  obtain ⟨e1, ho1⟩ : ∃ e1, (s.heap.update a (Obj.mapSeq fun _ => (#[] : Array Value))).get? a = some (lstO [] e1) := ⟨_, upd_get (o' := lstO [] (if (#[] : Array Value).size == vs.toArray.size then n else n + 1)) ho (by simp [Obj.mapSeq]) rfl⟩
  have hg1 : Le g (s.heap.update a (Obj.mapSeq fun _ => (#[] : Array Value))) := fun b o e => s1.extBut b o (fun z => by subst z; rw [ga] at e; cases e) (hg b o e)
  rw [list_sort_plain]
  refine wpAny_bind (listItems_at ho rfl ?_)
  refine wpAny_bind (listUpdate_at ho rfl ?_ (by rw [List.size_toArray]; omega) (Nat.zero_le _))
  refine wpAny_bind (seqEpoch_at ho1 rfl ?_)
  refine wpAny_bind (wpAny_newTuple ?_ (by show vs.length ≤ _; omega))
  refine wpAny_bind (wpAny_newList ?_ (Nat.zero_le _))
  refine wpAny_holding ?_
  have hoA : (((s.heap.update a (Obj.mapSeq fun _ => (#[] : Array Value))).push (seqObj "tuple" vs.toArray 0)).push (seqObj "list" #[] 0)).get? a = some (lstO [] e1) := Heap.get?_push_of_some _ (Heap.get?_push_of_some _ ho1)
  have kp : ∀ b o, b ≠ a → s.heap.get? b = some o → (((s.heap.update a (Obj.mapSeq fun _ => (#[] : Array Value))).push (seqObj "tuple" vs.toArray 0)).push (seqObj "list" #[] 0)).get? b = some o := fun b o hb e => Heap.get?_push_of_some _ (Heap.get?_push_of_some _ (s1.extBut b o hb e))
  have hgH : Le g (((s.heap.update a (Obj.mapSeq fun _ => (#[] : Array Value))).push (seqObj "tuple" vs.toArray 0)).push (seqObj "list" #[] 0)) := fun b o e => Heap.get?_push_of_some _ (Heap.get?_push_of_some _ (hg1 b o e))
  show wpAny (model prog w) A _ P E { s with heap := ((s.heap.update a (Obj.mapSeq fun _ => (#[] : Array Value))).push (seqObj "tuple" vs.toArray 0)).push (seqObj "list" #[] 0) }
  generalize (((s.heap.update a (Obj.mapSeq fun _ => (#[] : Array Value))).push (seqObj "tuple" vs.toArray 0)).push (seqObj "list" #[] 0)) = H at hoA kp hgH ⊢
  dsimp only
  have fin : ∀ (st' : SortSt) (tk : Tok), (arrOf st').map (·.2) = vs.toArray → failedOf st' = none → wpAny (model prog w) A (do
      let touched := (← seqEpoch a) != e1
      Builtin.List.listUpdate (.ref a) fun _ => (arrOf st').map (·.2)
      if let some e := failedOf st' then rule "list.sort.comparison-raised"; throw e
      if touched then rule "list.sort.modified"; raiseError "ValueError" "list modified during sort"
      ret .none) P E { s with heap := H, toks := tk } := by
    intro st' tk h1 h2
    rw [h1]
    refine wpAny_bind (seqEpoch_at hoA rfl ?_)
    refine wpAny_bind (listUpdate_at hoA rfl ?_ (Nat.zero_le _) (by show vs.toArray.size ≤ _; rw [List.size_toArray]; omega))
    rw [h2]
    simp only [bne_self_eq_false, Bool.false_eq_true, if_false]
    have s2 := Heap.SameBut.update H a (Obj.mapSeq fun _ => vs.toArray)
    refine wpAny_pure (k _ tk (if vs.toArray.size == (#[] : Array Value).size then e1 else e1 + 1) (upd_get hoA (by simp [Obj.mapSeq]) rfl) fun b o hb e => s2.extBut b o hb (kp b o hb e))
  by_cases h2 : 2 ≤ vs.length
  · have hn2 : ¬ vs.toArray.size < 2 := by rw [List.size_toArray]; omega
    rw [if_neg hn2, if_neg hn2]
    obtain ⟨fs, t1, t2, t3⟩ := katTups hgH r
    refine wpAny_bind (kat_kind (T := .type "str") t1 (by omega) (fun v hv => by obtain ⟨y, t, rfl⟩ := t3 v hv; exact Looks.of_pure rfl) (by decide) ?_)
    have hb : (Value.type "str" != Value.type "tuple") = true := by decide
    rw [hb]
    refine wpAny_bind (wpAny_mono (kat_run (κ := tuples' true) (ks := vs) (vs := vs) (G := fun p s' => p = List.toArray (List.range vs.length) ∧ Same { s with heap := H } s') (Q := fun st' s' => ((arrOf st').map (·.2) = vs.toArray ∧ failedOf st' = none) ∧ Same { s with heap := H } s') rfl h2 (by omega) (fun p st' s' hp har hf ⟨he, hs⟩ => ⟨⟨?_, hf⟩, hs⟩)
      (sort_all (I := Same { s with heap := H }) (by omega) (fun m C s' hm hmn hs hC => ?_) ⟨_, rfl⟩ fun s' hs => ⟨rfl, hs⟩)) (fun rr s' q => ?_) fun _ _ x => x)
    · rw [kat_snds rfl har, he]
      have := map_getD vs
      simp only [List.toList_toArray]
      rw [this]
    · unfold kas_ask
      have hm1 : m < as.length := by omega
      obtain ⟨x, hx, rx⟩ := r.get (k := m) (d := keyD as[m]) (by simp [hm1])
      obtain ⟨y, hy, ry⟩ := r.get (k := m - 1) (d := keyD (as[m - 1]'(by omega))) (by rw [List.getElem?_map, List.getElem?_eq_getElem (by omega : m - 1 < as.length)]; rfl)
      have ex : vs.getD m Value.none = x := by simp [List.getD, hx]
      have ey : vs.getD (m - 1) Value.none = y := by simp [List.getD, hy]
      rw [ex, ey]
      refine ask_false hu hgH hs rx ry (hasc (m - 1) _ _ (List.getElem?_eq_getElem (by omega : m - 1 < as.length)) ?_) hC
      have : m - 1 + 1 = m := by omega
      rw [this]; simp [hm1]
    · obtain ⟨⟨q1, q2⟩, tk, rfl⟩ := q
      exact fin rr.2 tk q1 q2
  · have hn2 : vs.toArray.size < 2 := by rw [List.size_toArray]; omega
    rw [if_pos hn2, if_pos hn2]
    refine wpAny_bind (wpAny_pure ?_)
    refine wpAny_bind ?_
    show wpAny (model prog w) A (pure ((), SortSt.mk' general' (vs.toArray.zip vs.toArray) #[] 7 none)) _ _ _
    refine wpAny_pure ?_
    refine fin (SortSt.mk' general' (vs.toArray.zip vs.toArray) #[] 7 none) s.toks ?_ rfl
    show (vs.toArray.zip vs.toArray).map (·.2) = vs.toArray
    apply Array.ext'
    simp [List.map_snd_zip]
end

end
section
open PySem PySem.W PySem.Spec PySem.Calls PyProof.Rows

section
variable {prog : Program} {w : World} {A : Around} {env : Env} {m : Str → Option Value} {mu : Mu} {g : Heap} {mg mb : Str → Option Value}
theorem Bc.sorted {n : Nat} {as : List Atr} (hR : Rm n A) (hasc : Asc as) (hlen : as.length < 64) : Bc prog w A (.builtin "sorted") [.list (as.map keyD)] (Da (.list (as.map keyD))) :=
  fun s g vs Q E hg r k => by
    have hz := sizeLine_eq
    obtain ⟨v, rfl, rv⟩ := r.one
    obtain ⟨l, us, rfl, hl0, ru⟩ := rv.list_inv
    have hl := IsList.le hg hl0
    have hul : us.length = as.length := by have := ru.length; simpa using this
    refine Calls.call_function_entry kind_sorted plain_sorted entry_sorted (args_sorted1 _) ?_
    unfold Builtin.«sorted»
    refine wpAny_bind (m := checkCount "sorted" 1 1 _) (wpAny_pure ?_)
    refine wpAny_bind (collect_list hl ?_ (by omega))
    refine wpAny_bind (wpAny_newList ?_ (by omega))
    have hsz : ((s.heap.push (seqObj "list" #[] 0)).update s.heap.objs.size (Obj.mapSeq (· ++ us.toArray))).objs.size = s.heap.objs.size + 1 := by
      rw [Heap.size_update, size_push']
    have hoL : (((s.heap.push (seqObj "list" #[] 0)).update s.heap.objs.size (Obj.mapSeq (· ++ us.toArray))).push (seqObj "list" us.toArray 0)).get? (s.heap.objs.size + 1) = some (lstO us 0) := by
      rw [← hsz]; exact Heap.get?_push_size _ rfl
    have keep : ∀ b o, s.heap.get? b = some o → (((s.heap.push (seqObj "list" #[] 0)).update s.heap.objs.size (Obj.mapSeq (· ++ us.toArray))).push (seqObj "list" us.toArray 0)).get? b = some o := fun b o q => by
      have hlt : b < s.heap.objs.size := Heap.lt_size q
      rw [Heap.get?_push_ne _ _ _ (by rw [hsz]; exact Nat.ne_of_lt (Nat.lt_succ_of_lt hlt)), Heap.get?_update_ne _ _ _ _ (Nat.ne_of_lt hlt), Heap.get?_push_ne _ _ _ (Nat.ne_of_lt hlt)]
      exact q
    show wpAny _ _ _ _ _ { s with heap := ((s.heap.push (seqObj "list" #[] 0)).update s.heap.objs.size (Obj.mapSeq (· ++ us.toArray))).push (seqObj "list" us.toArray 0) }
    rw [hsz]
    have gD : g.get? (s.heap.objs.size + 1) = none := hg.none (Heap.get?_none_of_le (Nat.le_succ _))
    refine wpAny_bind (wpAny_holding (wpAny_call_entry slot_list_sort ⟨_, hoL, rfl⟩ entry_list_sort ?body (args_list_sort _)))
    case body =>
      refine Mine.list_sort (s := { s with heap := ((s.heap.push (seqObj "list" #[] 0)).update s.heap.objs.size (Obj.mapSeq (· ++ us.toArray))).push (seqObj "list" us.toArray 0) }) (A := A.in1.in1)
        (by have := hR.un; show A.units + 1 + 1 + 1 < cLine; omega) hoL (hg.trans keep) gD ru hasc hlen fun h' tk n' e kk => ⟨_, rfl, wpAny_pure ⟨_, rfl, ?_⟩⟩
      have le : Le s.heap h' := fun b o q => kk b o (Nat.ne_of_lt (Nat.lt_succ_of_lt (Heap.lt_size q))) (keep b o q)
      obtain ⟨gf, q⟩ := ghost_ex (hg.trans le) e
      have gg : Le g gf := fun b x z => by rw [q]; by_cases hb : b = s.heap.objs.size + 1
                                           · subst hb; rw [gD] at z; cases z
                                           · rw [if_neg hb]; exact z
      have ne : ∀ b o, s.heap.get? b = some o → b ≠ s.heap.objs.size + 1 := fun b o e => Nat.ne_of_lt (Nat.lt_succ_of_lt (Heap.lt_size e))
      refine k _ gf h' tk ⟨gg, fun b x z => ?_, le, fun b x z y => by rw [q, if_neg (ne b x z)]; exact y⟩ (.list (isList_of (by rw [q, if_pos rfl])) (ru.mono gg))
      rw [q] at z; by_cases hb : b = s.heap.objs.size + 1
      · subst hb; rw [if_pos rfl] at z; cases z; exact e
      · rw [if_neg hb] at z; exact le _ _ (hg b x z)

/-! ## asking a dict for a key -/
def getT (as : List Atr) (k : Atr) : PyData := match as.find? (fun a => decide (keyL a = keyL k)) with
  | none => .none
  | some a => pairT a
theorem XA.getT {g : Heap} {xs : List Ent} {as : List Atr} (h : XA g xs as) (k : Atr) : Rd g (((atKey xs (keyL k)).map (·.2)).getD .none) (getT as k) := by
  have := h.find (keyL k)
  unfold Mine.getT
  cases e : as.find? (fun a => decide (keyL a = keyL k)) with
  | none => rw [e] at this; rw [this]; exact .none
  | some a => rw [e] at this; obtain ⟨ka, v, e2, r⟩ := this; rw [e2]; exact r
/-- «d[key]» -/
theorem Tr.sub_dict {n : Nat} {value slice : Expr} {pos : Pos} {as : List Atr} {k b : Atr} (hR : Rm n A) (h1 : Ev prog w A env m mu g value (DP prog w as)) (h2 : Ev prog w A env m mu g slice (Da (keyD k))) (hb : as.find? (fun a => decide (keyL a = keyL k)) = some b)
    (hs : ∀ (a b : Addr), subscripted slice false (.ref a) (.ref b) = operate [.ref a, .ref b] (getItem (.ref a) (.ref b)) := by intro _ _; with_unfolding_all rfl) :
    Ev prog w A env m mu g (.Subscript value slice pos) (Da (pairT b)) :=
  fun s g₁ Q E hg X kk => Subscript_ (h1 s g₁ _ _ hg X fun v g1 h1' tk1 G1 r1 => h2 _ _ _ _ (hg.trans G1.gg) (X.grow G1) fun u g2 h2' tk2 G2 r2 => by
    obtain ⟨d, xs, rfl, lo, hd, hx⟩ := mono_DP prog w as _ _ _ G2.gg r1
    obtain ⟨ka, _, rfl, _, _⟩ := r2.tuple_inv
    have f := hx.find (keyL k)
    rw [hb] at f
    obtain ⟨ka', v, e2, rv⟩ := f
    have hm := dictOfH_mono G2.gh hd
    exact tail_any hm.typeIs slot_dict_getitem.lookup (wpAny_getItem_heap (knd := KND prog w) (tupleKind_room_in1 (by have := hR.un; omega)) (key_is G2.gh r2) hm e2 (kk v g2 h2' _ (G1.trans G2) rv)) (hs _ _))
/-- «d.get(key)» upon a cell's dict -/
theorem Tr.get_cell {n : Nat} {x : Str} {np apos pos : Pos} {e : Expr} {c : Addr} {o : Obj} {as : List Atr} {k : Atr} {dv : Value} (hR : Rm n A) (hc : env.cells.lookup x = some c) (hm : (c, o) ∈ mu) (ho : o.data = .cell (some dv)) (r : DP prog w as g dv) (he : Ev prog w A env m mu g e (Da (keyD k)))
    (hk : env.scope.kind = .function := by rfl) (hl : env.kindOf x = some .cell := by rfl) (hd : (x == ("__debug__" : Str)) = false := by decide)
    (hbase : attributeBase (.Name x np) (PySem.Str.ofString "get") env (eval (.Name x np) env) = eval (.Name x np) env := by rfl)
    (hfew : ((backTo pos (starEach [e] env)).all (fun x => !x.1) && (backToKw pos (keywordEach [] env)).all (fun x => x.1.isSome) && decide (([e] : List Expr).length + ([] : List Keyword).length + (if ([] : List Keyword).isEmpty then 0 else 1) < 30)) = true := by rfl)
    (hline : (apos.endLine == pos.line) = true := by rfl) (hse : backTo pos (starEach [e] env) = [(false, eval e env)] := by rfl) :
    Ev prog w A env m mu g (.Call (.Attribute (.Name x np) (PySem.Str.ofString "get") apos) [e] [] pos) (Da (getT as k)) :=
  fun s g₁ Q E hg X kk => by
    obtain ⟨d, xs, rfl, lo, hd', hx⟩ := mono_DP prog w as _ _ _ hg r
    have hm0 := dictOfH_mono X.gh hd'
    refine wpAny_Call_method_late hbase hfew hline rfl (wpAny_Name (wpAny_loadName_cell hk hl hc ⟨o, (X.mu _ hm).1, ho⟩ ?_) hd)
    obtain ⟨od, _, _, eod, cod, _⟩ := id hm0
    refine ⟨"dict", "dict.get", PySem.F.plainAttrs_dict, PySem.F.slot_dict_get, PySem.F.type_dict_get, ⟨od, eod, cod.1⟩, fun b hb => by cases hb; exact ⟨od, eod, cod.2.1⟩, ?_⟩
    rw [hse]
    refine wpAny_dict_get1_heap (knd := KND prog w) (tupleKind_room_in1 (by have := hR.un; omega)) lo (he s g₁ _ _ hg X fun v g2 h2 tk2 G2 r2 => ?_)
    obtain ⟨ka, _, rfl, _, _⟩ := r2.tuple_inv
    exact ⟨ka, keyL k, xs, rfl, key_is G2.gh r2, dictOfH_mono (G2.gg.trans G2.gh) hd', kk _ g2 h2 _ G2 ((hx.mono G2.gg).getT k)⟩
end

end
section
open PySem PySem.W PySem.Spec PySem.Calls PyProof.Rows

def unionA (as bs : List Atr) : List Atr := as ++ bs.filter fun b => !hasK as (keyL b)
def unl (as bs : List Atr) (k : Atr) : Bool := match bs.find? (fun a => decide (keyL a = keyL k)) with
  | none => true
  | some b => !PyData.eqv (getT as k) (pairT b)
def rowU (bs : List Atr) (k : Atr) : PyData := match bs.find? (fun a => decide (keyL a = keyL k)) with
  | none => .tuple [keyD k, .none, .none]
  | some b => .tuple [keyD k, .str b.name, .str b.value]
def unlike (as bs : List Atr) : List PyData := ((unionA as bs).filter (unl as bs)).map (rowU bs)
theorem pair_shaped {a : Atr} (h : atrOk a = true) : SeqAt.shaped (pairT a) = true := by
  simp only [atrOk, Bool.and_eq_true] at h
  refine shaped_of (n := 2) ?_ ?_ (by decide)
  · simp only [pairT, PyData.canLay0, PyData.canLayAll0, tok_ok h.1.2, tok_ok h.2, Bool.and_self]
  · simp only [pairT, PyData.depth, PyData.depthAll]; decide
theorem getT_shaped {as : List Atr} (h : ∀ a ∈ as, atrOk a = true) (k : Atr) : SeqAt.shaped (getT as k) = true := by
  unfold getT
  cases e : as.find? (fun a => decide (keyL a = keyL k)) with
  | none => decide +kernel
  | some a => exact pair_shaped (h a (List.mem_of_find?_eq_some e))
theorem nodup_keyL {as : List Atr} (h : (as.map fun a => (a.ks, a.kn)).Nodup) : (as.map keyL).Nodup := by
  induction as with
  | nil => exact List.nodup_nil
  | cons a r ih =>
    rw [List.map_cons, List.nodup_cons] at *
    refine ⟨fun hm => h.1 ?_, ih h.2⟩
    obtain ⟨b, hb, e⟩ := List.mem_map.mp hm
    refine List.mem_map.mpr ⟨b, hb, ?_⟩
    simp only [keyL, List.cons.injEq, and_true] at e
    rw [e.1, e.2]
theorem FH.of_da {d : PyData} (h : noL d = true) {e g : Heap} {v : Value} (r : Rd g v d) : FH d e g v := ⟨[], .flat h r, List.nodup_nil, fun _ h => nomatch h⟩
theorem filter_take_succ {α : Type} {l : List α} {i : Nat} {d : α} (p : α → Bool) (h : l[i]? = some d) : (l.take (i + 1)).filter p = (l.take i).filter p ++ (if p d = true then [d] else []) := by
  rw [take_succ_get h, List.filter_append]
  congr 1
  by_cases hp : p d = true <;> simp [hp]
section
variable {prog : Program} {w : World} {mg mb : Str → Option Value}
set_option maxHeartbeats 4000000 in
theorem unlike_spec {N : Nat} (f₁ f₂ : Fm) (hf₁ : okF N f₁ = true) (hf₂ : okF N f₂ = true) (hasc : Asc (unionA f₁.attrs f₂.attrs)) : Pure prog w mg mb 1 59 [formD f₁, formD f₂] (Da (.list (unlike f₁.attrs f₂.attrs))) := by
  intro A s g vs Q E hR W hg r k
  obtain ⟨v, u, rfl, r1, r2⟩ := r.two
  obtain ⟨N', rfl⟩ : ∃ N', N = N' + 1 := by cases N with | zero => (cases f₁; simp [okF] at hf₁) | succ N' => exact ⟨N', rfl⟩
  obtain ⟨k1, l1, v1, as, ks1⟩ := f₁
  obtain ⟨k2, l2, v2, bs, ks2⟩ := f₂
  have o1 := okF_succ hf₁
  have o2 := okF_succ hf₂
  have hz := sizeLine_eq
  have q1 := o1.alen; have q2 := o2.alen
  rw [formD_mk] at r1 r2
  change Asc (unionA as bs) at hasc
  change ∀ v g' h' tk, Grow g s.heap g' h' → Da (.list (unlike as bs)) g' v → _ at k
  have uLen : (unionA as bs).length ≤ 20 := by
    have := List.length_filter_le (fun b => !hasK as (keyL b)) bs
    unfold unionA
    rw [List.length_append]; omega
  refine call_atC (cx := S "first") (binds := [(S "one", v), (S "other", u)]) (mu := []) (X := NoX) hR W hg (fun _ h => nomatch h) rfl rfl rfl rfl rfl rfl (fun _ => rfl)
    (fun x hx => .inl (by simp only [List.mem_cons, List.not_mem_nil, or_false] at hx; rcases hx with rfl | rfl <;> rfl)) rfl rfl rfl fun L h₁ tk E' oc hoc hLc a hR' => ?_
  -- first
  refine St.assignC (R := DP prog w as) (v₀ := none) a (fun _ h => nomatch h) hoc rfl (Tr.dict_of W hR' (TrH.comp0 (cl := []) atrT (fun f => [(S "key", keyD f), (S "name", .str f.name), (S "value", .str f.value)]) entT (T := fun _ => True) (Ie.tuple hR'.hd (Tr.sub_tuple (j := 3) (Tr.name rfl (mono_da _) r1) (Tr.glob W (gi_ATTRIBUTES _) (mono_da _) (.int _ _)) (by decide) (by decide) rfl rfl)) trivial (by omega)
      (fun C d hd => Asg.tuple (xs := [S "key", S "name", S "value"]) (ds := [keyD d, .str d.name, .str d.value]) hR'.hd (.cons rfl (.cons rfl (.cons rfl .nil))) (by decide) rfl rfl) (fun C d g' m' hd hg' bd => ?_) rfl (by decide) rfl (by decide)) (nodup_keyL o1.nodup) (by omega)) fun v3 o3 g3 h3 tk3 ho3 a3 hg3 r3 => ?_
  · obtain ⟨x1, e1, rx1⟩ := bd (S "key", keyD d) (.head _)
    obtain ⟨x2, e2, rx2⟩ := bd (S "name", .str d.name) (.tail _ (.head _))
    obtain ⟨x3, e3, rx3⟩ := bd (S "value", .str d.value) (.tail _ (.tail _ (.head _)))
    replace e1 : m' (S "key") = some x1 := e1
    replace e2 : m' (S "name") = some x2 := e2
    replace e3 : m' (S "value") = some x3 := e3
    exact TrH.weak (Tr.toH (Tr.tuple (ds := [keyD d, pairT d]) (SpE.cons (Tr.name e1 (mono_da _) rx1) (SpE.cons (Tr.tuple (SpE.cons (Tr.name e2 (mono_da _) rx2) (SpE.cons (Tr.name e3 (mono_da _) rx3) SpE.nil))) SpE.nil)))) fun e g v r => FH.of_da rfl r
  have W3 := W.mono hg3
  have r23 := r2.mono hg3
  -- second
  refine St.assign (R := DP prog w bs) a3 (Tr.dict_of W3 hR' (TrH.comp0 (cl := []) atrT (fun f => [(S "key", keyD f), (S "name", .str f.name), (S "value", .str f.value)]) entT (T := fun _ => True) (Ie.tuple hR'.hd (Tr.sub_tuple (j := 3) (Tr.name rfl (mono_da _) r23) (Tr.glob W3 (gi_ATTRIBUTES _) (mono_da _) (.int _ _)) (by decide) (by decide) rfl rfl)) trivial (by omega)
      (fun C d hd => Asg.tuple (xs := [S "key", S "name", S "value"]) (ds := [keyD d, .str d.name, .str d.value]) hR'.hd (.cons rfl (.cons rfl (.cons rfl .nil))) (by decide) rfl rfl) (fun C d g' m' hd hg' bd => ?_) rfl (by decide) rfl (by decide)) (nodup_keyL o2.nodup) (by omega)) fun v4 g4 h4 tk4 a4 hg4 r4 => ?_
  · obtain ⟨x1, e1, rx1⟩ := bd (S "key", keyD d) (.head _)
    obtain ⟨x2, e2, rx2⟩ := bd (S "name", .str d.name) (.tail _ (.head _))
    obtain ⟨x3, e3, rx3⟩ := bd (S "value", .str d.value) (.tail _ (.tail _ (.head _)))
    replace e1 : m' (S "key") = some x1 := e1
    replace e2 : m' (S "name") = some x2 := e2
    replace e3 : m' (S "value") = some x3 := e3
    exact TrH.weak (Tr.toH (Tr.tuple (ds := [keyD d, pairT d]) (SpE.cons (Tr.name e1 (mono_da _) rx1) (SpE.cons (Tr.tuple (SpE.cons (Tr.name e2 (mono_da _) rx2) (SpE.cons (Tr.name e3 (mono_da _) rx3) SpE.nil))) SpE.nil)))) fun e g v r => FH.of_da rfl r
  have W4 := W3.mono hg4
  have r34 := mono_DP prog w as _ _ _ hg4 r3
  -- found
  refine St.newlist a4 (ds := []) SpE.nil rfl fun lf us n5 g5 h5 tk5 a5 hg5 ru hlf => ?_
  obtain rfl := ru.nil_inv
  have W5 := W4.mono hg5
  have r35 := mono_DP prog w as _ _ _ hg5 r34
  have r45 := mono_DP prog w bs _ _ _ hg5 r4
  have hlc : lf ≠ (L + 1 : Nat) := fun z => hlf _ (.head _) z.symm
  refine St.for (xs := (unionA as bs).map keyD) (T := fun _ => True) (fun i m mu g' => ∃ us n, m (S "found") = some (.ref lf) ∧ m (S "second") = some v4 ∧ mu = [(lf, lstO us n), ((L + 1 : Nat), o3)] ∧ RdAll g' us ((((unionA as bs).take i).filter (unl as bs)).map (rowU bs)) ∧ DP prog w as g' v3 ∧ DP prog w bs g' v4) (fun d => [(S "key", d)]) [lf, L + 1] a5
    (Ie.list hR'.hd (Tr.bcall W5 (gb_sorted _) bb_sorted (Bc.sorted hR' hasc (by omega)) (SpE.cons ?_ SpE.nil))) trivial rfl (fun d _ => Asg.name rfl rfl) ⟨[], n5, upd_self, upd_ne rfl upd_self, rfl, .nil, r35, r45⟩ (fun i m mu g g' le ⟨us, n, e1, e2, e3, e4, e5, e6⟩ => ⟨us, n, e1, e2, e3, e4.mono le, mono_DP prog w as _ _ _ le e5, mono_DP prog w bs _ _ _ le e6⟩) ?_ ?_
  · unfold unionA
    rw [List.map_append]
    refine Tr.binop (Tr.list_dict W5 hR'.hd (Tr.cell rfl (.tail _ (.head _)) ho3 (mono_DP prog w as) r35) (by omega)) (mono_da _) ?_ (Bo.add_list ?_)
    · refine Tr.comp (cl := [(S "first", L + 1)]) keyD (fun b => [(S "key", keyD b)]) (fun b => !hasK as (keyL b)) keyD (T := fun _ => True) (Ie.dict hR'.hd (Tr.name (upd_ne rfl upd_self) (mono_DP prog w bs) r45)) trivial (by omega)
        (fun C d hd => Asg.name rfl rfl) (fun C d g' m' hd hg' bd => ?_) (fun C d g' m' hd hp hg' bd => ?_) rfl (by decide) rfl (by decide)
      · obtain ⟨x1, e1, rx1⟩ := bd (S "key", keyD d) (.head _)
        replace e1 : m' (S "key") = some x1 := e1
        exact Tss.one (Ts.cmp (Tr.name e1 (mono_da _) rx1) (mono_da _) (Tr.cell rfl (.tail _ (.head _)) ho3 (mono_DP prog w as) (mono_DP prog w as _ _ _ hg' r35)) (Cp.notInD hR'))
      · obtain ⟨x1, e1, rx1⟩ := bd (S "key", keyD d) (.head _)
        replace e1 : m' (S "key") = some x1 := e1
        exact Tr.name e1 (mono_da _) rx1
    · have := List.length_filter_le (fun b => !hasK as (keyL b)) bs
      rw [List.length_map, List.length_map]; omega
  · rintro i d m mu g6 h6 tk6 E6 m6 e6 hd ⟨us, n, m1, m2, rfl, ru, r36, r46⟩ has hg6 bd same a6
    simp only [List.getElem?_map, Option.map_eq_some_iff] at hd
    obtain ⟨kk, hkk, rfl⟩ := hd
    have W6 := W.mono hg6
    have hstep := filter_take_succ (unl as bs) hkk
    have m1' : m6 (S "found") = some (.ref lf) := (same _ (show S "found" ∉ [S "key"] by decide)).trans m1
    have m2' : m6 (S "second") = some v4 := (same _ (show S "second" ∉ [S "key"] by decide)).trans m2
    obtain ⟨vk, ek, rk⟩ := bd (S "key", keyD kk) (.head _)
    replace ek : m6 (S "key") = some vk := ek
    have hus : us.length ≤ 20 := by
      have e1 := ru.length
      have e2 := List.length_filter_le (unl as bs) ((unionA as bs).take i)
      have e3 : ((unionA as bs).take i).length ≤ (unionA as bs).length := by rw [List.length_take]; exact Nat.min_le_right _ _
      rw [List.length_map] at e1
      omega
    have nf : ∀ (o : Obj), ∀ p ∈ ([((L + 1 : Nat), o)] : Mu), p.1 ≠ lf := fun o p hp => by rw [List.mem_singleton.mp hp]; exact Ne.symm hlc
    have fin : ∀ us' n' g', Le g6 g' → RdAll g' us' ((((unionA as bs).take (i + 1)).filter (unl as bs)).map (rowU bs)) → ∃ us n, m6 (S "found") = some (.ref lf) ∧ m6 (S "second") = some v4 ∧ ([(lf, lstO us' n'), ((L + 1 : Nat), o3)] : Mu) = [(lf, lstO us n), ((L + 1 : Nat), o3)] ∧ RdAll g' us ((((unionA as bs).take (i + 1)).filter (unl as bs)).map (rowU bs)) ∧ DP prog w as g' v3 ∧ DP prog w bs g' v4 := fun us' n' g' le r' =>
      ⟨us', n', m1', m2', rfl, r', mono_DP prog w as _ _ _ le r36, mono_DP prog w bs _ _ _ le r46⟩
    refine St.ite (b := !hasK bs (keyL kk)) a6 (Ts.cmp (Tr.name ek (mono_da _) rk) (mono_da _) (Tr.name m2' (mono_DP prog w bs) r46) (Cp.notInD hR')) (fun hb g7 h7 tk7 a7 hg7 => ?_) fun hb g7 h7 tk7 a7 hg7 => ?_
    · have hnone : bs.find? (fun a => decide (keyL a = keyL kk)) = none := by
        unfold hasK at hb
        cases e : bs.find? (fun a => decide (keyL a = keyL kk)) with
        | none => rfl
        | some b => rw [e] at hb; cases hb
      have hun : unl as bs kk = true := by unfold unl; rw [hnone]
      refine St.append (d := rowU bs kk) a7 m1' (nf o3) (by omega) ?_ fun v8 g8 h8 tk8 a8 hg8 r8 => St.nil (St.nil ?_)
      · unfold rowU
        rw [hnone]
        exact Tr.tuple (SpE.cons (Tr.name ek (mono_da _) (rk.mono hg7)) (SpE.cons Tr.const_none (SpE.cons Tr.const_none SpE.nil)))
      · refine for_fin a8 rfl (fin _ _ g8 (hg7.trans hg8) ?_)
        rw [hstep, hun, List.map_append]
        exact (ru.mono (hg7.trans hg8)).append (.cons r8 .nil)
    · have hsome : ∃ b, bs.find? (fun a => decide (keyL a = keyL kk)) = some b := by
        unfold hasK at hb
        cases e : bs.find? (fun a => decide (keyL a = keyL kk)) with
        | none => rw [e] at hb; cases hb
        | some b => exact ⟨b, rfl⟩
      obtain ⟨b, hbf⟩ := hsome
      have hbm := List.mem_of_find?_eq_some hbf
      have hun : unl as bs kk = !PyData.eqv (getT as kk) (pairT b) := by unfold unl; rw [hbf]
      have r37 := mono_DP prog w as _ _ _ hg7 r36
      have r47 := mono_DP prog w bs _ _ _ hg7 r46
      have rk7 := rk.mono hg7
      refine St.ite (b := !PyData.eqv (getT as kk) (pairT b)) a7 (Ts.cmp (Tr.get_cell hR' rfl (.tail _ (.head _)) ho3 r37 (Tr.name ek (mono_da _) rk7)) (mono_da _) (Tr.sub_dict hR' (Tr.name m2' (mono_DP prog w bs) r47) (Tr.name ek (mono_da _) rk7) hbf) (Cp.ne hR' (getT_shaped o1.attrs kk) (pair_shaped (o2.attrs b hbm)))) (fun hb2 g8 h8 tk8 a8 hg8 => ?_) fun hb2 g8 h8 tk8 a8 hg8 => St.nil (St.nil (St.nil ?_))
      · have r48 := mono_DP prog w bs _ _ _ hg8 r47
        have rk8 := rk7.mono hg8
        refine St.append (d := rowU bs kk) a8 m1' (nf o3) (by omega) ?_ fun v9 g9 h9 tk9 a9 hg9 r9 => St.nil (St.nil (St.nil ?_))
        · unfold rowU
          rw [hbf]
          refine Tr.tuple (SpE.cons (Tr.name ek (mono_da _) rk8) (SpE.cons ?_ (SpE.cons ?_ SpE.nil)))
          · exact Tr.sub_tuple (j := 0) (Tr.sub_dict hR' (Tr.name m2' (mono_DP prog w bs) r48) (Tr.name ek (mono_da _) rk8) hbf) Tr.const_int (by decide) (by decide) rfl rfl
          · exact Tr.sub_tuple (j := 1) (Tr.sub_dict hR' (Tr.name m2' (mono_DP prog w bs) r48) (Tr.name ek (mono_da _) rk8) hbf) Tr.const_int (by decide) (by decide) rfl rfl
        · refine for_fin a9 rfl (fin _ _ g9 (hg7.trans (hg8.trans hg9)) ?_)
          rw [hstep, hun, hb2, List.map_append]
          exact (ru.mono (hg7.trans (hg8.trans hg9))).append (.cons r9 .nil)
      · refine for_fin a8 rfl (fin _ _ g8 (hg7.trans hg8) ?_)
        rw [hstep, hun, hb2]
        simp only [Bool.false_eq_true, if_false, List.append_nil]
        exact ru.mono (hg7.trans hg8)
  · rintro m mu g6 h6 tk6 ⟨us, n, m1, m2, rfl, ru, _, _⟩ has a6
    rw [List.length_map, List.take_length] at ru
    refine St.retlistX a6 m1 ru (fun p hp => by rw [List.mem_singleton.mp hp]; exact Ne.symm hlc) ?_ fun g' h' tk' a' r' => k _ g' h' tk' a'.done0 r'
    exact (a6.mu _ (.head _)).2.elim (fun z => z.elim) id
def costU (f₁ f₂ : Fm) : Int := (if f₁.value == f₂.value then 0 else 1) + ((unlike f₁.attrs f₂.attrs).length : Int)
theorem own_cost_spec {N : Nat} (f₁ f₂ : Fm) (hf₁ : okF N f₁ = true) (hf₂ : okF N f₂ = true) (hasc : Asc (unionA f₁.attrs f₂.attrs)) : Pure prog w mg mb 2 66 [formD f₁, formD f₂] (Da (.int (costU f₁ f₂))) := by
  intro A s g vs Q E hR W hg r k
  obtain ⟨v, u, rfl, r1, r2⟩ := r.two
  have hz := sizeLine_eq
  refine call_at (binds := [(S "one", v), (S "other", u)]) (mu := []) (X := NoX) hR W hg (fun _ h => nomatch h) rfl rfl rfl rfl rfl (by decide) (locs rfl) rfl rfl rfl fun L h₁ tk E' a hR' => ?_
  refine St.ret a (R := Da (.int (costU f₁ f₂))) ?_ fun v g' h' tk a r => k _ _ _ _ a.done0 r
  have hspec := unlike_spec (prog := prog) (w := w) (mg := mg) (mb := mb) f₁ f₂ hf₁ hf₂ hasc
  obtain ⟨N', rfl⟩ : ∃ N', N = N' + 1 := by cases N with | zero => (cases f₁; simp [okF] at hf₁) | succ N' => exact ⟨N', rfl⟩
  obtain ⟨k1, l1, v1, as, ks1⟩ := f₁
  obtain ⟨k2, l2, v2, bs, ks2⟩ := f₂
  have o1 := okF_succ hf₁
  have o2 := okF_succ hf₂
  have q1 := o1.alen; have q2 := o2.alen
  have ul : (unlike as bs).length ≤ 20 := by
    have h1 := List.length_filter_le (unl as bs) (unionA as bs)
    have h2 := List.length_filter_le (fun b => !hasK as (keyL b)) bs
    unfold unlike
    rw [List.length_map]
    unfold unionA at h1 ⊢
    rw [List.length_append] at h1
    omega
  have e1 := r1; have e2 := r2
  rw [formD_mk] at e1 e2
  have ee : costU (.mk k1 l1 v1 as ks1) (.mk k2 l2 v2 bs ks2) = (if (!(v1 == v2)) then 1 else 0) + ((unlike as bs).length : Int) := by
    show (if v1 == v2 then (0 : Int) else 1) + _ = _
    cases v1 == v2 <;> rfl
  rw [ee]
  refine Tr.binop (Tr.tcall W (gb_int _) bb_int Bc.int_bool (SpE.cons (Tr.cmp (Tr.sub_tuple (j := 2) (Tr.name rfl (mono_da _) e1) (Tr.glob W (gi_VALUE _) (mono_da _) (.int _ _)) (by decide) (by decide) rfl rfl) (mono_da _) (Tr.sub_tuple (j := 2) (Tr.name rfl (mono_da _) e2) (Tr.glob W (gi_VALUE _) (mono_da _) (.int _ _)) (by decide) (by decide) rfl rfl) ?_) SpE.nil)) (mono_da _)
    (Tr.bcall W (gb_len _) bb_len (Bc.len_list (ds := unlike as bs) (by omega)) (SpE.cons (Tr.call W hR' (gf_unlike_attributes _) (gd_unlike_attributes _) hspec (SpE.cons (Tr.name rfl (mono_da _) r1) (SpE.cons (Tr.name rfl (mono_da _) r2) SpE.nil))) SpE.nil)) Bo.add_int
  have := Cp.ne (prog := prog) (w := w) hR' (str_shaped o1.value) (str_shaped o2.value)
  rwa [PyData.eqv] at this
end

end
section
open PySem PySem.W PySem.Spec PySem.Calls PyProof.Rows

def enumD (ds : List PyData) : List PyData := List.zipWith pairD (rangeD ds.length) ds
theorem enumD_len (ds : List PyData) : (enumD ds).length = ds.length := by simp [enumD, rangeD]
theorem enumD_get {ds : List PyData} {i : Nat} {x : PyData} (h : (enumD ds)[i]? = some x) : ∃ d, ds[i]? = some d ∧ x = pairD (.int (i : Int)) d := by
  unfold enumD at h
  rw [List.getElem?_zipWith] at h
  cases e1 : (rangeD ds.length)[i]? with
  | none => rw [e1] at h; simp at h
  | some a =>
    cases e2 : ds[i]? with
    | none => rw [e1, e2] at h; simp at h
    | some d =>
      rw [e1, e2] at h
      simp only [Option.some.injEq] at h
      subst h
      refine ⟨d, rfl, ?_⟩
      unfold rangeD at e1
      simp only [List.getElem?_map, Option.map_eq_some_iff] at e1
      obtain ⟨j, hj, rfl⟩ := e1
      obtain ⟨hlt, hij⟩ := List.getElem?_eq_some_iff.mp hj
      rw [List.getElem_range] at hij
      subst hij
      rfl
section
variable {prog : Program} {w : World} {A : Around} {g : Heap}
theorem itr_enum {e it l : Addr} {us : List Value} {ds : List PyData} (hh : A.handled = none) (hne : e ≠ it) (hl : g.IsList l us.toArray) (r : RdAll g us ds) (n1 : g.get? e = none) (n2 : g.get? it = none) :
    Itr prog w A TupT g e [e, it] (enumD ds) (fun i h => (∃ old, IsEnum h e it (i : Int) old) ∧ h.IsListIter it l i ∧ Le g h) (fun i v h => (∃ (P : Addr) (item : Value), v = .ref P ∧ IsEnumOut h e it ((i : Int) + 1) item P) ∧ h.IsListIter it l (i + 1) ∧ Le g h) where
  off := fun b hb => by
    simp only [List.mem_cons, List.not_mem_nil, or_false] at hb
    rcases hb with rfl | rfl
    · exact n1
    · exact n2
  has := fun i h ⟨⟨old, he⟩, hi, _⟩ b hb => by
    simp only [List.mem_cons, List.not_mem_nil, or_false] at hb
    rcases hb with rfl | rfl
    · exact ⟨_, he⟩
    · obtain ⟨o, q, _⟩ := hi; exact ⟨o, q⟩
  frame := fun i h h' ⟨⟨old, he⟩, hi, _⟩ le k => ⟨⟨old, k e (by simp) _ he⟩, by obtain ⟨o, q, r⟩ := hi; exact ⟨o, k it (by simp) _ q, r⟩, le⟩
  item := fun i d s g₁ Q E hd ⟨⟨old, he⟩, hi, _⟩ hg hg1 hoff k => by
    obtain ⟨dd, hdd, rfl⟩ := enumD_get hd
    obtain ⟨x, hx, rx⟩ := r.get hdd
    refine wpAny_pyNext_enum_item he hi (IsList.le (hg.trans hg1) hl) (x := x) (by simpa using hx) hne fun h' q1 q2 q3 q4 q5 => ?_
    have keep : ∀ b o, ¬ b ∈ [e, it] → s.heap.get? b = some o → h'.get? b = some o := fun b o z q => q5 b o (fun y => z (by simp [y])) (fun y => z (by simp [y])) q
    obtain ⟨g2, G2, gp, _⟩ := grow_pair (X := (· ∈ [e, it])) hg1 hoff keep (fun b hb => by
      simp only [List.mem_cons, List.not_mem_nil, or_false] at hb
      rcases hb with rfl | rfl
      · exact ⟨_, q1⟩
      · obtain ⟨o, q, _⟩ := q2; exact ⟨o, q⟩) q3
    exact k _ g2 h' _ G2 ⟨⟨_, _, rfl, q1⟩, q2, hg.trans (G2.gg.trans G2.gh)⟩ (.pair gp (.int _ _) (rx.mono (hg.trans G2.gg)))
  go := fun i v target s g₁ Q E ⟨elts, kk, pos, et⟩ ⟨⟨P, item, ev, he⟩, hi, _⟩ hg hg1 hoff k => by
    subst et ev
    refine wpAny_letOwnedTupleGo_enum he fun h' he' hs => ?_
    have G := growX_of_same (fp := [e, it]) (it := e) (by simp) hg1 (hoff _ (by simp)) (fun b o z q => hs.extBut b o z q) ⟨_, he'⟩
    have e1 : ((i + 1 : Nat) : Int) = (i : Int) + 1 := by omega
    exact k h' G ⟨⟨item, by rw [e1]; exact he'⟩, hi.extBut hs.extBut (Ne.symm hne), hg.trans G.gh⟩
  done := fun s g₁ Q E ⟨⟨old, he⟩, hi, _⟩ hg hg1 hoff k => by
    rw [enumD_len] at hi he
    exact wpAny_pyNext_enum_end hh he hi (IsList.le (hg.trans hg1) hl) (by simp [r.length]) fun h' hk => k h' s.toks fun b o z q => hk b o (fun y => z (by simp [y])) q
  self := fun s Q E ⟨⟨old, he⟩, _, _⟩ hQ => wpAny_pyIter_enum he hQ
end

end
section
open PySem PySem.W PySem.Spec PySem.Calls PyProof.Rows

def toldD (as : List Atr) (k : Atr) : PyData := .list ((as.filter fun a => PyData.eqv (keyD a) (keyD k)).map fun a => .list [.str a.name, .str a.value])
def stepB (as bs : List Atr) (i : Nat) (k : Atr) : Bool := (!(((as ++ bs).map keyD).take i).any fun y => PyData.eqv y (keyD k)) && (!PyData.eqv (toldD as k) (toldD bs k))
def cntL (as bs : List Atr) : Nat → Int
  | 0 => 0
  | i + 1 => cntL as bs i + (match (as ++ bs)[i]? with | some k => if stepB as bs i k then 1 else 0 | none => 0)
def costL (f₁ f₂ : Fm) : Int := cntL f₁.attrs f₂.attrs (f₁.attrs ++ f₂.attrs).length + (if f₁.value == f₂.value then 0 else 1)
theorem key_shaped {a : Atr} (h : atrOk a = true) : SeqAt.shaped (keyD a) = true := shaped_of (n := 1) (key_lay h).1 (key_lay h).2 (by decide)
theorem told_shaped {as : List Atr} (h : ∀ a ∈ as, atrOk a = true) (k : Atr) : SeqAt.shaped (toldD as k) = true := by
  have c : ∀ a ∈ as, (PyData.list [.str a.name, .str a.value]).canLay0 = true ∧ (PyData.list [.str a.name, .str a.value]).depth ≤ 1 := fun a ha => by
    have := h a ha
    simp only [atrOk, Bool.and_eq_true] at this
    simp only [PyData.canLay0, PyData.canLayAll0, tok_ok this.1.2, tok_ok this.2, PyData.depth, PyData.depthAll]
    exact ⟨by decide, by decide⟩
  have m : ∀ a ∈ as.filter (fun a => PyData.eqv (keyD a) (keyD k)), a ∈ as := fun a ha => (List.mem_filter.mp ha).1
  refine shaped_of (n := 2) ?_ ?_ (by decide)
  · unfold toldD; rw [PyData.canLay0]; exact canLay_all fun a ha => (c a (m a ha)).1
  · unfold toldD; rw [PyData.depth]; have := depth_all (f := fun a : Atr => PyData.list [.str a.name, .str a.value]) fun a ha => (c a (m a ha)).2; omega
theorem keys_lay {as : List Atr} (h : ∀ a ∈ as, atrOk a = true) (i : Nat) : PyData.canLayAll0 ((as.map keyD).take i) = true := by
  rw [← List.map_take]
  exact canLay_all fun a ha => (key_lay (h a (List.mem_of_mem_take ha))).1
section
variable {prog : Program} {w : World} {mg mb : Str → Option Value}
set_option maxHeartbeats 4000000 in
theorem law_cost_spec {N : Nat} (f₁ f₂ : Fm) (hf₁ : okF N f₁ = true) (hf₂ : okF N f₂ = true) : Pure prog w mg mb 1 126 [rowsD f₁, rowsD f₂] (Da (.int (costL f₁ f₂))) := by
  intro A s g vs Q E hR W hg r k
  obtain ⟨v, u, rfl, r1, r2⟩ := r.two
  obtain ⟨N', rfl⟩ : ∃ N', N = N' + 1 := by cases N with | zero => (cases f₁; simp [okF] at hf₁) | succ N' => exact ⟨N', rfl⟩
  obtain ⟨k1, l1, v1, as, ks1⟩ := f₁
  obtain ⟨k2, l2, v2, bs, ks2⟩ := f₂
  have o1 := okF_succ hf₁
  have o2 := okF_succ hf₂
  have hz := sizeLine_eq
  have q1 := o1.alen; have q2 := o2.alen
  have okU : ∀ a ∈ as ++ bs, atrOk a = true := fun a ha => (List.mem_append.mp ha).elim (o1.attrs a) (o2.attrs a)
  have uLen : (as ++ bs).length ≤ 20 := by rw [List.length_append]; omega
  rw [rowsD_mk] at r1 r2
  change ∀ v g' h' tk, Grow g s.heap g' h' → Da (.int (cntL as bs (as ++ bs).length + (if v1 == v2 then 0 else 1))) g' v → _ at k
  refine call_atC (cx := S "key") (binds := [(S "one", v), (S "other", u)]) (mu := []) (X := NoX) hR W hg (fun _ h => nomatch h) rfl rfl rfl rfl rfl rfl (fun _ => rfl)
    (fun x hx => .inl (by simp only [List.mem_cons, List.not_mem_nil, or_false] at hx; rcases hx with rfl | rfl <;> rfl)) rfl rfl rfl fun L h₁ tk E' oc hoc hLc a hR' => ?_
  refine St.assign2 (R1 := FH (.list ((as ++ bs).map keyD))) (R2 := Da (.int 0)) hR'.hd a ?_ (monoH_FH _) Tr.const_int (mono_da _) fun v3 v4 g2 h2 tk2 a2 hg2 fk r4 => ?_
  · refine TrH.comp0 (cl := []) atrL (fun f => [(S "row", atrL f)]) keyD (T := fun _ => True) (Ie.list hR'.hd ?_) trivial (by omega) (fun C d hd => Asg.name rfl rfl) (fun C d g' m' hd hg' bd => ?_) rfl (by decide) rfl (by decide)
    · rw [List.map_append]
      exact Tr.binop (Tr.sub_list (Tr.name rfl (mono_da _) r1) Tr.const_int (by decide) (by decide) rfl) (mono_da _) (Tr.sub_list (Tr.name rfl (mono_da _) r2) Tr.const_int (by decide) (by decide) rfl) (Bo.add_list (by rw [List.length_map, List.length_map]; omega))
    · obtain ⟨x1, e1, rx1⟩ := bd (S "row", atrL d) (.head _)
      replace e1 : m' (S "row") = some x1 := e1
      exact TrH.weak (Tr.toH (Tr.sub_list (ds := [keyD d, .str d.name, .str d.value]) (Tr.name e1 (mono_da _) rx1) Tr.const_int (by decide) (by decide) rfl)) fun e g v r => FH.of_da rfl r
  obtain ⟨t4, rfl⟩ := r4.int_inv
  obtain ⟨ls, fp, _, _⟩ := fk
  obtain ⟨lk, us, nk, ls', rfl, _, ek, fpA⟩ := fp.list_inv
  have rus := fpA.rd
  have W2 := W.mono hg2
  have r12 := r1.mono hg2
  have r22 := r2.mono hg2
  refine wpAny_execs_cons (wpAny_For (wpAny_Call_NameR ((Tr.bltn (R := fun _ v => v = .type "enumerate") W2 (gb_enumerate w) bb_enumerate (by decide) (fun _ _ _ _ r => r) rfl) _ g2 _ _ (Le.refl _) a2.sit fun vE g3 h3 tk3 G3 rE => ?_)) (by intro _; rfl))
  subst rE
  have a3 := a2.grow G3
  refine PyProof.Rows.callWith_type1 (args_cons ((Tr.name (R := fun _ v => v = .ref lk) upd_self (mono_ref lk) rfl) _ g3 _ _ (Le.refl _) a3.sit fun vK g4 h4 tk4 G4 rK => args_nil ?_) rfl) rfl rfl
  subst rK
  have a4 := a3.grow G4
  have hG := G3.gg.trans G4.gg
  refine call_enumerate_1 (a4.le _ _ (hG _ _ ek)) fun h5 he hi hsz5 keep5 => ?_
  have G5 : Grow g4 h4 g4 h5 := Grow.of_le a4.le keep5
  have a5 := a4.grow G5
  refine wpAny_pyIter_enum he ?_
  have gN : ∀ b, h4.objs.size ≤ b → g4.get? b = none := fun b hb => a4.le.none (Heap.get?_none_of_le hb)
  have hN : ∀ b, h4.objs.size ≤ b → h4.get? b = none := fun b hb => Heap.get?_none_of_le hb
  have r15 := r12.mono hG
  have r25 := r22.mono hG
  obtain ⟨Fx, hFx⟩ : ∃ Fx : Heap → Prop, Fx = fun g => g.get? lk = some (lstO us nk) ∧ RdAll g us ((as ++ bs).map keyD) ∧ Rd g v (.list [.str k1, labD l1, .str v1, .list (as.map atrL), .list (ks1.map rowsD)]) ∧ Rd g u (.list [.str k2, labD l2, .str v2, .list (bs.map atrL), .list (ks2.map rowsD)]) := ⟨_, rfl⟩
  have fmono : ∀ g g', Le g g' → Fx g → Fx g' := fun g g' le h => by rw [hFx] at *; exact ⟨le _ _ h.1, h.2.1.mono le, h.2.2.1.mono le, h.2.2.2.mono le⟩
  have f4 : Fx g4 := by rw [hFx]; exact ⟨hG _ _ ek, rus.mono hG, r15, r25⟩
  refine for_loop (T := TupT) (fp := [h4.objs.size + 1, h4.objs.size]) (fun i m mu g => ∃ oc' xc c t, m (S "keys") = some (.ref lk) ∧ m (S "many") = some (.int c t) ∧ m (S "one") = some v ∧ m (S "other") = some u ∧ mu = [((L + 1 : Nat), oc')] ∧ oc'.data = .cell xc ∧ c = cntL as bs i ∧ Fx g)
    (fun i d m mu g => ∃ kk oc' vk c t ta, (as ++ bs)[i]? = some kk ∧ Rd g vk (keyD kk) ∧ m (S "at") = some (.int (i : Int) ta) ∧ m (S "keys") = some (.ref lk) ∧ m (S "many") = some (.int c t) ∧ m (S "one") = some v ∧ m (S "other") = some u ∧ mu = [((L + 1 : Nat), oc')] ∧ oc'.data = .cell (some vk) ∧ c = cntL as bs i ∧ Fx g) [L + 1]
    (itr_enum (e := h4.objs.size + 1) (it := h4.objs.size) (ds := (as ++ bs).map keyD) hR'.hd (Nat.succ_ne_self _) (isList_of (hG _ _ ek)) (rus.mono hG) (gN _ (Nat.le_succ _)) (gN _ (Nat.le_refl _))) ⟨⟨_, he⟩, hi, a5.le⟩ a5 (fun b hb => ?_) (fun b hb => ?_) (fun b hb => ?_) ⟨_, _, _, rfl⟩ rfl (fun i d vt m mu g6 h6 tk6 Q' E6 hd a6 ⟨oc', xc, c, t, e1, e2, e3, e4, em, e5, e6, e7⟩ hm rv kk => ?_)
    ⟨oc, none, 0, t4, upd_self, upd_ne rfl upd_self, upd_ne rfl (upd_ne rfl rfl), upd_ne rfl (upd_ne rfl rfl), rfl, hoc, rfl, f4⟩ (fun i m mu g g' le ⟨oc', xc, c, t, e1, e2, e3, e4, e5, e6, e7, e8⟩ => ⟨oc', xc, c, t, e1, e2, e3, e4, e5, e6, e7, fmono _ _ le e8⟩) (fun i d m mu g6 h6 tk6 E6 e6 hd ⟨kk, oc', vk, c, t, ta, hkk, rk, m1, m2, m3, m4, m5, em, ho, hc, hf⟩ hm hle a6 => ?_) (fun m mu g6 h6 tk6 ⟨oc', xc, c, t, e1, e2, e3, e4, em, e5, e6, e7⟩ hm a6 => ?_)
  · simp only [List.mem_cons, List.not_mem_nil, or_false] at hb
    obtain ⟨o, _, _, q, _⟩ := a4.sit.ns
    intro zL
    have q2 : h4.get? b = some o := by rw [zL]; exact q
    rcases hb with z | z
    · rw [z, hN _ (Nat.le_succ _)] at q2; cases q2
    · rw [z, hN _ (Nat.le_refl _)] at q2; cases q2
  · simp only [List.mem_cons, List.not_mem_nil, or_false] at hb
    rcases hb with rfl | rfl
    · exact a4.heap_none (hN _ (Nat.le_succ _))
    · exact a4.heap_none (hN _ (Nat.le_refl _))
  · simp only [List.mem_cons, List.not_mem_nil, or_false] at hb
    have q := (a4.sit.mu _ (.head _)).1
    intro hz
    have hz2 := List.mem_singleton.mp hz
    subst hz2
    rcases hb with z | z
    · rw [z, hN _ (Nat.le_succ _)] at q; cases q
    · rw [z, hN _ (Nat.le_refl _)] at q; cases q
  · -- the target
    subst em
    obtain ⟨dd, hdd, rfl⟩ := enumD_get hd
    simp only [List.getElem?_map, Option.map_eq_some_iff] at hdd
    obtain ⟨kA, hkA, rfl⟩ := hdd
    obtain ⟨P, ps, rfl, htp, rps⟩ := rv.tuple_inv
    obtain ⟨vi, vk, rfl, ri, rk⟩ := rps.two
    obtain ⟨ti, rfl⟩ := ri.int_inv
    refine wpAny_assign_Tuple hR'.hd (isTuple_of (IsTup.le a6.le htp)) rfl rfl fun h7 ext => ?_
    have le7 : Le h6 h7 := fun b o e => ext b o (Nat.ne_of_lt (Heap.lt_size e)) e
    have a7 := a6.grow (Grow.of_le a6.le le7)
    refine wpAny_bind (wpAny_holding (wpAny_assign_Name (wpAny_storeName_local rfl a7.sit.ns (fun h8 hn8 hs8 => ?_) rfl)))
    have a8 := a7.store hn8 hs8
    refine wpAny_bind (wpAny_holding (wpAny_assign_Name (wpAny_storeName_cell rfl rfl (c := (L + 1 : Nat)) rfl ⟨oc', (a8.sit.mu _ (.head _)).1, e5⟩ fun h9 ⟨o9, e9, d9⟩ hs9 => wpAny_pure ?_)))
    have a9 := a8.turn (fun _ h => nomatch h) hs9 e9
    refine kk (upd m (S "at") (.int (i : Int) ti)) [((L + 1 : Nat), o9)] h9 _ a9 rfl ⟨Le.refl _, a9.le, fun b o nb e => ?_, fun b o e => ?_, fun _ _ _ z => z⟩ ⟨kA, o9, vk, c, t, ti, hkA, rk, upd_self, upd_ne rfl e1, upd_ne rfl e2, upd_ne rfl e3, upd_ne rfl e4, rfl, d9, e6, e7⟩
    · exact (hs9.2 b fun z => nb (.inr (by rw [z]; exact .head _))).trans ((hs8.2 b fun z => nb (.inl z)).trans (le7 b o e))
    · by_cases z : b = (L + 1 : Nat)
      · subst z; exact ⟨o9, e9⟩
      · by_cases z2 : b = L
        · have := a9.sit.ns
          obtain ⟨oL, _, _, qL, _⟩ := this
          subst z2; exact ⟨oL, qL⟩
        · exact ⟨o, (hs9.2 b z).trans ((hs8.2 b z2).trans (le7 b o e))⟩
  · -- the turn
    subst em
    have hf0 := hf
    rw [hFx] at hf0
    obtain ⟨fk0, fk1, fk2, fk3⟩ := hf0
    have okk := okU kk (List.mem_of_getElem? hkk)
    have W6 := W.mono hle
    refine St.comp (T := fun _ => True) (cl := [(S "key", L + 1)]) (fun d => [(S "rows", d)]) [L + 1] (fun xs mu' g' => xs = [.list [.str k1, labD l1, .str v1, .list (as.map atrL), .list (ks1.map rowsD)], .list [.str k2, labD l2, .str v2, .list (bs.map atrL), .list (ks2.map rowsD)]] ∧ mu' = [((L + 1 : Nat), oc')] ∧ Rd g' vk (keyD kk) ∧ Fx g')
      (fun xs i mu' g' ys => xs = [.list [.str k1, labD l1, .str v1, .list (as.map atrL), .list (ks1.map rowsD)], .list [.str k2, labD l2, .str v2, .list (bs.map atrL), .list (ks2.map rowsD)]] ∧ mu' = [((L + 1 : Nat), oc')] ∧ Rd g' vk (keyD kk) ∧ Fx g' ∧ ys = [toldD as kk, toldD bs kk].take i) a6
      (fun Q' kq => ?_) trivial (fun xs mu g C d _ _ => Asg.name rfl rfl) (fun xs mu g ⟨e, _⟩ => by rw [e]; exact Nat.le_of_ble_eq_true rfl) (fun xs mu' g' g2 ⟨e1, e2, e3, e4⟩ le => ⟨e1, e2, e3.mono le, fmono _ _ le e4, rfl⟩) (fun xs i mu g g' ys le ⟨e1, e2, e3, e4, e5⟩ => ⟨e1, e2, e3.mono le, fmono _ _ le e4, e5⟩)
      (fun xs i2 d2 C mC mu g7 h7 tk7 E7 e7 ys hd2 ⟨exs, em, rk7, hf7, hys⟩ has hle7 bd a7 => ?_) (fun vt xs mu' g7 h7 tk7 ys a7 hg7 has rt ⟨exs, em, rk7, hf7, hys⟩ => ?_) rfl rfl (by decide) rfl (by decide)
    · refine (Tr.list (SpE.cons (Tr.name m4 (mono_da _) fk2) (SpE.cons (Tr.name m5 (mono_da _) fk3) SpE.nil))) _ g6 _ _ (Le.refl _) a6.sit fun vl g7 h7 tk7 G7 r7 => ?_
      obtain ⟨ax, uss, rfl, hL, ra⟩ := r7.list_inv
      have a7 := a6.grow G7
      refine At.iterList (T := fun _ => True) hR'.hd a7 hL ra (as := [L + 1]) rfl fun it fp St Mid h8 a8 It st0 fresh => ?_
      exact kq it fp St Mid _ _ g7 h8 tk7 a8 G7.gg It st0 fresh rfl ⟨rfl, rfl, rk.mono G7.gg, fmono _ _ G7.gg hf⟩
    · subst em
      rw [exs] at hd2
      obtain ⟨cs, kx, lx, vx, kids, hcs, hcl, hd2', hys'⟩ : ∃ (cs : List Atr) (kx : Str) (lx : Option Str) (vx : Str) (kids : List Fm), (∀ a ∈ cs, atrOk a = true) ∧ cs.length ≤ 10 ∧ d2 = .list [.str kx, labD lx, .str vx, .list (cs.map atrL), .list (kids.map rowsD)] ∧ ys ++ [toldD cs kk] = [toldD as kk, toldD bs kk].take (i2 + 1) := by
        match i2, hd2, hys with
        | 0, hd2, hys => exact ⟨as, k1, l1, v1, ks1, o1.attrs, q1, by simpa using hd2.symm, by rw [hys]; rfl⟩
        | 1, hd2, hys => exact ⟨bs, k2, l2, v2, ks2, o2.attrs, q2, by simpa using hd2.symm, by rw [hys]; rfl⟩
        | i2 + 2, hd2, hys => simp at hd2
      obtain ⟨xr, er, rr⟩ := bd (S "rows", d2) (.head _)
      replace er : mC (S "rows") = some xr := er
      rw [hd2'] at rr
      refine (Tr.comp (cl := [(S "key", L + 1)]) (m := mC) (mu := [((L + 1 : Nat), oc')]) atrL (fun a => [(S "row", atrL a)]) (fun a => PyData.eqv (keyD a) (keyD kk)) (fun a => .list [.str a.name, .str a.value]) (T := fun _ => True) (xs := cs) (Ie.list hR'.hd (Tr.sub_list (Tr.name er (mono_da _) rr) Tr.const_int (by decide) (by decide) rfl)) trivial (by omega)
        (fun C d hd => Asg.name rfl rfl) (fun C2 d3 g8 m8 hd3 hg8 bd3 => ?_) (fun C2 d3 g8 m8 hd3 hp3 hg8 bd3 => ?_) rfl (by decide) rfl (by decide)) _ g7 _ _ (Le.refl _) a7.sit fun vv g8 h8 tk8 G8 r8 => ⟨[((L + 1 : Nat), oc')], g8, h8, tk8, toldD cs kk, rfl, a7.grow G8, rfl, r8, exs, rfl, rk7.mono G8.gg, fmono _ _ G8.gg hf7, hys'⟩
      · obtain ⟨x1, e1, rx1⟩ := bd3 (S "row", atrL d3) (.head _)
        replace e1 : m8 (S "row") = some x1 := e1
        exact Tss.one (Ts.cmp (Tr.sub_list (ds := [keyD d3, .str d3.name, .str d3.value]) (Tr.name e1 (mono_da _) rx1) Tr.const_int (by decide) (by decide) rfl) (mono_da _) (Tr.cell rfl (.head _) ho (mono_da _) (rk7.mono hg8)) (Cp.eq hR' (key_shaped (hcs d3 hd3)) (key_shaped okk)))
      · obtain ⟨x1, e1, rx1⟩ := bd3 (S "row", atrL d3) (.head _)
        replace e1 : m8 (S "row") = some x1 := e1
        exact Tr.slice_from (j := 1) (ds := [keyD d3, .str d3.name, .str d3.value]) (Tr.name e1 (mono_da _) rx1) Tr.const_int (Nat.le_of_ble_eq_true rfl)
    · subst em exs
      have hys2 : ys = [toldD as kk, toldD bs kk] := hys
      subst hys2
      rw [hFx] at hf7
      obtain ⟨gk0, gk1, gk2, gk3⟩ := hf7
      have hkeys : Rd g7 (.ref lk) (.list ((as ++ bs).map keyD)) := .list (isList_of gk0) gk1
      refine St.assign (R := Da (.int (cntL as bs (i + 1)))) a7 ?_ fun v8 g8 h8 tk8 a8 hg8 r8 => St.nil ?_
      · have e1 : cntL as bs (i + 1) = c + (if stepB as bs i kk then 1 else 0) := by rw [cntL, hkk, hc]
        rw [e1]
        refine Tr.binop (Tr.name (upd_ne rfl m3) (mono_da _) (.int _ _)) (mono_da _) (Tr.tcall (W6.mono hg7) (gb_int _) bb_int Bc.int_bool (SpE.cons (Tr.and2 (a := !(((as ++ bs).map keyD).take i).any fun y => PyData.eqv y (keyD kk)) (b := !PyData.eqv (toldD as kk) (toldD bs kk)) ?_ fun _ => ?_) SpE.nil)) Bo.add_int
        · exact Tr.cmp (Tr.cell rfl (.head _) ho (mono_da _) rk7) (mono_da _) (Tr.slice_to (j := i) (Tr.name (upd_ne rfl m2) (mono_da _) hkeys) (Tr.name (upd_ne rfl m1) (mono_da _) (.int _ _)) (by rw [List.length_map]; omega)) (Cp.notIn hR' (key_shaped okk) (keys_lay okU i))
        · exact Tr.cmp (Tr.sub_list (Tr.name upd_self (mono_da _) rt) Tr.const_int (by decide) (by decide) rfl) (mono_da _) (Tr.sub_list (Tr.name upd_self (mono_da _) rt) Tr.const_int (by decide) (by decide) rfl) (Cp.ne hR' (told_shaped o1.attrs kk) (told_shaped o2.attrs kk))
      · obtain ⟨t8, rfl⟩ := r8.int_inv
        refine ⟨_, _, g8, h8, tk8, rfl, a8, rfl, oc', some vk, _, t8, upd_ne rfl (upd_ne rfl m2), upd_self, upd_ne rfl (upd_ne rfl m4), upd_ne rfl (upd_ne rfl m5), rfl, ho, rfl, fmono _ _ hg8 ?_⟩
        rw [hFx]; exact ⟨gk0, gk1, gk2, gk3⟩
  · subst em
    rw [enumD_len, List.length_map] at e6
    rw [hFx] at e7
    obtain ⟨_, _, ra, rb⟩ := e7
    rw [← e6] at k
    refine St.ret a6 (R := Da (.int (c + (if v1 == v2 then 0 else 1)))) ?_ fun v' g' h' tk a r => k _ _ _ _ a.done0 r
    have hle : Le g g6 := a6.gr.gg
    have ee : (if v1 == v2 then (0 : Int) else 1) = (if (!(v1 == v2)) then 1 else 0) := by cases v1 == v2 <;> rfl
    rw [ee]
    refine Tr.binop (Tr.name e2 (mono_da _) (.int _ _)) (mono_da _) (Tr.tcall (W.mono hle) (gb_int _) bb_int Bc.int_bool (SpE.cons (Tr.cmp (Tr.sub_list (Tr.name e3 (mono_da _) ra) Tr.const_int (by decide) (by decide) rfl) (mono_da _) (Tr.sub_list (Tr.name e4 (mono_da _) rb) Tr.const_int (by decide) (by decide) rfl) ?_) SpE.nil)) Bo.add_int
    have := Cp.ne (prog := prog) (w := w) hR' (str_shaped o1.value) (str_shaped o2.value)
    rwa [PyData.eqv] at this
end

end
section
open PySem PySem.W PySem.Spec PySem.Calls PyProof.Rows

theorem bool_shaped (b : Bool) : SeqAt.shaped (.bool b) = true := by cases b <;> decide +kernel
theorem eqv_bool (a b : Bool) : PyData.eqv (.bool a) (.bool b) = (a == b) := by rw [PyData.eqv]
theorem row_shaped {n : Nat} (hn : n ≤ 4) {f : Fm} (h : okF n f = true) : SeqAt.shaped (rowsD f) = true := shaped_of (n := 2 * n + 4) (rows_lay n f h).1 (rows_lay n f h).2 (by omega)
theorem form_shaped {n : Nat} (hn : n ≤ 4) {f : Fm} (h : okF n f = true) : SeqAt.shaped (formD f) = true := shaped_of (n := 2 * n + 4) (form_lay n f h).1 (form_lay n f h).2 (by omega)
theorem eqv_rowsL (ks ks' : List Fm) : PyData.eqv (.list (ks.map rowsD)) (.list (ks'.map rowsD)) = sameAll ks ks' := by rw [PyData.eqv, ← rowsAll_eq, ← rowsAll_eq, eqvAll_rows]
theorem eqv_formsL (ks ks' : List Fm) : PyData.eqv (.list (ks.map formD)) (.list (ks'.map formD)) = sameAll ks ks' := by rw [PyData.eqv, ← formAll_eq, ← formAll_eq, eqvAll_forms]
section
variable {prog : Program} {w : World} {mg mb : Str → Option Value}
set_option maxHeartbeats 4000000 in
theorem law_right_spec {N : Nat} (hN : N ≤ 3) (f₁ f₂ : Fm) (hf₁ : okF (N + 1) f₁ = true) (hf₂ : okF (N + 1) f₂ = true) (hasc : Asc (unionA f₁.attrs f₂.attrs)) (hcost : costU f₁ f₂ = costL f₁ f₂) (hsum : sumV (f₁.kids ++ f₂.kids) ≤ 1000) :
    Pure prog w mg mb 5 138 [rowsD f₁, rowsD f₂] (Da (.bool true)) := by
  intro A s g vs Q E hR W hg r k
  obtain ⟨v, u, rfl, r1, r2⟩ := r.two
  have hz := sizeLine_eq
  have hN4 : N + 1 ≤ 4 := by omega
  obtain ⟨k1, l1, v1, as, ks1⟩ := f₁
  obtain ⟨k2, l2, v2, bs, ks2⟩ := f₂
  have o1 := okF_succ hf₁
  have o2 := okF_succ hf₂
  have q1 := o1.klen; have q2 := o2.klen
  change sumV (ks1 ++ ks2) ≤ 1000 at hsum
  refine call_at (binds := [(S "one", v), (S "other", u)]) (mu := []) (X := NoX) hR W hg (fun _ h => nomatch h) rfl rfl rfl rfl rfl (by decide) (locs rfl) rfl rfl rfl fun L h₁ tk E' a hR' => ?_
  refine St.assign2 (R1 := fun _ => Da (formD (.mk k1 l1 v1 as ks1))) (R2 := Da (formD (.mk k2 l2 v2 bs ks2))) hR'.hd a (Tr.toH (Tr.call W (hR'.le (by omega)) (gf_law_built _) (gd_law_built _) (law_built_spec (N + 1) _ hf₁) (SpE.cons (Tr.name rfl (mono_da _) r1) SpE.nil))) (fun _ g g' v le h => h.mono le)
    (Tr.call W (hR'.le (by omega)) (gf_law_built _) (gd_law_built _) (law_built_spec (N + 1) _ hf₂) (SpE.cons (Tr.name rfl (mono_da _) r2) SpE.nil)) (mono_da _) fun x1 x2 g2 h2 tk2 a2 hg2 p1 p2 => ?_
  have W2 := W.mono hg2
  have r12 := r1.mono hg2
  have r22 := r2.mono hg2
  have hR1 := hR'.le (k := 1) (by omega)
  have hR2 := hR'.le (k := 2) (by omega)
  have hR3 := hR'.le (k := N + 1) (by omega)
  -- is_same, own_cost
  refine St.ite (b := (!(sameF (.mk k1 l1 v1 as ks1) (.mk k2 l2 v2 bs ks2) == PyData.eqv (rowsD (.mk k1 l1 v1 as ks1)) (rowsD (.mk k2 l2 v2 bs ks2)))) || ((!(costU (.mk k1 l1 v1 as ks1) (.mk k2 l2 v2 bs ks2) == costL (.mk k1 l1 v1 as ks1) (.mk k2 l2 v2 bs ks2))) || false)) a2 (Ts.or ?_ fun _ => Ts.or ?_ fun _ => Ts.or_nil) (fun hb => ?_) fun hb g3 h3 tk3 a3 hg3 => St.nil ?_
  · have c1 := Cp.ne (prog := prog) (w := w) hR' (bool_shaped (sameF (.mk k1 l1 v1 as ks1) (.mk k2 l2 v2 bs ks2))) (bool_shaped (PyData.eqv (rowsD (.mk k1 l1 v1 as ks1)) (rowsD (.mk k2 l2 v2 bs ks2))))
    rw [eqv_bool] at c1
    exact Ts.cmp (Tr.call W2 hR1 (gf_is_same _) (gd_is_same _) (is_same_spec hN4 _ _ hf₁ hf₂) (SpE.cons (Tr.name upd_self (mono_da _) p1) (SpE.cons (Tr.name (upd_ne rfl upd_self) (mono_da _) p2) SpE.nil))) (mono_da _) (Tr.cmp (Tr.name (upd_ne rfl (upd_ne rfl rfl)) (mono_da _) r12) (mono_da _) (Tr.name (upd_ne rfl (upd_ne rfl rfl)) (mono_da _) r22) (Cp.eq hR' (row_shaped hN4 hf₁) (row_shaped hN4 hf₂))) c1
  · have c1 := Cp.ne (prog := prog) (w := w) hR' (int_shaped (costU (.mk k1 l1 v1 as ks1) (.mk k2 l2 v2 bs ks2))) (int_shaped (costL (.mk k1 l1 v1 as ks1) (.mk k2 l2 v2 bs ks2)))
    rw [eqv_int] at c1
    exact Ts.cmp (Tr.call W2 hR2 (gf_own_cost _) (gd_own_cost _) (own_cost_spec _ _ hf₁ hf₂ hasc) (SpE.cons (Tr.name upd_self (mono_da _) p1) (SpE.cons (Tr.name (upd_ne rfl upd_self) (mono_da _) p2) SpE.nil))) (mono_da _) (Tr.call W2 hR1 (gf_law_cost _) (gd_law_cost _) (law_cost_spec _ _ hf₁ hf₂) (SpE.cons (Tr.name (upd_ne rfl (upd_ne rfl rfl)) (mono_da _) r12) (SpE.cons (Tr.name (upd_ne rfl (upd_ne rfl rfl)) (mono_da _) r22) SpE.nil))) c1
  · rw [eqv_rows, hcost] at hb; simp at hb
  have W3 := W2.mono hg3
  have r13 := r12.mono hg3
  have r23 := r22.mono hg3
  have p13 := p1.mono hg3
  have p23 := p2.mono hg3
  have t13 := r13
  have t23 := r23
  rw [rowsD_mk] at t13 t23
  have u13 := p13
  have u23 := p23
  rw [formD_mk] at u13 u23
  try dsimp only
  -- size_of, are_same
  refine St.ite (b := (!(countF (.mk k1 l1 v1 as ks1) == countF (.mk k1 l1 v1 as ks1))) || ((!(sameAll ks1 ks2 == PyData.eqv (.list (ks1.map rowsD)) (.list (ks2.map rowsD)))) || false)) a3 (Ts.or ?_ fun _ => Ts.or ?_ fun _ => Ts.or_nil) (fun hb => ?_) fun hb g4 h4 tk4 a4 hg4 => St.nil ?_
  · have c1 := Cp.ne (prog := prog) (w := w) hR' (int_shaped (countF (.mk k1 l1 v1 as ks1))) (int_shaped (countF (.mk k1 l1 v1 as ks1)))
    rw [eqv_int] at c1
    exact Ts.cmp (Tr.call W3 hR1 (gf_size_of _) (gd_size_of _) (size_of_spec hN4 _ hf₁) (SpE.cons (Tr.name upd_self (mono_da _) p13) SpE.nil)) (mono_da _) (Tr.call W3 hR3 (gf_law_many _) (gd_law_many _) (law_many_spec (N + 1) _ hf₁) (SpE.cons (Tr.name (upd_ne rfl (upd_ne rfl rfl)) (mono_da _) r13) SpE.nil)) c1
  · have c1 := Cp.ne (prog := prog) (w := w) hR' (bool_shaped (sameAll ks1 ks2)) (bool_shaped (PyData.eqv (.list (ks1.map rowsD)) (.list (ks2.map rowsD))))
    rw [eqv_bool] at c1
    exact Ts.cmp (Tr.call W3 hR2 (gf_are_same _) (gd_are_same _) (are_same_spec (N := N) (by omega) ks1 ks2 o1.kids o2.kids (by omega) (by omega)) (SpE.cons (Tr.sub_tuple (j := 4) (Tr.name upd_self (mono_da _) u13) Tr.const_int (by decide) (by decide) rfl rfl) (SpE.cons (Tr.sub_tuple (j := 4) (Tr.name (upd_ne rfl upd_self) (mono_da _) u23) Tr.const_int (by decide) (by decide) rfl rfl) SpE.nil))) (mono_da _)
      (Tr.cmp (Tr.sub_list (Tr.name (upd_ne rfl (upd_ne rfl rfl)) (mono_da _) t13) Tr.const_int (by decide) (by decide) rfl) (mono_da _) (Tr.sub_list (Tr.name (upd_ne rfl (upd_ne rfl rfl)) (mono_da _) t23) Tr.const_int (by decide) (by decide) rfl) (Cp.eq hR' (rows_shaped (n := N) (by omega) o1.kids) (rows_shaped (n := N) (by omega) o2.kids))) c1
  · rw [eqv_rowsL] at hb; simp at hb
  have W4 := W3.mono hg4
  have r14 := t13.mono hg4
  have r24 := t23.mono hg4
  have p14 := u13.mono hg4
  have p24 := u23.mono hg4
  try dsimp only
  -- with_children
  have okW : okF (N + 1) (.mk k1 l1 v1 as ks2) = true := by
    rw [okF]
    simp only [Bool.and_eq_true, decide_eq_true_eq, List.all_eq_true]
    exact ⟨⟨⟨⟨⟨⟨⟨o1.kind, o1.label⟩, o1.value⟩, o1.alen⟩, o1.attrs⟩, o1.nodup⟩, o2.klen⟩, o2.kids⟩
  refine St.ite (b := !PyData.eqv (formD (.mk k1 l1 v1 as ks2)) (formD (.mk k1 l1 v1 as ks2))) a4 (Ts.cmp (P := Da (formD (.mk k1 l1 v1 as ks2))) (R := Da (formD (.mk k1 l1 v1 as ks2))) ?_ (mono_da _) ?_ (Cp.ne hR' (form_shaped hN4 okW) (form_shaped hN4 okW))) (fun hb => ?_) fun hb g5 h5 tk5 a5 hg5 => St.nil ?_
  · rw [formD_mk]
    exact Tr.call W4 hR1 (gf_with_children _) (gd_with_children _) (with_children_spec _ _ _ _ _ (ks2.map formD) (by rw [List.length_map]; omega)) (SpE.cons (Tr.name upd_self (mono_da _) p14) (SpE.cons (Tr.tcall W4 (gb_list _) bb_list (Bc.list_seq (.inr rfl) (by rw [List.length_map]; omega)) (SpE.cons (Tr.sub_tuple (j := 4) (Tr.name (upd_ne rfl upd_self) (mono_da _) p24) Tr.const_int (by decide) (by decide) rfl rfl) SpE.nil)) SpE.nil))
  · refine Tr.call W4 hR3 (gf_law_built _) (gd_law_built _) (law_built_spec (N + 1) _ okW) (SpE.cons ?_ SpE.nil)
    rw [rowsD_mk]
    exact Tr.binop (Tr.slice_to (j := 4) (Tr.name (upd_ne rfl (upd_ne rfl rfl)) (mono_da _) r14) Tr.const_int (Nat.le_of_ble_eq_true rfl)) (mono_da _) (Tr.list (SpE.cons (Tr.sub_list (Tr.name (upd_ne rfl (upd_ne rfl rfl)) (mono_da _) r24) Tr.const_int (by decide) (by decide) rfl) SpE.nil)) (Bo.add_list (Nat.le_of_ble_eq_true rfl))
  · rw [eqv_forms, sameF_refl] at hb; cases hb
  have W5 := W4.mono hg5
  have r15 := r14.mono hg5
  have r25 := r24.mono hg5
  have p15 := p14.mono hg5
  have p25 := p24.mono hg5
  have okC : ∀ f ∈ ks1 ++ ks2, okF N f = true := fun f hf => (List.mem_append.mp hf).elim (o1.kids f) (o2.kids f)
  have okJ := joinF_ok okC hsum
  have lenJ := joinF_len okC hsum
  have lenC : (ks1 ++ ks2).length ≤ 200 := by rw [List.length_append]; omega
  try dsimp only
  refine St.ret a5 (R := Da (.bool true)) ?_ fun v g' h' tk a r => k _ _ _ _ a.done0 r
  have et : PyData.eqv (.list ((joinF (ks1 ++ ks2)).map formD)) (.list ((joinF (ks1 ++ ks2)).map formD)) = true := by rw [eqv_formsL, sameAll_refl]
  have shJ := forms_shaped (n := N) (by omega) okJ
  have ce := Cp.eq (prog := prog) (w := w) hR' shJ shJ
  rw [et] at ce
  refine Tr.cmp (P := Da (.list ((joinF (ks1 ++ ks2)).map formD))) ?_ (mono_da _) ?_ ce
  · refine Tr.call W5 hR2 (gf_joined _) (gd_joined _) (joined_spec (N := N) (by omega) (ks1 ++ ks2) okC hsum (by omega)) (SpE.cons ?_ SpE.nil)
    rw [List.map_append]
    exact Tr.binop (Tr.sub_tuple (j := 4) (Tr.name upd_self (mono_da _) p15) Tr.const_int (by decide) (by decide) rfl rfl) (mono_da _) (Tr.sub_tuple (j := 4) (Tr.name (upd_ne rfl upd_self) (mono_da _) p25) Tr.const_int (by decide) (by decide) rfl rfl) (Bo.add_tuple (by rw [List.length_map, List.length_map]; omega))
  · refine Tr.comp0 (cl := []) rowsD (fun f => [(S "row", rowsD f)]) formD (T := fun _ => True) (Ie.list hR'.hd (Tr.call W5 hR1 (gf_law_joined _) (gd_law_joined _) (law_joined_spec (N := N) (by omega) (ks1 ++ ks2) okC hsum (by omega)) (SpE.cons ?_ SpE.nil))) trivial (by omega)
      (fun C d hd => Asg.name rfl rfl) (fun C d g' m' hd hg' bd => ?_) rfl (by decide) rfl (by decide)
    · rw [List.map_append]
      exact Tr.binop (Tr.sub_list (Tr.name (upd_ne rfl (upd_ne rfl rfl)) (mono_da _) r15) Tr.const_int (by decide) (by decide) rfl) (mono_da _) (Tr.sub_list (Tr.name (upd_ne rfl (upd_ne rfl rfl)) (mono_da _) r25) Tr.const_int (by decide) (by decide) rfl) (Bo.add_list (by rw [List.length_map, List.length_map]; omega))
    · obtain ⟨x3, e3, rx3⟩ := bd (S "row", rowsD d) (.head _)
      replace e3 : m' (S "row") = some x3 := e3
      exact Tr.call (W5.mono hg') (hR'.le (k := N) (by omega)) (gf_law_built _) (gd_law_built _) (law_built_spec N d (okJ d hd)) (SpE.cons (Tr.name e3 (mono_da _) rx3) SpE.nil)
end

end
section
open PySem PySem.W PySem.Spec PySem.Calls PyProof.Rows

def ascB : List Atr → Bool
  | a :: b :: r => ascOk a b && ascB (b :: r)
  | _ => true
theorem asc_of : ∀ {l : List Atr}, ascB l = true → Asc l
  | [], _ => fun i a b h _ => by simp at h
  | [x], _ => fun i a b h h2 => by simp at h2
  | x :: y :: r, h => fun i a b h1 h2 => by
    rw [ascB, Bool.and_eq_true] at h
    cases i with
    | zero => simp at h1 h2; subst h1 h2; exact h.1
    | succ i => exact asc_of h.2 i a b (by simpa using h1) (by simpa using h2)
def okAs (as : List Atr) : Bool := decide (as.length ≤ 10) && as.all atrOk && decide ((as.map fun a => (a.ks, a.kn)).Nodup)
def chk (as as' : List Atr) : Bool := okAs as && okAs as' && ascB (unionA as as') && decide (((unlike as as').length : Int) = cntL as as' (as ++ as').length)
def chkAll (as : List Atr) : Bool := chk as as && chk as (as ++ [addZ]) && (match as with
  | [] => true
  | a :: r => chk as (⟨a.ks, a.kn, S "b", S "9"⟩ :: r) && chk as (⟨a.ks, a.kn, S "p:b", a.value⟩ :: r))
theorem chk_of {as as' : List Atr} (h : chkAll as = true) (c : ChgA as as') : chk as as' = true := by
  unfold chkAll at h
  simp only [Bool.and_eq_true] at h
  rcases c with rfl | rfl | ⟨a, r, nm, v, rfl, rfl, hnv⟩
  · exact h.1.1
  · exact h.1.2
  · have h2 := h.2
    simp only [Bool.and_eq_true] at h2
    rcases hnv with ⟨rfl, rfl⟩ | ⟨rfl, rfl⟩
    · exact h2.1
    · exact h2.2
theorem all_attrs {as : List Atr} (h : OkAttrs as) : chkAll as = true := by
  obtain ⟨vs, hl, hv, rfl⟩ := h
  match vs, hl, hv with
  | [], _, _ => decide +kernel
  | [x], _, hv =>
    rcases hv x (.head _) with rfl | rfl <;> decide +kernel
  | [x, y], _, hv =>
    rcases hv x (.head _) with rfl | rfl <;> rcases hv y (.tail _ (.head _)) with rfl | rfl <;> decide +kernel
  | x :: y :: z :: r, hl, _ => simp at hl
theorem okPlain_ok {p : Fm} (h : okPlain p) (n : Nat) : okF (n + 1) p = true ∧ p.value.length ≤ 3 := by
  obtain ⟨k, v, rfl, hk, hv⟩ := h
  have tk : tok k = true := by rcases hk with rfl | rfl <;> decide +kernel
  have tv : tok v = true ∧ v.length ≤ 3 := by rcases hv with rfl | rfl | rfl <;> decide +kernel
  refine ⟨?_, tv.2⟩
  simp [plainF, okF, tk, tv.1]
theorem okKid_ok {f : Fm} (h : okKid f) (n : Nat) : okF (n + 2) f = true ∧ f.value.length ≤ 3 := by
  rcases h with h | ⟨p, hp, rfl⟩
  · exact okPlain_ok h (n + 1)
  · refine ⟨?_, by show (S "").length ≤ 3; decide +kernel⟩
    have t1 : tok (S "element") = true := by decide +kernel
    have t2 : tok (S "f") = true := by decide +kernel
    have t3 : tok (S "") = true := by decide +kernel
    simp [okF, t1, t2, t3, (okPlain_ok hp n).1]
theorem sumV_le : ∀ {ks : List Fm}, (∀ f ∈ ks, f.value.length ≤ 3) → sumV ks ≤ 3 * ks.length
  | [], _ => Nat.le_refl _
  | f :: r, h => by
    have h1 := h f (.head _)
    have h2 := sumV_le fun x hx => h x (.tail _ hx)
    simp only [sumV, List.map_cons, List.sum_cons, List.length_cons] at *
    omega
def KidOk (f : Fm) : Prop := okF 3 f = true ∧ f.value.length ≤ 3
theorem chgK_ok {ks ks' : List Fm} (h : ∀ f ∈ ks, okKid f) (c : ChgK ks ks') : (∀ f ∈ ks', KidOk f) ∧ ks'.length ≤ ks.length + 1 := by
  have base : ∀ f ∈ ks, KidOk f := fun f hf => okKid_ok (h f hf) 1
  rcases c with rfl | rfl | ⟨p, hp, rfl⟩ | rfl | ⟨j, kd, lb, vl, as, kk, hj, rfl⟩
  · exact ⟨base, Nat.le_succ _⟩
  · exact ⟨fun f hf => base f (List.mem_of_mem_drop hf), by rw [List.length_drop]; omega⟩
  · refine ⟨fun f hf => ?_, by simp⟩
    rcases List.mem_append.mp hf with hf | hf
    · exact base f hf
    · rw [List.mem_singleton.mp hf]; exact okPlain_ok hp 2
  · exact ⟨fun f hf => base f (List.mem_reverse.mp hf), by simp⟩
  · refine ⟨fun f hf => ?_, by simp⟩
    rcases List.mem_or_eq_of_mem_set hf with hf | rfl
    · exact base f hf
    · obtain ⟨b1, _⟩ := base _ (List.mem_of_getElem? hj)
      have o := okF_succ (n := 2) b1
      have tn : tok (S "new") = true ∧ (S "new").length ≤ 3 := by decide +kernel
      refine ⟨?_, tn.2⟩
      rw [okF]
      simp only [Bool.and_eq_true, decide_eq_true_eq, List.all_eq_true]
      exact ⟨⟨⟨⟨⟨⟨⟨o.kind, o.label⟩, tn.1⟩, o.alen⟩, o.attrs⟩, o.nodup⟩, o.klen⟩, o.kids⟩
theorem okF_of {k : Str} {l : Option Str} {v : Str} {as : List Atr} {ks : List Fm} (hk : tok k = true) (hl : l.all tok = true) (hv : tok v = true) (ha : okAs as = true) (hlen : ks.length ≤ 100) (hks : ∀ f ∈ ks, KidOk f) : okF 4 (.mk k l v as ks) = true := by
  unfold okAs at ha
  simp only [Bool.and_eq_true, decide_eq_true_eq, List.all_eq_true] at ha
  rw [okF]
  simp only [Bool.and_eq_true, decide_eq_true_eq, List.all_eq_true]
  exact ⟨⟨⟨⟨⟨⟨⟨hk, hl⟩, hv⟩, ha.1.1⟩, ha.1.2⟩, ha.2⟩, hlen⟩, fun f hf => (hks f hf).1⟩
theorem tree_ok {f : Fm} (h : okTree f) : okF 4 f = true := by
  obtain ⟨as, ks, rfl, ha, hl, hk⟩ := h
  have c := all_attrs ha
  unfold chkAll chk at c
  simp only [Bool.and_eq_true] at c
  exact okF_of (by decide +kernel) (by decide +kernel) (by decide +kernel) c.1.1.1.1.1 (by omega) fun f hf => okKid_ok (hk f hf) 1
theorem tree_right {f f' : Fm} (h : okTree f) (c : Changed f f') : okF 4 f' = true ∧ Asc (unionA f.attrs f'.attrs) ∧ costU f f' = costL f f' ∧ sumV (f.kids ++ f'.kids) ≤ 1000 := by
  obtain ⟨as, ks, rfl, ha, hl, hk⟩ := h
  obtain ⟨k, l, v, as0, ks0, l', as', ks', e1, rfl, hl', cA, cK⟩ := c
  injection e1 with e1 e2 e3 e4 e5
  subst e1 e2 e3 e4 e5
  have c1 := chk_of (all_attrs ha) cA
  unfold chk at c1
  simp only [Bool.and_eq_true, decide_eq_true_eq] at c1
  obtain ⟨⟨⟨_, oA⟩, oB⟩, oC⟩ := c1
  obtain ⟨kK, lK⟩ := chgK_ok hk cK
  refine ⟨okF_of (by decide +kernel) ?_ (by decide +kernel) oA (by omega) kK, asc_of oB, ?_, ?_⟩
  · rcases hl' with rfl | rfl <;> decide +kernel
  · show (if (S "" == S "") then (0 : Int) else 1) + ((unlike as as').length : Int) = cntL as as' (as ++ as').length + (if (S "" == S "") then (0 : Int) else 1)
    rw [oC]; exact Int.add_comm _ _
  · have s1 := sumV_le (fun f hf => (okKid_ok (hk f hf) 1).2)
    have s2 := sumV_le fun f hf => (kK f hf).2
    show sumV (ks ++ ks') ≤ 1000
    rw [sumV_append]
    omega

end
section
open PySem PySem.W PySem.Spec PySem.Calls PyProof.Rows

theorem tree_ok3 {f : Fm} (h : okTree f) : okF 3 f = true := by
  have h4 := tree_ok h
  obtain ⟨as, ks, rfl, ha, hl, hk⟩ := h
  have o := okF_succ h4
  rw [okF]
  simp only [Bool.and_eq_true, decide_eq_true_eq, List.all_eq_true]
  exact ⟨⟨⟨⟨⟨⟨⟨o.kind, o.label⟩, o.value⟩, o.alen⟩, o.attrs⟩, o.nodup⟩, o.klen⟩, fun f hf => (okKid_ok (hk f hf) 0).1⟩
section
variable {prog : Program} {w : World} {mg mb : Str → Option Value}
set_option maxHeartbeats 4000000 in
theorem law_walk (ns : List Int) (hns : ns.length ≤ 1000) {o : Obj} {fd : FuncData} {body : List Stmt} {cd v : Value} {fa L : Addr} {A : Around} {m : Str → Option Value} {g e : Heap} {nm : Str} {s : Shared} {Q : Flow → Shared → Prop} {E : Value → Shared → Prop}
    (ho : (hd.heap_39 w.params).lookup 145 = some o) (hdata : o.data = .func fd) (hbody : fd.body = .stmts body)
    (hR : Rm 7 A) (W : Wd w mg mb g) (hv : m (S "script") = some v) (rv : Rd g v (.list (ns.map .int)))
    (a : At NoX g e (envOf nm fd.scope L fa cd) m [] g s.heap)
    (k : ∀ m' mu' g' h' tk, At NoX g e (envOf nm fd.scope L fa cd) m' mu' g' h' → Q (.ret (.bool true)) { s with heap := h', toks := tk }) :
    wpAny (model prog w) A (execs body (envOf nm fd.scope L fa cd)) Q E s := by
  cases ho
  cases hdata
  cases hbody
  refine St.ite (b := !PyData.eqv (.int 1) (.int 1)) a (Ts.cmp (P := Da (.int 1)) ?_ (mono_da _) Tr.const_int (Cp.ne hR (int_shaped 1) (int_shaped 1))) (fun hb => ?_) fun hb g1 h1 tk1 a1 hg1 => St.nil ?_
  · have hc := own_cost_spec (prog := prog) (w := w) (mg := mg) (mb := mb) (N := 1) (textF (S "x")) (textF (S "y")) (by decide +kernel) (by decide +kernel) (asc_of (by decide +kernel))
    have e1 : costU (textF (S "x")) (textF (S "y")) = 1 := by decide +kernel
    rw [e1, textF_form, textF_form] at hc
    exact Tr.call W (hR.le (by decide)) (gf_own_cost _) (gd_own_cost _) hc (SpE.cons (by tb_rel) (SpE.cons (by tb_rel) SpE.nil))
  · rw [eqv_int] at hb; exact absurd hb (by decide)
  have W1 := W.mono hg1
  refine wpAny_execs_cons (wpAny_Assign_Name (wpAny_Call_NameR ((Tr.glob (R := fun _ v => v = .ref 73) W1 (gf_law_pool _) (fun _ _ _ _ r => r) rfl rfl rfl rfl (by decide)) _ g1 _ _ (Le.refl _) a1.sit fun v2 g2 h2 tk2 G2 r2 => ?_)) rfl)
  subst r2
  obtain ⟨of, fdp, hof, hdat⟩ := gd_law_pool w
  have a2 := a1.grow G2
  have W2 := W1.mono G2.gg
  refine callWith_def hdat ((SpE.cons (Tr.name hv (mono_da _) (rv.mono (hg1.trans G2.gg))) (SpE.cons Tr.const_int SpE.nil) : SpD prog w A _ m [] g2 _ [.list (ns.map .int), .int 0]) _ _ _ _ (Le.refl _) a2.sit fun vs g3 h3 tk3 G3 r3 => ⟨(W2.mono (G3.gg.trans G3.gh)).K _ _ hof, ?_⟩) rfl
  have a3 := a2.grow G3
  have W3 := W2.mono G3.gg
  refine law_pool_spec ns hns (hR.le (by decide)) W3 a3.le r3 fun l us n g4 h4 tk4 av bv G4 el nl ru ha0 hb0 hb1 => ?_
  have a4 := a3.grow G4
  refine wpAny_storeName_local rfl a4.sit.ns (fun h5 hn hs => ?_) rfl
  have a5 := a4.store hn hs
  obtain ⟨x, y, rfl, rx, ry⟩ := ru.two
  obtain ⟨t1, rfl⟩ := rx.int_inv
  obtain ⟨t2, rfl⟩ := ry.int_inv
  have gl : g.get? l = none := (a3.gr.gg.trans a3.le).none nl
  obtain ⟨g6, q6, a6⟩ := a5.thaw el gl (a3.heap_none nl)
  have W6 := W.mono a6.gr.gg
  have ho0 : isSrc (lstO [.int av t1, .int bv t2] n) := ⟨av, bv, t1, t2, n, rfl, ha0, hb0, hb1⟩
  refine St.forRange (fun d mu' => d = .int (if 0 < av then 2 else 1) ∧ mu' = [(l, lstO [.int av t1, .int bv t2] n)]) 2
    (fun n i m mu g => m (S "source") = some (.ref l) ∧ ∃ o, mu = [(l, o)] ∧ isSrc o) [l] W6 hR.hd a6
    (fun g' le => ?_) (fun d mu' hp => ?_) (by decide) (fun k mu' g' hp le => ⟨upd_self, _, hp.2, ho0⟩) (fun n i m mu g g' le q => q)
    (fun n i t m mu g7 h7 tk7 E7 e7 hi ⟨ms, o7, em, ho7⟩ has hle a7 => ?_) (fun n m mu g7 h7 tk7 ⟨ms, o7, em, ho7⟩ has a7 => ?_)
  · refine TrD.pure (d := .int (if 0 < av then 2 else 1)) (Tr.ifexp (b := decide (0 < av)) (Ts.cmp (Tr.sub_mut (j := 0) (ds := [.int av, .int bv]) (Tr.ref upd_self) (.head _) (.cons (.int _ _) (.cons (.int _ _) .nil)) Tr.const_int (by decide) (by decide) rfl rfl) (mono_da _) Tr.const_int Cp.gt) (fun hb => ?_) fun hb => ?_) ⟨rfl, rfl⟩
    · rw [if_pos (of_decide_eq_true hb)]; exact Tr.const_int
    · rw [if_neg (of_decide_eq_false hb)]; exact Tr.const_int
  · obtain ⟨rfl, rfl⟩ := hp
    by_cases hz : 0 < av
    · exact ⟨2, by rw [if_pos hz]; rfl, by decide, rfl⟩
    · exact ⟨1, by rw [if_neg hz]; rfl, by decide, rfl⟩
  · subst em
    have W7 := W.mono hle
    refine St.assignX a7 (TrX.eff (l1 := []) (l2 := []) W7 (hR.le (by decide)) (gf_law_rows _) (gd_law_rows _) law_rows_spec rfl (fun p hp => nomatch hp) ho7 (SpR.cons (Tr.ref (upd_ne rfl ms)) SpE.nil)) fun v8 mu8 g8 h8 tk8 a8 hg8 ⟨o8, em8, ho8, f, hf, rf⟩ => ?_
    replace em8 : mu8 = [(l, o8)] := em8
    subst em8
    have W8 := W7.mono hg8
    refine St.iteX (wpAny_isTrue_Not (isTrue_plain (wpAny_Call_NameR ((Tr.glob (R := fun _ v => v = .ref 138) W8 (gf_law_right _) (fun _ _ _ _ r => r) rfl rfl rfl rfl (by decide)) _ g8 _ _ (Le.refl _) a8.sit fun v9 g9 h9 tk9 G9 r9 => ?_)) rfl))
    subst r9
    obtain ⟨ofr, fdr, hofr, hdatr⟩ := gd_law_right w
    have a9 := a8.grow G9
    have W9 := W8.mono G9.gg
    refine callWith_def hdatr ((SpX.consE (P := fun d mu' => d = rowsD f ∧ mu' = [(l, o8)]) (PP := fun ds mu' => ∃ f' o10, ds = [rowsD f, rowsD f'] ∧ Changed f f' ∧ mu' = [(l, o10)] ∧ isSrc o10) (TrD.pure (Tr.name upd_self (mono_da _) (rf.mono G9.gg)) ⟨rfl, rfl⟩) fun d mu' g' hp le => SpX.consE (P := fun d mu' => ∃ f' o10, d = rowsD f' ∧ Changed f f' ∧ mu' = [(l, o10)] ∧ isSrc o10) (TrX.weak (TrX.eff (l1 := []) (l2 := []) (W9.mono le) (hR.le (by decide)) (gf_law_changed _) (gd_law_changed _) (law_changed_spec (N := 3) (by decide) f (tree_ok3 hf)) hp.2 (fun p hp => nomatch hp) ho8 (SpR.cons (Tr.ref (upd_ne rfl (upd_ne rfl ms))) (SpE.cons (Tr.name upd_self (mono_da _) (rf.mono (G9.gg.trans le))) SpE.nil))) fun v mu' g' ⟨o3, e, ho3, f', hc, rf'⟩ => ⟨rowsD f', ⟨f', o3, rfl, hc, e, ho3⟩, rf'⟩) fun d2 mu2 g2 hp2 le2 => SpX.nil (by obtain ⟨rfl, _⟩ := hp; obtain ⟨f', o10, rfl, hc, e, ho10⟩ := hp2; exact ⟨f', o10, rfl, hc, e, ho10⟩)) _ _ _ a9 fun vs ds mu10 g10 h10 tk10 a10 hg10 ⟨f', o10, eds, hc, em10, ho10⟩ r10 => ⟨(W9.mono (hg10.trans a10.le)).K _ _ hofr, ?_⟩) rfl
    subst eds em10
    obtain ⟨t1, t2, t3, t4⟩ := tree_right hf hc
    refine law_right_spec (N := 3) (by decide) f f' (tree_ok hf) t1 t2 t3 t4 _ _ g10 _ _ _ (hR.le (by decide)) (W9.mono hg10) a10.le r10 fun v11 g11 h11 tk11 G11 r11 => ?_
    rw [r11.bool_inv]
    refine wpAny_truthy_bool ?_
    have a11 := a10.grow G11
    show wpAny _ _ _ _ _ _
    refine St.nil (St.nil ⟨_, _, g11, h11, tk11, rfl, a11, rfl, upd_ne rfl (upd_ne rfl ms), _, rfl, ho10⟩)
  · refine St.ret a7 (R := Da (.bool true)) Tr.const_bool fun v g' h' tk a r => ?_
    rw [r.bool_inv]
    exact k _ _ _ _ _ a
end

end
end Mine
theorem Mine.caller_rm {env : Env} : Mine.Rm 7 (callerA.deeper env) := Mine.Rm.deeper (n := 7) (A := callerA) ⟨rfl, by decide, by decide⟩
theorem Mine.law_end {w : World} {s₁ s : Shared} {mg mb : Str → Option Value} {A : Around} {body : List Stmt} {o : Obj} {fd : FuncData} {cd v : Value} {fa : Addr} {nm : Str} {m : Str → Option Value} {ns : List Int} {as : List Addr} {args : List WData} {cl : Str → Option Addr} {mean : ExcName → Option Value} {E : Value → Shared → Prop} {prog : Program}
    (ho : (Mine.hd.heap_39 w.params).lookup 145 = some o) (hdata : o.data = .func fd) (hbody : fd.body = .stmts body) (hR : Mine.Rm 7 A) (W : Mine.Wd w mg mb s₁.heap)
    (hn : ¬ ((63 : Nat) : Int) < (ns.length : Int)) (hv : m (Mine.S "script") = some v) (rv : Reads s₁.heap v (.list (ns.map .int)) as) (F : Fr s₁.heap s₁.heap.objs.size s.heap m) (hg : s.gens = #[]) (hos : s.os = s₁.os) :
    wpAny (model prog w) A (execs body (envOf nm fd.scope s₁.heap.objs.size fa cd))
      (fun f s' => GoodW PySem.Challenge.rw_xm0633_01.row.claim cl mean args s₁ (.ok (.ret (match f with | .ret v => v | _ => .none))) s') E s := by
  refine Mine.law_walk ns (by omega) ho hdata hbody hR W hv ⟨_, rv⟩ ⟨⟨F.keep, F.ns, get_fresh _, fun _ h => nomatch h⟩, ⟨fun _ _ x => x, F.keep, fun b o _ e => F.keep b o e, fun b o e => ⟨o, F.keep b o e⟩, fun _ _ _ x => x⟩, get_fresh _, fun _ h => nomatch h⟩ fun m' mu' g' h' tk a => ?_
  exact goodW_bool (L := s₁.heap.objs.size) (m := m') ⟨a.sit.ns, a.gr.gg.trans a.le, Nat.le_refl _⟩ hg (raisesW_false (by intro ct hct; cases hct)) (postW_of rfl (w_eq_bool (w_res rfl) w_lit) rfl) hos
set_option maxHeartbeats 8000000 in
theorem PySem.Challenge.cw_xm0633_01_holds : PySem.Challenge.rw_xm0633_01.Holds := by
  exact Mine.hd (by
  k_go0
  all_goals try k_fold
  rename_i hg KX _ _ _ T _ _ _ _ _ _ _ _ hcd ns hs hlay hL1 hr1 hl2 ads1 ads2 ad vs ads3 hL ra w1 r0 hI hr hcond1 hcond2 K0 hD h₁ F N0
  exact Mine.law_end (o := _) (fd := _) rfl rfl rfl Mine.caller_rm ⟨KX, T.g, T.b, T.nolimit, T.builtins⟩ hcond1 rfl r0 F hg rfl)
