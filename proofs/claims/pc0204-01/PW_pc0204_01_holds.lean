import PyProof.Rows.All
import Wide.All
import OpenK.AllK
import Wide.FinOn
import PySem.Challenge.RW_pc0204_01
open PySem PySem.W PyProof.Rows PySem.Calls
set_option Elab.async false
set_option maxRecDepth 100000
set_option linter.unusedVariables false
set_option linter.unusedSimpArgs false
set_option compiler.extract_closed false
set_option genSizeOf false
set_option genInjectivity false
namespace V204
inductive D where
  | none
  | bool (b : Bool)
  | int (i : Int)
  | str (x : Str)
  | tuple (ds : List D)
  | list (ds : List D)
  | wlist (ds : List D)
  | range (a b : Int)
  | raw (v : Value)
  | obj (a : Addr) (o : Obj)
  | inst (C : Addr) (ns : List Str) (ds : List D)
  | exc (C : Addr) (d : D)
noncomputable def instObjOf (C dx : Addr) : Obj := { cls := .ref C, dict := some dx, data := .plain }
noncomputable def excObjOf (C dx t : Addr) : Obj := { cls := .ref C, dict := some dx, data := .fields #[.ref t, .none, .none, .none, .bool false, .none] }
noncomputable def FieldsAre (od : Obj) (ns : List Str) (vs : List Value) : Prop := ∀ (i : Nat) (n : Str) (v : Value), ns[i]? = some n → vs[i]? = some v → lookIn n od = some (some v)
noncomputable def methNames : List Str := ["object", "new_array", "put"]
noncomputable def NoMeth (od : Obj) : Prop := ∀ n ∈ methNames, lookIn n od = some none
noncomputable def OL (h : Heap) (l : Addr) (items : Array Value) : Prop := ∃ n, IsL h l items n
noncomputable def TupAt (h : Heap) (t : Addr) (items : Array Value) : Prop := ∃ n, IsT h t items n
mutual
inductive Rep (X : Addr → Prop) (h : Heap) : Value → D → Prop
  | none : Rep X h Value.none D.none
  | bool (b : Bool) : Rep X h (Value.bool b) (D.bool b)
  | int (i : Int) (t : Tok) : Rep X h (Value.int i t) (D.int i)
  | str (x : Str) (t : Tok) : Rep X h (Value.str x t) (D.str x)
  | raw (v : Value) : Rep X h v (D.raw v)
  | obj {a : Addr} {o : Obj} : ¬ X a → h.get? a = some o → Rep X h (Value.ref a) (D.obj a o)
  | tuple {a : Addr} {vs : List Value} {ds : List D} : ¬ X a → TupAt h a vs.toArray → Reps X h vs ds → Rep X h (Value.ref a) (D.tuple ds)
  | list {a : Addr} {vs : List Value} {ds : List D} : ¬ X a → OL h a vs.toArray → Reps X h vs ds → Rep X h (Value.ref a) (D.list ds)
  | wlist {a : Addr} {vs : List Value} {ds : List D} : ¬ X a → h.IsList a vs.toArray → Reps X h vs ds → Rep X h (Value.ref a) (D.wlist ds)
  | range {r : Addr} {a b : Int} {t u v : Tok} : ¬ X r → IsRange h r a b 1 t u v → Rep X h (Value.ref r) (D.range a b)
  | inst {x dx C : Addr} {od : Obj} {ns : List Str} {vs : List Value} {ds : List D} : ¬ X x → h.get? x = some (instObjOf C dx) → ¬ X dx → h.get? dx = some od → FieldsAre od ns vs → NoMeth od → Reps X h vs ds → Rep X h (Value.ref x) (D.inst C ns ds)
  | exc {e dx t C : Addr} {od : Obj} {v : Value} {d : D} : ¬ X e → h.get? e = some (excObjOf C dx t) → ¬ X dx → h.get? dx = some od → lookIn "value" od = some (some v) → Rep X h v d → Rep X h (Value.ref e) (D.exc C d)
inductive Reps (X : Addr → Prop) (h : Heap) : List Value → List D → Prop
  | nil : Reps X h [] []
  | cons {v : Value} {vs : List Value} {d : D} {ds : List D} : Rep X h v d → Reps X h vs ds → Reps X h (v :: vs) (d :: ds)
end
structure Carry (X : Addr → Prop) (h : Heap) (X' : Addr → Prop) (h' : Heap) : Prop where
  keep : ∀ b o, ¬ X b → h.get? b = some o → h'.get? b = some o
  new : ∀ b o, ¬ X b → h.get? b = some o → ¬ X' b
theorem Carry.trans {X X' X'' : Addr → Prop} {h h' h'' : Heap} (x : Carry X h X' h') (y : Carry X' h' X'' h'') : Carry X h X'' h'' :=
  ⟨fun b o n e => y.keep b o (x.new b o n e) (x.keep b o n e), fun b o n e => y.new b o (x.new b o n e) (x.keep b o n e)⟩
theorem isTuple_at {h h' : Heap} {a : Addr} {items : Array Value} (x : h.IsTuple a items) (e : ∀ o, h.get? a = some o → h'.get? a = some o) : h'.IsTuple a items :=
  let ⟨o, ho, r⟩ := x; ⟨o, e o ho, r⟩
theorem isList_at {h h' : Heap} {a : Addr} {items : Array Value} (x : h.IsList a items) (e : ∀ o, h.get? a = some o → h'.get? a = some o) : h'.IsList a items :=
  let ⟨o, ho, r⟩ := x; ⟨o, e o ho, r⟩
mutual
theorem Rep.carry {X X' : Addr → Prop} {h h' : Heap} (c : Carry X h X' h') : ∀ {v : Value} {d : D}, Rep X h v d → Rep X' h' v d
  | _, _, .none => .none
  | _, _, .bool b => .bool b
  | _, _, .int i t => .int i t
  | _, _, .str x t => .str x t
  | _, _, .raw v => .raw v
  | _, _, .obj n e => .obj (c.new _ _ n e) (c.keep _ _ n e)
  | _, _, .tuple n ⟨_, ho⟩ rs => .tuple (c.new _ _ n ho) ⟨_, c.keep _ _ n ho⟩ (Reps.carry c rs)
  | _, _, .list n ⟨_, ho⟩ rs => .list (c.new _ _ n ho) ⟨_, c.keep _ _ n ho⟩ (Reps.carry c rs)
  | _, _, .wlist n ⟨o, ho, r⟩ rs => .wlist (c.new _ _ n ho) ⟨o, c.keep _ _ n ho, r⟩ (Reps.carry c rs)
  | _, _, .range n e => .range (c.new _ _ n e) (c.keep _ _ n e)
  | _, _, .inst n e m d f a rs => .inst (c.new _ _ n e) (c.keep _ _ n e) (c.new _ _ m d) (c.keep _ _ m d) f a (Reps.carry c rs)
  | _, _, .exc n e m d f r => .exc (c.new _ _ n e) (c.keep _ _ n e) (c.new _ _ m d) (c.keep _ _ m d) f (Rep.carry c r)
theorem Reps.carry {X X' : Addr → Prop} {h h' : Heap} (c : Carry X h X' h') : ∀ {vs : List Value} {ds : List D}, Reps X h vs ds → Reps X' h' vs ds
  | _, _, .nil => .nil
  | _, _, .cons r rs => .cons (Rep.carry c r) (Reps.carry c rs)
end
theorem Carry.less {X X' : Addr → Prop} {h : Heap} (s : ∀ b, X' b → X b) : Carry X h X' h := ⟨fun _ _ _ e => e, fun _ _ n _ y => n (s _ y)⟩
theorem Reps.length {X : Addr → Prop} {h : Heap} : ∀ {vs : List Value} {ds : List D}, Reps X h vs ds → vs.length = ds.length
  | _, _, .nil => rfl
  | _, _, .cons _ r => by rw [List.length_cons, List.length_cons, r.length]
theorem Reps.append {X : Addr → Prop} {h : Heap} {ws : List Value} {es : List D} (k : Reps X h ws es) : ∀ {vs : List Value} {ds : List D}, Reps X h vs ds → Reps X h (vs ++ ws) (ds ++ es)
  | _, _, .nil => k
  | _, _, .cons r rs => .cons r (Reps.append k rs)
theorem Reps.one {X : Addr → Prop} {h : Heap} {v : Value} {d : D} (r : Rep X h v d) : Reps X h [v] [d] := .cons r .nil
theorem Reps.get {X : Addr → Prop} {h : Heap} : ∀ {vs : List Value} {ds : List D}, Reps X h vs ds → ∀ {i : Nat} {d : D}, ds[i]? = some d → ∃ v, vs[i]? = some v ∧ Rep X h v d
  | _, _, .nil, i, d, e => by simp at e
  | _, _, .cons r rs, i, d, e => by
    cases i with
    | zero => simp at e; subst e; exact ⟨_, rfl, r⟩
    | succ i => simpa using rs.get (by simpa using e)
theorem Reps.nil_inv {X : Addr → Prop} {h : Heap} {vs : List Value} (r : Reps X h vs []) : vs = [] := by cases r; rfl
theorem Reps.cons_inv {X : Addr → Prop} {h : Heap} {vs : List Value} {d : D} {ds : List D} (r : Reps X h vs (d :: ds)) : ∃ v ws, vs = v :: ws ∧ Rep X h v d ∧ Reps X h ws ds := by
  cases r with
  | cons a b => exact ⟨_, _, rfl, a, b⟩
theorem OL.isList {h : Heap} {l : Addr} {items : Array Value} (x : OL h l items) : h.IsList l items := let ⟨_, i⟩ := x; i.isList
theorem TupAt.isTuple {h : Heap} {l : Addr} {items : Array Value} (x : TupAt h l items) : h.IsTuple l items := let ⟨n, e⟩ := x; ⟨_, e, rfl, n, rfl⟩
theorem ol_at {h h' : Heap} {a : Addr} {items : Array Value} (x : OL h a items) (e : ∀ o, h.get? a = some o → h'.get? a = some o) : OL h' a items := let ⟨n, i⟩ := x; ⟨n, e _ i⟩
structure GS where
  m0 : Int
  m1 : Int
  th : List (List Int)
structure Cx where
  prog : Program
  w : World
  h0 : Heap
  mg : Str → Option Value
  mb : Str → Option Value
  gens : Array GenState
  os : OsState
  drawn : Drawn
  M : Addr → Prop
  Inv : GS → (Addr → Prop) → Heap → Prop
  invCarry : ∀ (γ : GS) (X X' : Addr → Prop) (h h' : Heap), Inv γ X h → Carry X h X' h' → (∀ b o, M b → h.get? b = some o → h'.get? b = some o) → Inv γ X' h'
structure CxOk (c : Cx) : Prop where
  lim : c.h0.NoLimit
  g : c.h0.Ns mainGlobals c.mg
  b : c.h0.Ns builtinsNs c.mb
  bi : ∀ x : Str, x ≠ "__name__" → c.mb x = bootBuiltins x
noncomputable abbrev D.ints (l : List Int) : D := .tuple (l.map D.int)
structure GRel (c : Cx) (γ : GS) (X : Addr → Prop) (s : Shared) : Prop where
  base : ∀ b o, c.h0.get? b = some o → s.heap.get? b = some o
  xbase : ∀ b, X b → c.h0.get? b = none
  live : ∀ b, X b → ∃ o, s.heap.get? b = some o
  gens : s.gens = c.gens
  os : s.os = c.os
  drawn : s.drawn = c.drawn
  xM : ∀ b, c.M b → X b
  mpl : ∀ b, c.M b → ∃ items, s.heap.IsList b items
  inv : c.Inv γ X s.heap
structure Grow (s s' : Shared) : Prop where
  keep : ∀ b o, s.heap.get? b = some o → s'.heap.get? b = some o
  gens : s'.gens = s.gens
  os : s'.os = s.os
  drawn : s'.drawn = s.drawn
theorem Grow.refl (s : Shared) : Grow s s := ⟨fun _ _ e => e, rfl, rfl, rfl⟩
theorem Grow.trans {s t u : Shared} (x : Grow s t) (y : Grow t u) : Grow s u :=
  ⟨fun b o e => y.keep b o (x.keep b o e), y.gens.trans x.gens, y.os.trans x.os, y.drawn.trans x.drawn⟩
theorem Grow.carry {s s' : Shared} {X : Addr → Prop} (g : Grow s s') : Carry X s.heap X s'.heap := ⟨fun b o _ e => g.keep b o e, fun _ _ n _ => n⟩
theorem GRel.grow {c : Cx} {γ : GS} {X : Addr → Prop} {s s' : Shared} (x : GRel c γ X s) (g : Grow s s') : GRel c γ X s' where
  base := fun b o e => g.keep b o (x.base b o e)
  xbase := x.xbase
  live := fun b hb => let ⟨o, ho⟩ := x.live b hb; ⟨o, g.keep b o ho⟩
  gens := g.gens.trans x.gens
  os := g.os.trans x.os
  drawn := g.drawn.trans x.drawn
  xM := x.xM
  mpl := fun b hb => let ⟨i, h⟩ := x.mpl b hb; ⟨i, isList_at h fun o e => g.keep b o e⟩
  inv := c.invCarry _ _ _ _ _ x.inv g.carry fun b o _ e => g.keep b o e
theorem GRel.less {c : Cx} {γ : GS} {X X' : Addr → Prop} {s : Shared} (x : GRel c γ X s) (l : ∀ b, X' b → X b) (hM : ∀ b, c.M b → X' b) : GRel c γ X' s where
  base := x.base
  xbase := fun b hb => x.xbase b (l b hb)
  live := fun b hb => x.live b (l b hb)
  gens := x.gens
  os := x.os
  drawn := x.drawn
  xM := hM
  mpl := x.mpl
  inv := c.invCarry _ _ _ _ _ x.inv (Carry.less l) fun _ _ _ e => e
theorem GRel.more {c : Cx} {γ : GS} {X X' : Addr → Prop} {s s' : Shared} (x : GRel c γ X s) (g : Grow s s') (l : ∀ b, X b → X' b) (n : ∀ b, X' b → X b ∨ s.heap.get? b = none) (lv : ∀ b, X' b → ∃ o, s'.heap.get? b = some o) : GRel c γ X' s' := by
  have k : Carry X s.heap X' s'.heap := ⟨fun b o _ e => g.keep b o e, fun b o nb e y => (n b y).elim nb fun q => by rw [q] at e; cases e⟩
  refine ⟨fun b o e => g.keep b o (x.base b o e), fun b hb => ?_, lv, g.gens.trans x.gens, g.os.trans x.os, g.drawn.trans x.drawn, fun b hb => l b (x.xM b hb), fun b hb => let ⟨i, h⟩ := x.mpl b hb; ⟨i, isList_at h fun o e => g.keep b o e⟩, c.invCarry _ _ _ _ _ x.inv k fun b o _ e => g.keep b o e⟩
  rcases n b hb with q | q
  · exact x.xbase b q
  · cases e : c.h0.get? b with
    | none => rfl
    | some o => rw [x.base b o e] at q; cases q
noncomputable def Room (A : Around) (k : Nat) : Prop := A.handled = none ∧ A.depth + k < recursionLimit ∧ A.units + 8 * k + 200 < cLine
theorem Room.deeper {A : Around} {k : Nat} (env : Env) (r : Room A (k + 1)) : Room (A.deeper env) k :=
  ⟨r.1, by show A.depth + 1 + k < _; have := r.2.1; omega, by show A.units + 3 + 8 * k + 200 < _; have := r.2.2; omega⟩
inductive V where
  | d (d : D)
  | own (ds : List D)
noncomputable abbrev Vars := Str → Option V
noncomputable def upd (ρ : Vars) (x : Str) (u : V) : Vars := fun y => if y = x then some u else ρ y
noncomputable def VarAt (env : Env) (h : Heap) (x : Str) (v : Value) : Prop :=
  match env.kindOf x with
  | some .local => ∃ m, h.Ns env.locals m ∧ m x = some v
  | some .cell => ∃ a, env.cells.lookup x = some a ∧ h.IsCell a (some v)
  | some .free => ∃ a, env.cells.lookup x = some a ∧ h.IsCell a (some v)
  | _ => False
theorem ns_unique {h : Heap} {a : Addr} {m m' : Str → Option Value} (x : h.Ns a m) (y : h.Ns a m') : m = m' := by
  obtain ⟨o, es, ep, e, d, _, k⟩ := x
  obtain ⟨o', es', ep', e', d', _, k'⟩ := y
  rw [e] at e'; cases e'
  rw [d] at d'; cases d'
  funext n; rw [← k n, ← k' n]
theorem cell_unique {h : Heap} {a : Addr} {v v' : Option Value} (x : h.IsCell a v) (y : h.IsCell a v') : v = v' := by
  obtain ⟨o, e, d⟩ := x
  obtain ⟨o', e', d'⟩ := y
  rw [e] at e'; cases e'
  rw [d] at d'; cases d'; rfl
theorem VarAt.unique {env : Env} {h : Heap} {x : Str} {v v' : Value} (a : VarAt env h x v) (b : VarAt env h x v') : v = v' := by
  unfold VarAt at a b
  split at a
  · rename_i e; rw [e] at b; obtain ⟨m, n, q⟩ := a; obtain ⟨m', n', q'⟩ := b
    cases ns_unique n n'; rw [q] at q'; exact Option.some.inj q'
  · rename_i e; rw [e] at b; obtain ⟨a, l, q⟩ := a; obtain ⟨a', l', q'⟩ := b
    rw [l] at l'; cases l'; exact Option.some.inj (cell_unique q q')
  · rename_i e; rw [e] at b; obtain ⟨a, l, q⟩ := a; obtain ⟨a', l', q'⟩ := b
    rw [l] at l'; cases l'; exact Option.some.inj (cell_unique q q')
  · exact a.elim
noncomputable abbrev un (Z W : Addr → Prop) : Addr → Prop := fun b => Z b ∨ W b
noncomputable def VRep (c : Cx) (Z W : Addr → Prop) (h : Heap) (v : Value) : V → Prop
  | .d d => Rep (un Z W) h v d
  | .own ds => ∃ l vs, v = .ref l ∧ W l ∧ ¬ Z l ∧ ¬ c.M l ∧ OL h l vs.toArray ∧ Reps (un Z W) h vs ds
structure Rel (c : Cx) (γ : GS) (env : Env) (W Z : Addr → Prop) (ρ : Vars) (s : Shared) : Prop where
  ok : CxOk c
  g : GRel c γ (un Z W) s
  kind : env.scope.kind = .function
  gl : env.globals = mainGlobals
  bl : env.builtins = builtinsNs
  ns : ∃ m, s.heap.Ns env.locals m
  wl : W env.locals
  wM : ∀ b, c.M b → W b
  cinj : ∀ x y a, env.cells.lookup x = some a → env.cells.lookup y = some a → x = y
  cell : ∀ x a, env.cells.lookup x = some a → ∃ v, s.heap.IsCell a v
  cw : env.func.isSome = true → ∀ x a, env.cells.lookup x = some a → W a
  vars : ∀ x u, ρ x = some u → ∃ v, VarAt env s.heap x v ∧ VRep c Z W s.heap v u
  oinj : ∀ x y ds es v, ρ x = some (.own ds) → ρ y = some (.own es) → VarAt env s.heap x v → VarAt env s.heap y v → x = y
structure Ext (W : Addr → Prop) (s : Shared) (W' : Addr → Prop) (s' : Shared) : Prop where
  live : ∀ b o, s.heap.get? b = some o → ∃ o', s'.heap.get? b = some o'
  new : ∀ b, W' b → W b ∨ s.heap.get? b = none
  keep : ∀ b o, ¬ W b → s.heap.get? b = some o → s'.heap.get? b = some o
theorem Ext.refl (W : Addr → Prop) (s : Shared) : Ext W s W s := ⟨fun _ o e => ⟨o, e⟩, fun _ h => .inl h, fun _ _ _ e => e⟩
theorem Ext.trans {W W' W'' : Addr → Prop} {s s' s'' : Shared} (x : Ext W s W' s') (y : Ext W' s' W'' s'') : Ext W s W'' s'' where
  live := fun b o e => let ⟨o', e'⟩ := x.live b o e; y.live b o' e'
  new := fun b h => by
    rcases y.new b h with q | q
    · exact x.new b q
    · by_cases w : W b
      · exact .inl w
      · refine .inr ?_
        cases e : s.heap.get? b with
        | none => rfl
        | some o => rw [x.keep b o w e] at q; cases q
  keep := fun b o w e => by
    have e' := x.keep b o w e
    refine y.keep b o (fun w' => ?_) e'
    rcases x.new b w' with q | q
    · exact w q
    · rw [q] at e; cases e
theorem Ext.carry {W W' Z : Addr → Prop} {s s' : Shared} (x : Ext W s W' s') : Carry (un Z W) s.heap (un Z W') s'.heap :=
  ⟨fun b o n e => x.keep b o (fun w => n (.inr w)) e, fun b o n e y => y.elim (fun z => n (.inl z)) fun w => (x.new b w).elim (fun w => n (.inr w)) fun q => by rw [q] at e; cases e⟩
theorem Ext.grow {W : Addr → Prop} {s s' : Shared} (g : Grow s s') : Ext W s W s' := ⟨fun b o e => ⟨o, g.keep b o e⟩, fun _ h => .inl h, fun b o _ e => g.keep b o e⟩
noncomputable def VOk (c : Cx) (env : Env) (W Z : Addr → Prop) (ρ : Vars) (s : Shared) (v : Value) (u : V) : Prop :=
  VRep c Z W s.heap v u ∧ match u with
    | .d _ => True
    | .own _ => ∀ x es v', ρ x = some (.own es) → VarAt env s.heap x v' → v' ≠ v
theorem VarAt.grow {env : Env} {h h' : Heap} {x : Str} {v : Value} (k : ∀ b o, h.get? b = some o → h'.get? b = some o) (a : VarAt env h x v) : VarAt env h' x v := by
  unfold VarAt at a ⊢
  split
  · rename_i e; rw [e] at a; obtain ⟨m, n, q⟩ := a; exact ⟨m, n.keeps k, q⟩
  · rename_i e; rw [e] at a; obtain ⟨b, l, q⟩ := a; exact ⟨b, l, q.keeps k⟩
  · rename_i e; rw [e] at a; obtain ⟨b, l, q⟩ := a; exact ⟨b, l, q.keeps k⟩
  · split at a <;> simp_all
structure ExtE (env : Env) (W : Addr → Prop) (s : Shared) (W' : Addr → Prop) (s' : Shared) : Prop extends Ext W s W' s' where
  names : ∀ x v, VarAt env s.heap x v → VarAt env s'.heap x v
theorem ExtE.refl (env : Env) (W : Addr → Prop) (s : Shared) : ExtE env W s W s := ⟨Ext.refl W s, fun _ _ h => h⟩
theorem ExtE.trans {env : Env} {W W' W'' : Addr → Prop} {s s' s'' : Shared} (x : ExtE env W s W' s') (y : ExtE env W' s' W'' s'') : ExtE env W s W'' s'' :=
  ⟨x.toExt.trans y.toExt, fun z v h => y.names z v (x.names z v h)⟩
theorem ExtE.grow {env : Env} {W : Addr → Prop} {s s' : Shared} (g : Grow s s') : ExtE env W s W s' := ⟨Ext.grow g, fun _ _ h => h.grow g.keep⟩
theorem VRep.carry {c : Cx} {Z Z' W W' : Addr → Prop} {h h' : Heap} {v : Value} {u : V} (k : Carry (un Z W) h (un Z' W') h') (up : ∀ b, W b → W' b) (nz : ∀ l o, ¬ Z l → h.get? l = some o → ¬ Z' l) (kl : ∀ l, W l → ¬ c.M l → ∀ items, OL h l items → OL h' l items) (r : VRep c Z W h v u) : VRep c Z' W' h' v u := by
  cases u with
  | d d => exact Rep.carry k r
  | own ds => obtain ⟨l, vs, e, w, z, nM, i, rs⟩ := r; exact ⟨l, vs, e, up l w, let ⟨n, ho⟩ := i; nz l _ z ho, nM, kl l w nM _ i, rs.carry k⟩
theorem Rel.grow {c : Cx} {γ : GS} {env : Env} {W Z : Addr → Prop} {ρ : Vars} {s s' : Shared} (R : Rel c γ env W Z ρ s) (G : Grow s s') : Rel c γ env W Z ρ s' where
  ok := R.ok
  g := R.g.grow G
  kind := R.kind
  gl := R.gl
  bl := R.bl
  ns := let ⟨m, h⟩ := R.ns; ⟨m, h.keeps G.keep⟩
  wl := R.wl
  wM := R.wM
  cinj := R.cinj
  cell := fun x a h => let ⟨v, q⟩ := R.cell x a h; ⟨v, q.keeps G.keep⟩
  cw := R.cw
  vars := fun x u h => let ⟨v, q, r⟩ := R.vars x u h; ⟨v, q.grow G.keep, r.carry G.carry (fun _ h => h) (fun _ _ z _ => z) fun _ _ _ _ i => ol_at i fun o e => G.keep _ o e⟩
  oinj := fun x y ds es v h1 h2 q1 q2 => by
    obtain ⟨v1, a1, _⟩ := R.vars x _ h1
    obtain ⟨v2, a2, _⟩ := R.vars y _ h2
    have e1 := VarAt.unique (a1.grow G.keep) q1
    have e2 := VarAt.unique (a2.grow G.keep) q2
    subst e1; subst e2
    exact R.oinj x y ds es _ h1 h2 a1 a2
theorem Rel.forget {c : Cx} {γ : GS} {env : Env} {W Z : Addr → Prop} {ρ ρ' : Vars} {s : Shared} (R : Rel c γ env W Z ρ s) (l : ∀ x u, ρ' x = some u → ρ x = some u) : Rel c γ env W Z ρ' s :=
  ⟨R.ok, R.g, R.kind, R.gl, R.bl, R.ns, R.wl, R.wM, R.cinj, R.cell, R.cw, fun x u h => R.vars x u (l x u h), fun x y ds es v h1 h2 => R.oinj x y ds es v (l _ _ h1) (l _ _ h2)⟩
theorem Rel.moreZ {c : Cx} {γ : GS} {env : Env} {W Z Z' : Addr → Prop} {ρ : Vars} {s s' : Shared} (R : Rel c γ env W Z ρ s) (G : Grow s s') (l : ∀ b, Z b → Z' b) (n : ∀ b, Z' b → Z b ∨ s.heap.get? b = none) (lv : ∀ b, Z' b → ∃ o, s'.heap.get? b = some o) :
    Rel c γ env W Z' ρ s' := by
  have k : Carry (un Z W) s.heap (un Z' W) s'.heap := ⟨fun b o _ e => G.keep b o e, fun b o nb e y => y.elim (fun z => (n b z).elim (fun z => nb (.inl z)) fun q => by rw [q] at e; cases e) fun w => nb (.inr w)⟩
  have R' := R.grow G
  refine ⟨R.ok, R.g.more G (fun b h => h.elim (fun z => .inl (l b z)) .inr) (fun b h => h.elim (fun z => (n b z).elim (fun z => .inl (.inl z)) .inr) fun w => .inl (.inr w)) (fun b h => h.elim (lv b) fun w => R'.g.live b (.inr w)), R.kind, R.gl, R.bl, R'.ns, R.wl, R.wM, R.cinj, R'.cell, R.cw, fun x u h => ?_, R'.oinj⟩
  obtain ⟨v, q, r⟩ := R.vars x u h
  exact ⟨v, q.grow G.keep, r.carry k (fun _ h => h) (fun b o z e z' => (n b z').elim z fun q => by rw [q] at e; cases e) fun _ _ _ _ i => ol_at i fun o e => G.keep _ o e⟩
theorem Rel.moreW {c : Cx} {γ : GS} {env : Env} {W W' Z : Addr → Prop} {ρ : Vars} {s s' : Shared} (R : Rel c γ env W Z ρ s) (G : Grow s s') (l : ∀ b, W b → W' b) (n : ∀ b, W' b → W b ∨ s.heap.get? b = none) (lv : ∀ b, W' b → ∃ o, s'.heap.get? b = some o) :
    Rel c γ env W' Z ρ s' := by
  have k : Carry (un Z W) s.heap (un Z W') s'.heap := ⟨fun b o _ e => G.keep b o e, fun b o nb e y => y.elim (fun z => nb (.inl z)) fun w => (n b w).elim (fun w => nb (.inr w)) fun q => by rw [q] at e; cases e⟩
  have R' := R.grow G
  refine ⟨R.ok, R.g.more G (fun b h => h.elim .inl fun w => .inr (l b w)) (fun b h => h.elim (fun z => .inl (.inl z)) fun w => (n b w).elim (fun w => .inl (.inr w)) .inr) (fun b h => h.elim (fun z => R'.g.live b (.inl z)) (lv b)), R.kind, R.gl, R.bl, R'.ns, l _ R.wl, (fun b hb => l _ (R.wM b hb)), R.cinj, R'.cell, fun h x a q => l _ (R.cw h x a q), fun x u h => ?_, R'.oinj⟩
  obtain ⟨v, q, r⟩ := R.vars x u h
  exact ⟨v, q.grow G.keep, r.carry k l (fun _ _ z _ => z) fun _ _ _ _ i => ol_at i fun o e => G.keep _ o e⟩
theorem GRel.write {c : Cx} {γ : GS} {X : Addr → Prop} {s s' : Shared} {b₀ : Addr} (x : GRel c γ X s) (hs : Heap.SameBut b₀ s.heap s'.heap) (hb : X b₀) (hM : ¬ c.M b₀) (lv : ∃ o, s'.heap.get? b₀ = some o) (e1 : s'.gens = s.gens) (e2 : s'.os = s.os) (e3 : s'.drawn = s.drawn) : GRel c γ X s' := by
  have ne : ∀ b o, c.h0.get? b = some o → b ≠ b₀ := fun b o e q => by have := x.xbase b₀ hb; rw [← q, e] at this; cases this
  have k : Carry X s.heap X s'.heap := ⟨fun b o n e => (hs.2 b fun q => n (q ▸ hb)).trans e, fun _ _ n _ => n⟩
  have kM : ∀ b o, c.M b → s.heap.get? b = some o → s'.heap.get? b = some o := fun b o m e => (hs.2 b fun q => hM (q ▸ m)).trans e
  refine ⟨fun b o e => (hs.2 b (ne b o e)).trans (x.base b o e), x.xbase, fun b h => ?_, e1.trans x.gens, e2.trans x.os, e3.trans x.drawn, x.xM, fun b hb => let ⟨i, h⟩ := x.mpl b hb; ⟨i, isList_at h fun o e => kM b o hb e⟩, c.invCarry _ _ _ _ _ x.inv k kM⟩
  by_cases q : b = b₀
  · exact q ▸ lv
  · obtain ⟨o, ho⟩ := x.live b h; exact ⟨o, (hs.2 b q).trans ho⟩
theorem list_ne_ns {h : Heap} {l L : Addr} {items : Array Value} {m : Str → Option Value} (x : h.IsList l items) (y : h.Ns L m) : l ≠ L := by
  rintro rfl
  obtain ⟨o, e, _, n, d⟩ := x
  obtain ⟨o', es, ep, e', d', _⟩ := y
  rw [e] at e'; cases e'; rw [d] at d'; cases d'
theorem list_ne_cell {h : Heap} {l a : Addr} {items : Array Value} {v : Option Value} (x : h.IsList l items) (y : h.IsCell a v) : l ≠ a := by
  rintro rfl
  obtain ⟨o, e, _, n, d⟩ := x
  obtain ⟨o', e', d'⟩ := y
  rw [e] at e'; cases e'; rw [d] at d'; cases d'
theorem cell_ne_ns {h : Heap} {a L : Addr} {v : Option Value} {m : Str → Option Value} (x : h.IsCell a v) (y : h.Ns L m) : a ≠ L := by
  rintro rfl
  obtain ⟨o, e, d⟩ := x
  obtain ⟨o', es, ep, e', d', _⟩ := y
  rw [e] at e'; cases e'; rw [d] at d'; cases d'
theorem Rel.nML {c : Cx} {γ : GS} {env : Env} {W Z : Addr → Prop} {ρ : Vars} {s : Shared} (R : Rel c γ env W Z ρ s) : ¬ c.M env.locals := fun m => let ⟨_, h⟩ := R.g.mpl _ m; let ⟨_, n⟩ := R.ns; list_ne_ns h n rfl
theorem GRel.Mc {c : Cx} {γ : GS} {X : Addr → Prop} {s : Shared} (g : GRel c γ X s) {a : Addr} {v : Option Value} (h : s.heap.IsCell a v) : ¬ c.M a := fun m => let ⟨_, i⟩ := g.mpl _ m; list_ne_cell i h rfl
theorem ns_live {h : Heap} {a : Addr} {m : Str → Option Value} (x : h.Ns a m) : ∃ o, h.get? a = some o := let ⟨o, _, _, e, _⟩ := x; ⟨o, e⟩
theorem cell_live {h : Heap} {a : Addr} {v : Option Value} (x : h.IsCell a v) : ∃ o, h.get? a = some o := let ⟨o, e, _⟩ := x; ⟨o, e⟩
theorem list_live {h : Heap} {a : Addr} {v : Array Value} (x : h.IsList a v) : ∃ o, h.get? a = some o := let ⟨o, e, _⟩ := x; ⟨o, e⟩
theorem Rel.storeX {c : Cx} {γ : GS} {env : Env} {W Z : Addr → Prop} {ρ : Vars} {s : Shared} {A : Around} {x : Str} {v : Value} {u : V} {Q : Unit → Shared → Prop} {E : Value → Shared → Prop}
    (R : Rel c γ env W Z ρ s) (hx : env.kindOf x = some .local ∨ (env.kindOf x = some .cell ∧ env.func.isSome = true ∧ (env.cells.lookup x).isSome = true)) (r : VOk c env W Z ρ s v u)
    (h : ∀ s', Ext W s W s' → Rel c γ env W Z (upd ρ x u) s' → (∀ l items, OL s.heap l items → OL s'.heap l items) → VarAt env s'.heap x v → (∀ y w, y ≠ x → VarAt env s.heap y w → VarAt env s'.heap y w) → Q () s') : wpAny (model c.prog c.w) A (storeName env x v) Q E s := by
  have main : ∀ (s' : Shared) (b₀ : Addr), W b₀ → ¬ c.M b₀ → Heap.SameBut b₀ s.heap s'.heap → (∃ o, s'.heap.get? b₀ = some o) → s'.gens = s.gens → s'.os = s.os → s'.drawn = s.drawn →
      (∃ m, s'.heap.Ns env.locals m) → (∀ y a, env.cells.lookup y = some a → ∃ v, s'.heap.IsCell a v) → (∀ l items, s.heap.IsList l items → l ≠ b₀) →
      VarAt env s'.heap x v → (∀ y w, y ≠ x → VarAt env s.heap y w → VarAt env s'.heap y w) → Q () s' := by
    intro s' b₀ hw hM hs lv e1 e2 e3 hns hcl hl hv hv'
    have ext : Ext W s W s' := ⟨fun b o e => by
      by_cases q : b = b₀
      · exact q ▸ lv
      · exact ⟨o, (hs.2 b q).trans e⟩, fun _ h => .inl h, fun b o n e => (hs.2 b fun q => n (q ▸ hw)).trans e⟩
    have kl : ∀ l, W l → ¬ c.M l → ∀ items, OL s.heap l items → OL s'.heap l items := fun l _ _ items i => ol_at i fun o e => (hs.2 _ (hl l items i.isList)).trans e
    refine h s' ext ⟨R.ok, R.g.write hs (.inr hw) hM lv e1 e2 e3, R.kind, R.gl, R.bl, hns, R.wl, R.wM, R.cinj, hcl, R.cw, fun y u' q => ?_, fun y z ds es w q1 q2 a1 a2 => ?_⟩ (fun l items i => ol_at i fun o e => (hs.2 _ (hl l items i.isList)).trans e) hv hv'
    · by_cases e : y = x
      · subst e
        simp only [upd, if_true, Option.some.injEq] at q
        subst q
        exact ⟨v, hv, r.1.carry ext.carry (fun _ h => h) (fun _ _ z _ => z) kl⟩
      · simp only [upd, if_neg e] at q
        obtain ⟨w, a, rr⟩ := R.vars y u' q
        exact ⟨w, hv' y w e a, rr.carry ext.carry (fun _ h => h) (fun _ _ z _ => z) kl⟩
    · by_cases e1 : y = x <;> by_cases e2 : z = x
      · rw [e1, e2]
      · subst e1
        simp only [upd, if_true, Option.some.injEq] at q1
        subst q1
        simp only [upd, if_neg e2] at q2
        obtain ⟨w2, b2, _⟩ := R.vars z _ q2
        have := VarAt.unique hv a1; subst this
        exact absurd (VarAt.unique (hv' z w2 e2 b2) a2) (r.2 z es w2 q2 b2)
      · subst e2
        simp only [upd, if_true, Option.some.injEq] at q2
        subst q2
        simp only [upd, if_neg e1] at q1
        obtain ⟨w2, b2, _⟩ := R.vars y _ q1
        have := VarAt.unique hv a2; subst this
        exact absurd (VarAt.unique (hv' y w2 e1 b2) a1) (r.2 y ds w2 q1 b2)
      · simp only [upd, if_neg e1] at q1
        simp only [upd, if_neg e2] at q2
        obtain ⟨w1, b1, _⟩ := R.vars y _ q1
        obtain ⟨w2, b2, _⟩ := R.vars z _ q2
        have := VarAt.unique (hv' y w1 e1 b1) a1; subst this
        have := VarAt.unique (hv' z w2 e2 b2) a2; subst this
        exact R.oinj y z ds es _ q1 q2 b1 b2
  obtain ⟨m, hn⟩ := R.ns
  rcases hx with hx | ⟨hx, hf, hc⟩
  · refine wpAny_storeName_local hx hn (fun h' hn' hs' => ?_) (by rw [R.kind]; rfl)
    refine main _ env.locals R.wl R.nML hs' (ns_live hn') rfl rfl rfl ⟨_, hn'⟩ (fun y a q => let ⟨v, qq⟩ := R.cell y a q; ⟨v, qq.sameBut hs' (cell_ne_ns qq hn)⟩) (fun l items i => list_ne_ns i hn) ?_ ?_
    · unfold VarAt; rw [hx]; exact ⟨_, hn', by simp⟩
    · intro y w ne a
      unfold VarAt at a ⊢
      split
      · rename_i e; rw [e] at a; obtain ⟨m', n', q⟩ := a; cases ns_unique hn n'; exact ⟨_, hn', by simp [ne, q]⟩
      · rename_i e; rw [e] at a; obtain ⟨b, l, q⟩ := a; exact ⟨b, l, q.sameBut hs' (cell_ne_ns q hn)⟩
      · rename_i e; rw [e] at a; obtain ⟨b, l, q⟩ := a; exact ⟨b, l, q.sameBut hs' (cell_ne_ns q hn)⟩
      · split at a <;> simp_all
  · obtain ⟨a, hl⟩ := Option.isSome_iff_exists.mp hc
    obtain ⟨v₀, hv₀⟩ := R.cell x a hl
    refine wpAny_storeName_cell R.kind hx hl hv₀ fun h' hv' hs' => ?_
    refine main _ a (R.cw hf x a hl) (R.g.Mc hv₀) hs' (cell_live hv') rfl rfl rfl ⟨m, hn.sameBut hs' (Ne.symm (cell_ne_ns hv₀ hn))⟩ (fun y b q => ?_) (fun l items i => list_ne_cell i hv₀) ?_ ?_
    · by_cases e : b = a
      · subst e; exact ⟨_, hv'⟩
      · obtain ⟨v, qq⟩ := R.cell y b q; exact ⟨v, qq.sameBut hs' e⟩
    · unfold VarAt; rw [hx]; exact ⟨a, hl, hv'⟩
    · intro y w ne b
      have ca : ∀ b, env.cells.lookup y = some b → b ≠ a := fun b q e => ne (R.cinj y x a (e ▸ q) hl)
      unfold VarAt at b ⊢
      split
      · rename_i e; rw [e] at b; obtain ⟨m', n', q⟩ := b; exact ⟨m', n'.sameBut hs' (Ne.symm (cell_ne_ns hv₀ n')), q⟩
      · rename_i e; rw [e] at b; obtain ⟨b, l, q⟩ := b; exact ⟨b, l, q.sameBut hs' (ca b l)⟩
      · rename_i e; rw [e] at b; obtain ⟨b, l, q⟩ := b; exact ⟨b, l, q.sameBut hs' (ca b l)⟩
      · split at b <;> simp_all
theorem Rel.store {c : Cx} {γ : GS} {env : Env} {W Z : Addr → Prop} {ρ : Vars} {s : Shared} {A : Around} {x : Str} {v : Value} {u : V} {Q : Unit → Shared → Prop} {E : Value → Shared → Prop}
    (R : Rel c γ env W Z ρ s) (hx : env.kindOf x = some .local ∨ (env.kindOf x = some .cell ∧ env.func.isSome = true ∧ (env.cells.lookup x).isSome = true)) (r : VOk c env W Z ρ s v u)
    (h : ∀ s', Ext W s W s' → Rel c γ env W Z (upd ρ x u) s' → Q () s') : wpAny (model c.prog c.w) A (storeName env x v) Q E s :=
  R.storeX hx r fun s' a b _ _ _ => h s' a b
noncomputable def FreshV (s : Shared) (v : Value) : V → Prop
  | .d _ => True
  | .own _ => ∀ l, v = .ref l → s.heap.get? l = none
noncomputable def Ev (c : Cx) (k : Nat) (S : Scope) (ρ : Vars) (γ : GS) (t : Env → Sem Value) (u : V) (ρ' : Vars) (γ' : GS) : Prop :=
  ∀ (A : Around) (env : Env) (W Z : Addr → Prop) (s : Shared) (Q : Value → Shared → Prop) (E : Value → Shared → Prop), env.scope = S → Room A k → Rel c γ env W Z ρ s →
    (∀ v s' W', ExtE env W s W' s' → Rel c γ' env W' Z ρ' s' → VOk c env W' Z ρ' s' v u → FreshV s v u → Q v s') → wpAny (model c.prog c.w) A (t env) Q E s
noncomputable abbrev EvE (c : Cx) (k : Nat) (S : Scope) (ρ : Vars) (γ : GS) (e : Expr) (u : V) (ρ' : Vars) (γ' : GS) : Prop := Ev c k S ρ γ (fun env => eval e env) u ρ' γ'
noncomputable def Tst (c : Cx) (k : Nat) (S : Scope) (ρ : Vars) (γ : GS) (t : Env → Sem Bool) (b : Bool) (ρ' : Vars) (γ' : GS) : Prop :=
  ∀ (A : Around) (env : Env) (W Z : Addr → Prop) (s : Shared) (Q : Bool → Shared → Prop) (E : Value → Shared → Prop), env.scope = S → Room A k → Rel c γ env W Z ρ s →
    (∀ s' W', ExtE env W s W' s' → Rel c γ' env W' Z ρ' s' → Q b s') → wpAny (model c.prog c.w) A (t env) Q E s
noncomputable abbrev TstE (c : Cx) (k : Nat) (S : Scope) (ρ : Vars) (γ : GS) (e : Expr) (b : Bool) (ρ' : Vars) (γ' : GS) : Prop := Tst c k S ρ γ (fun env => isTrue e env (eval e env)) b ρ' γ'
noncomputable def OpRes (X : Addr → Prop) (s s' : Shared) (v : Value) : V → Prop
  | .d d => Rep X s'.heap v d
  | .own ds => ∃ l vs, v = .ref l ∧ s.heap.get? l = none ∧ OL s'.heap l vs.toArray ∧ Reps (fun b => X b ∨ b = l) s'.heap vs ds
noncomputable def Live (X : Addr → Prop) (s : Shared) : Prop := ∀ b, X b → ∃ o, s.heap.get? b = some o
noncomputable def Op (c : Cx) (k : Nat) (t : List Value → Sem Value) (ds : List D) (u : V) : Prop :=
  ∀ (A : Around) (s : Shared) (X : Addr → Prop) (vs : List Value) (Q : Value → Shared → Prop) (E : Value → Shared → Prop), Room A k → CxOk c → (∀ b o, c.h0.get? b = some o → s.heap.get? b = some o) → Live X s → Reps X s.heap vs ds →
    (∀ v s', Grow s s' → OpRes X s s' v u → Q v s') → wpAny (model c.prog c.w) A (t vs) Q E s
section
variable {c : Cx} {k : Nat} {S : Scope} {ρ ρ' ρ₁ ρ₂ ρ₃ : Vars} {γ γ' γ₁ γ₂ γ₃ : GS}
theorem Rel.after {env : Env} {W Z : Addr → Prop} {s s' : Shared} {v : Value} {u : V} (R : Rel c γ env W Z ρ s) (G : Grow s s') (r : OpRes (un Z W) s s' v u) :
    ∃ W', ExtE env W s W' s' ∧ Rel c γ env W' Z ρ s' ∧ VOk c env W' Z ρ s' v u ∧ FreshV s v u := by
  cases u with
  | d d => exact ⟨W, ExtE.grow G, R.grow G, ⟨r, trivial⟩, trivial⟩
  | own ds =>
    obtain ⟨l, vs, rfl, hl, hi, hr⟩ := r
    have hlW : ¬ W l := fun w => by obtain ⟨o, e⟩ := R.g.live l (.inr w); rw [hl] at e; cases e
    have hlZ : ¬ Z l := fun w => by obtain ⟨o, e⟩ := R.g.live l (.inl w); rw [hl] at e; cases e
    have x : Ext W s (fun b => W b ∨ b = l) s' := ⟨fun b o e => ⟨o, G.keep b o e⟩, fun b h => h.elim .inl fun e => .inr (e ▸ hl), fun b o _ e => G.keep b o e⟩
    have lv : ∀ b, (W b ∨ b = l) → ∃ o, s'.heap.get? b = some o := fun b h => h.elim (fun w => (R.grow G).g.live b (.inr w)) fun e => e ▸ list_live hi.isList
    refine ⟨_, ⟨x, fun _ _ h => h.grow G.keep⟩, R.moreW G (fun _ h => .inl h) (fun b h => h.elim .inl fun e => .inr (e ▸ hl)) lv, ⟨⟨l, vs, rfl, .inr rfl, hlZ, fun m => hlW (R.wM l m), hi, ?_⟩, ?_⟩, fun l' e => by cases e; exact hl⟩
    · exact hr.carry (Carry.less fun b y => y.elim (fun z => .inl (.inl z)) fun w => w.elim (fun w => .inl (.inr w)) .inr)
    · intro x es v' hx hv e
      obtain ⟨w, a, l', vs', e1, w', _, _⟩ := R.vars x _ hx
      have := VarAt.unique (a.grow G.keep) hv; subst this
      subst e1; cases e
      exact hlW w'
theorem FreshV.trans {W W' : Addr → Prop} {s s' : Shared} {v : Value} {u : V} (x : Ext W s W' s') (f : FreshV s' v u) : FreshV s v u := by
  cases u with
  | d d => trivial
  | own ds =>
    intro l e
    have q := f l e
    cases q' : s.heap.get? l with
    | none => rfl
    | some o =>
      obtain ⟨o', e'⟩ := x.live l o q'; rw [q] at e'; cases e'
theorem Ev.data {t : Env → Sem Value} {ds : List D} (h : Ev c k S ρ γ t (.own ds) ρ' γ') : Ev c k S ρ γ t (.d (.list ds)) ρ' γ' := by
  intro A env W Z s Q E hs r R q
  refine h A env W Z s Q E hs r R fun v s' W' x R' ok f => ?_
  obtain ⟨⟨l, vs, rfl, hw, hlZ, nM, hi, hr⟩, hu⟩ := ok
  have hl := f l rfl
  have hlW : ¬ W l := fun w => by obtain ⟨o, e⟩ := R.g.live l (.inr w); rw [hl] at e; cases e
  obtain ⟨m, hn⟩ := R'.ns
  have less : ∀ b, (W' b ∧ b ≠ l) → W' b := fun b h => h.1
  have k : Carry (un Z W') s'.heap (un Z fun b => W' b ∧ b ≠ l) s'.heap := Carry.less fun b h => h.elim .inl fun w => .inr w.1
  refine q (.ref l) s' (fun b => W' b ∧ b ≠ l) ⟨⟨x.live, fun b w => x.new b w.1, x.keep⟩, x.names⟩ ?_ ⟨.list (fun h => h.elim hlZ fun w => w.2 rfl) hi (hr.carry k), trivial⟩ trivial
  refine ⟨R'.ok, R'.g.less (fun b h => h.elim .inl fun w => .inr w.1) (fun b m => .inr ⟨R'.wM b m, fun e => nM (e ▸ m)⟩), R'.kind, R'.gl, R'.bl, R'.ns, ⟨R'.wl, fun e => list_ne_ns hi.isList hn e.symm⟩, fun b m => ⟨R'.wM b m, fun e => nM (e ▸ m)⟩, R'.cinj, R'.cell,
    fun hf y a ha => ⟨R'.cw hf y a ha, fun e => ?_⟩, fun y u hy => ?_, R'.oinj⟩
  · obtain ⟨v, hc⟩ := R'.cell y a ha; exact list_ne_cell hi.isList hc e.symm
  · obtain ⟨v, a, r⟩ := R'.vars y u hy
    refine ⟨v, a, ?_⟩
    cases u with
    | d d => exact Rep.carry k r
    | own es =>
      obtain ⟨l', vs', e, w', z', m1, i', r'⟩ := r
      exact ⟨l', vs', e, ⟨w', fun q => hu y es v hy a (e.trans (by rw [q]))⟩, z', m1, i', r'.carry k⟩
theorem Rel.freeze {env : Env} {W Z : Addr → Prop} {s : Shared} {x : Str} {ds : List D} (R : Rel c γ env W Z ρ s) (hx : ρ x = some (.own ds)) :
    ∃ W', Ext W s W' s ∧ Rel c γ env W' Z (upd ρ x (.d (.list ds))) s := by
  obtain ⟨v, hv, l, vs, rfl, hw, hz, nM, hi, hr⟩ := R.vars x _ hx
  obtain ⟨m, hn⟩ := R.ns
  have k : Carry (un Z W) s.heap (un Z fun b => W b ∧ b ≠ l) s.heap := Carry.less fun b h => h.elim .inl fun w => .inr w.1
  refine ⟨fun b => W b ∧ b ≠ l, ⟨fun _ o e => ⟨o, e⟩, fun b w => .inl w.1, fun _ _ _ e => e⟩, ?_⟩
  refine ⟨R.ok, R.g.less (fun b h => h.elim .inl fun w => .inr w.1) (fun b m => .inr ⟨R.wM b m, fun e => nM (e ▸ m)⟩), R.kind, R.gl, R.bl, R.ns, ⟨R.wl, fun e => list_ne_ns hi.isList hn e.symm⟩, fun b m => ⟨R.wM b m, fun e => nM (e ▸ m)⟩, R.cinj, R.cell,
    fun hf y a ha => ⟨R.cw hf y a ha, fun e => ?_⟩, fun y u hy => ?_, fun y z es fs v' h1 h2 a1 a2 => ?_⟩
  · obtain ⟨v, hc⟩ := R.cell y a ha; exact list_ne_cell hi.isList hc e.symm
  · by_cases e : y = x
    · subst e
      simp only [upd, if_true, Option.some.injEq] at hy
      subst hy
      exact ⟨_, hv, .list (fun h => h.elim hz fun w => w.2 rfl) hi (hr.carry k)⟩
    · simp only [upd, if_neg e] at hy
      obtain ⟨v, a, r⟩ := R.vars y u hy
      refine ⟨v, a, ?_⟩
      cases u with
      | d d => exact Rep.carry k r
      | own es =>
        obtain ⟨l', vs', e1, w', z', m1, i', r'⟩ := r
        exact ⟨l', vs', e1, ⟨w', fun q => e (R.oinj y x es ds v hy hx a (e1 ▸ q ▸ hv))⟩, z', m1, i', r'.carry k⟩
  · have n1 : y ≠ x := fun e => by subst e; simp [upd] at h1
    have n2 : z ≠ x := fun e => by subst e; simp [upd] at h2
    simp only [upd, if_neg n1] at h1
    simp only [upd, if_neg n2] at h2
    exact R.oinj y z es fs v' h1 h2 a1 a2
end
section
variable {c : Cx} {k : Nat} {S : Scope} {ρ ρ' ρ₁ ρ₂ ρ₃ : Vars} {γ γ' γ₁ γ₂ γ₃ : GS}
noncomputable def op1 (f : Value → Sem Value) : List Value → Sem Value
  | [a] => f a
  | _ => unsupported "op1"
noncomputable def op2 (f : Value → Value → Sem Value) : List Value → Sem Value
  | [a, b] => f a b
  | _ => unsupported "op2"
theorem ev_name {x : Str} {pos : Pos} {d : D} (h : ρ x = some (.d d)) (hd : (x == ("__debug__" : Str)) = false := by decide) (hn : (x == ("__classdict__" : Str)) = false := by decide) : EvE c k S ρ γ (.Name x pos) (.d d) ρ γ := by
  intro A env W Z s Q E hs r R q
  obtain ⟨v, a, rr⟩ := R.vars x _ h
  have fin : Q v s := q v s W (ExtE.refl env W s) R ⟨rr, trivial⟩ trivial
  refine wpAny_Name ?_ hd
  unfold VarAt at a
  split at a
  · rename_i e; obtain ⟨m, n, hm⟩ := a; exact wpAny_loadName_local R.kind e n hm fin
  · rename_i e; obtain ⟨b, l, hc⟩ := a; exact wpAny_loadName_cell R.kind e l hc fin
  · rename_i e; obtain ⟨b, l, hc⟩ := a; exact wpAny_loadName_free R.kind e l hc fin hn
  · exact a.elim
theorem Rel.mgNs {env : Env} {W Z : Addr → Prop} {s : Shared} (R : Rel c γ env W Z ρ s) : s.heap.Ns env.globals c.mg := R.gl ▸ R.ok.g.keeps R.g.base
theorem Rel.mbNs {env : Env} {W Z : Addr → Prop} {s : Shared} (R : Rel c γ env W Z ρ s) : s.heap.Ns env.builtins c.mb := R.bl ▸ R.ok.b.keeps R.g.base
theorem ev_glob {x : Str} {pos : Pos} {v : Value} (hx : S.names.lookup x = some .globalImplicit) (h : c.mg x = some v) (hd : (x == ("__debug__" : Str)) = false := by decide) : EvE c k S ρ γ (.Name x pos) (.d (.raw v)) ρ γ := by
  intro A env W Z s Q E hs r R q
  refine Name_function_global R.kind (by unfold Env.kindOf; rw [hs]; exact hx) (loadGlobal_global R.mgNs h (q v s W (ExtE.refl env W s) R ⟨.raw v, trivial⟩ trivial)) hd
theorem ev_builtin {x : Str} {pos : Pos} {v : Value} (hx : S.names.lookup x = some .globalImplicit) (h : c.mg x = none) (hv : bootBuiltins x = some v) (hne : x ≠ "__name__" := by decide) (hd : (x == ("__debug__" : Str)) = false := by decide) : EvE c k S ρ γ (.Name x pos) (.d (.raw v)) ρ γ := by
  intro A env W Z s Q E hs r R q
  refine Name_function_global R.kind (by unfold Env.kindOf; rw [hs]; exact hx) (loadGlobal_builtin R.mgNs h R.mbNs ((R.ok.bi x hne).trans hv) (q v s W (ExtE.refl env W s) R ⟨.raw v, trivial⟩ trivial)) hd
theorem Rel.tok {env : Env} {W Z : Addr → Prop} {s : Shared} (R : Rel c γ env W Z ρ s) (t : Nat) : Grow s { s with toks := t } := ⟨fun _ _ e => e, rfl, rfl, rfl⟩
theorem ev_int {i : Int} {j : Nat} {pos : Pos} : EvE c k S ρ γ (.Constant (.int i) j pos) (.d (.int i)) ρ γ := fun A env W Z s Q E hs r R q =>
  wpAny_Constant_int (q _ _ W (ExtE.grow (R.tok _)) (R.grow (R.tok _)) ⟨.int i _, trivial⟩ trivial)
theorem ev_str {x : Str} {j : Nat} {pos : Pos} : EvE c k S ρ γ (.Constant (.str x) j pos) (.d (.str x)) ρ γ := fun A env W Z s Q E hs r R q =>
  wpAny_Constant_str (q _ _ W (ExtE.grow (R.tok _)) (R.grow (R.tok _)) ⟨.str x _, trivial⟩ trivial)
theorem ev_none {j : Nat} {pos : Pos} : EvE c k S ρ γ (.Constant .none j pos) (.d .none) ρ γ := fun A env W Z s Q E hs r R q =>
  wpAny_Constant_none (q _ _ W (ExtE.refl env W s) R ⟨.none, trivial⟩ trivial)
theorem ev_bool {b : Bool} {j : Nat} {pos : Pos} : EvE c k S ρ γ (.Constant (.bool b) j pos) (.d (.bool b)) ρ γ := fun A env W Z s Q E hs r R q =>
  wpAny_Constant_bool (q _ _ W (ExtE.refl env W s) R ⟨.bool b, trivial⟩ trivial)
noncomputable def Evs (c : Cx) (k : Nat) (S : Scope) (ρ : Vars) (γ : GS) (es : List Expr) (ds : List D) (ρ' : Vars) (γ' : GS) : Prop :=
  ∀ (pos : Pos) (A : Around) (env : Env) (W Z : Addr → Prop) (s : Shared) (Q : List Value → Shared → Prop) (E : Value → Shared → Prop), env.scope = S → Room A k → Rel c γ env W Z ρ s →
    (∀ vs s' W', ExtE env W s W' s' → Rel c γ' env W' Z ρ' s' → Reps (un Z W') s'.heap vs ds → Q vs s') → wpAny (model c.prog c.w) A (spliced (backTo pos (starEach es env))) Q E s
theorem evs_nil : Evs c k S ρ γ [] [] ρ γ := fun pos A env W Z s Q E hs r R q => wpAny_items_nil (q [] s W (ExtE.refl env W s) R .nil)
theorem evs_cons {e : Expr} {es : List Expr} {d : D} {ds : List D} (h1 : EvE c k S ρ γ e (.d d) ρ₁ γ₁) (h2 : Evs c k S ρ₁ γ₁ es ds ρ₂ γ₂)
    (he : ∀ env, starEach (e :: es) env = (false, eval e env) :: starEach es env := by intro _; rfl) : Evs c k S ρ γ (e :: es) (d :: ds) ρ₂ γ₂ := by
  intro pos A env W Z s Q E hs r R q
  refine wpAny_items_cons (h1 A env W Z s _ E hs r R fun v s₁ W₁ x₁ R₁ o₁ f₁ => ?_) (he env)
  refine h2 pos A env W₁ Z s₁ _ E hs r R₁ fun vs s₂ W₂ x₂ R₂ rs => ?_
  exact q (v :: vs) s₂ W₂ (x₁.trans x₂) R₂ (.cons (Rep.carry x₂.carry o₁.1) rs)
theorem push_grow (s : Shared) (o : Obj) : Grow s { s with heap := s.heap.push o } := ⟨fun _ _ e => Heap.get?_push_of_some _ e, rfl, rfl, rfl⟩
theorem fresh_size (h : Heap) : h.get? h.objs.size = none := by
  cases e : h.get? h.objs.size with
  | none => rfl
  | some o => exact absurd (Heap.lt_size e) (Nat.lt_irrefl _)
theorem not_live {X : Addr → Prop} {s : Shared} (lv : Live X s) : ¬ X s.heap.objs.size := fun h => by obtain ⟨o, e⟩ := lv _ h; rw [fresh_size] at e; cases e
theorem isTuple_push (h : Heap) (vs : List Value) : TupAt (h.push { cls := .type "tuple", data := .seq vs.toArray }) h.objs.size vs.toArray := ⟨_, Heap.get?_push_size _ rfl⟩
theorem isList_push (h : Heap) (vs : List Value) : OL (h.push { cls := .type "list", data := .seq vs.toArray }) h.objs.size vs.toArray := ⟨_, Heap.get?_push_size _ rfl⟩
theorem op_newTuple {ds : List D} (hn : ds.length ≤ 16777216) : Op c k newTuple ds (.d (.tuple ds)) := by
  intro A s X vs Q E r ok base lv rs q
  refine wpAny_newObj_type (q _ _ (push_grow s _) (.tuple (not_live lv) (isTuple_push _ _) (rs.carry (push_grow s _).carry))) ?_
  show vs.toArray.size ≤ sizeLine
  rw [List.size_toArray, rs.length]; exact hn
theorem op_newList {ds : List D} (hn : ds.length ≤ 16777216) : Op c k newList ds (.own ds) := by
  intro A s X vs Q E r ok base lv rs q
  refine wpAny_newObj_type (q _ _ (push_grow s _) ⟨_, vs, rfl, fresh_size _, isList_push _ _, rs.carry ⟨fun b o _ e => Heap.get?_push_of_some _ e, fun b o n e y => y.elim n fun q => ?_⟩⟩) ?_
  · show vs.toArray.size ≤ sizeLine
    rw [List.size_toArray, rs.length]; exact hn
  · rw [q, fresh_size] at e; cases e
theorem run_args {es : List Expr} {ds : List D} {t : List Value → Sem Value} {u : V} (h1 : Evs c k S ρ γ es ds ρ₁ γ₁) (h2 : Op c k t ds u) (pos : Pos)
    (A : Around) (env : Env) (W Z : Addr → Prop) (s : Shared) (Q : Value → Shared → Prop) (E : Value → Shared → Prop) (hs : env.scope = S) (r : Room A k) (R : Rel c γ env W Z ρ s)
    (q : ∀ v s' W', ExtE env W s W' s' → Rel c γ₁ env W' Z ρ₁ s' → VOk c env W' Z ρ₁ s' v u → FreshV s v u → Q v s') : wpAny (model c.prog c.w) A (spliced (backTo pos (starEach es env))) (fun vs s₁ => wpAny (model c.prog c.w) A (t vs) Q E s₁) E s := by
  refine h1 pos A env W Z s _ E hs r R fun vs s₁ W₁ x₁ R₁ rs => ?_
  refine h2 A s₁ (un Z W₁) vs Q E r R₁.ok R₁.g.base R₁.g.live rs fun v s₂ G res => ?_
  obtain ⟨W₂, x₂, R₂, o₂, f₂⟩ := R₁.after G res
  exact q v s₂ W₂ (x₁.trans x₂) R₂ o₂ (f₂.trans x₁.toExt)
theorem ev_tuple {es : List Expr} {ds : List D} {j : Nat} {pos : Pos} (h : Evs c k S ρ γ es ds ρ₁ γ₁) (hn : ds.length ≤ 16777216 := by decide) : EvE c k S ρ γ (.Tuple es j pos) (.d (.tuple ds)) ρ₁ γ₁ := by
  intro A env W Z s Q E hs r R q
  show wpAny _ A (do standAt pos; newTuple (← spliced (backTo pos (starEach es env)))) Q E s
  exact wpAny_bind (wpAny_standAt (wpAny_bind (run_args h (op_newTuple hn) pos A env W Z s Q E hs r R q)))
theorem ev_list {es : List Expr} {ds : List D} {pos : Pos} (h : Evs c k S ρ γ es ds ρ₁ γ₁) (hn : ds.length ≤ 16777216 := by decide) : EvE c k S ρ γ (.List es pos) (.own ds) ρ₁ γ₁ := by
  intro A env W Z s Q E hs r R q
  show wpAny _ A (do standAt pos; newList (← spliced (backTo pos (starEach es env)))) Q E s
  exact wpAny_bind (wpAny_standAt (wpAny_bind (run_args h (op_newList hn) pos A env W Z s Q E hs r R q)))
theorem run1 {t : Env → Sem Value} {f : Value → Sem Value} {a : D} {u : V} (h1 : Ev c k S ρ γ t (.d a) ρ₁ γ₁) (h2 : Op c k (op1 f) [a] u)
    (A : Around) (env : Env) (W Z : Addr → Prop) (s : Shared) (Q : Value → Shared → Prop) (E : Value → Shared → Prop) (hs : env.scope = S) (r : Room A k) (R : Rel c γ env W Z ρ s)
    (q : ∀ v s' W', ExtE env W s W' s' → Rel c γ₁ env W' Z ρ₁ s' → VOk c env W' Z ρ₁ s' v u → FreshV s v u → Q v s') : wpAny (model c.prog c.w) A (t env) (fun a s₁ => wpAny (model c.prog c.w) A (f a) Q E s₁) E s := by
  refine h1 A env W Z s _ E hs r R fun v s₁ W₁ x₁ R₁ o₁ f₁ => ?_
  refine h2 A s₁ (un Z W₁) [v] Q E r R₁.ok R₁.g.base R₁.g.live (.cons o₁.1 .nil) fun v s₂ G res => ?_
  obtain ⟨W₂, x₂, R₂, o₂, f₂⟩ := R₁.after G res
  exact q v s₂ W₂ (x₁.trans x₂) R₂ o₂ (f₂.trans x₁.toExt)
theorem run2 {t t' : Env → Sem Value} {f : Value → Value → Sem Value} {a b : D} {u : V} (h1 : Ev c k S ρ γ t (.d a) ρ₁ γ₁) (h1' : Ev c k S ρ₁ γ₁ t' (.d b) ρ₂ γ₂) (h2 : Op c k (op2 f) [a, b] u)
    (A : Around) (env : Env) (W Z : Addr → Prop) (s : Shared) (Q : Value → Shared → Prop) (E : Value → Shared → Prop) (hs : env.scope = S) (r : Room A k) (R : Rel c γ env W Z ρ s)
    (q : ∀ v s' W', ExtE env W s W' s' → Rel c γ₂ env W' Z ρ₂ s' → VOk c env W' Z ρ₂ s' v u → FreshV s v u → Q v s') :
    wpAny (model c.prog c.w) A (t env) (fun a s₁ => wpAny (model c.prog c.w) A (t' env) (fun b s₂ => wpAny (model c.prog c.w) A (f a b) Q E s₂) E s₁) E s := by
  refine h1 A env W Z s _ E hs r R fun v s₁ W₁ x₁ R₁ o₁ f₁ => ?_
  refine h1' A env W₁ Z s₁ _ E hs r R₁ fun w s₂ W₂ x₂ R₂ o₂ f₂ => ?_
  refine h2 A s₂ (un Z W₂) [v, w] Q E r R₂.ok R₂.g.base R₂.g.live (.cons (Rep.carry x₂.carry o₁.1) (.cons o₂.1 .nil)) fun v s₃ G res => ?_
  obtain ⟨W₃, x₃, R₃, o₃, f₃⟩ := R₂.after G res
  exact q v s₃ W₃ (x₁.trans (x₂.trans x₃)) R₃ o₃ (f₃.trans (x₁.trans x₂).toExt)
theorem ev_binop {l r : Expr} {op : Operator} {pos : Pos} {a b : D} {u : V} (h1 : EvE c k S ρ γ l (.d a) ρ₁ γ₁) (h2 : EvE c k S ρ₁ γ₁ r (.d b) ρ₂ γ₂) (h3 : Op c k (op2 (binaryOp op)) [a, b] u) : EvE c k S ρ γ (.BinOp l op r pos) u ρ₂ γ₂ :=
  fun A env W Z s Q E hs rm R q => wpAny_BinOp (run2 h1 h2 h3 A env W Z s Q E hs rm R q)
theorem ev_unop {x : Expr} {op : UnaryOp} {pos : Pos} {a : D} {u : V} (h1 : EvE c k S ρ γ x (.d a) ρ₁ γ₁) (h3 : Op c k (op1 (unaryOp op)) [a] u) : EvE c k S ρ γ (.UnaryOp op x pos) u ρ₁ γ₁ :=
  fun A env W Z s Q E hs rm R q => wpAny_UnaryOp (run1 h1 h3 A env W Z s Q E hs rm R q)
theorem ev_cmp {l r : Expr} {op : CmpOp} {pos : Pos} {a b : D} {u : V} (h1 : EvE c k S ρ γ l (.d a) ρ₁ γ₁) (h2 : EvE c k S ρ₁ γ₁ r (.d b) ρ₂ γ₂) (h3 : Op c k (op2 (compareOp op)) [a, b] u)
    (hm : behindInMarks op r = false := by with_unfolding_all rfl) : EvE c k S ρ γ (.Compare l [op] [r] pos) u ρ₂ γ₂ :=
  fun A env W Z s Q E hs rm R q => wpAny_Compare1 (run2 h1 h2 h3 A env W Z s Q E hs rm R q) hm
theorem rep_bool {X : Addr → Prop} {h : Heap} {v : Value} {b : Bool} (r : Rep X h v (.bool b)) : v = .bool b := by cases r; rfl
theorem rep_int {X : Addr → Prop} {h : Heap} {v : Value} {i : Int} (r : Rep X h v (.int i)) : ∃ t, v = .int i t := by cases r; exact ⟨_, rfl⟩
theorem rep_none {X : Addr → Prop} {h : Heap} {v : Value} (r : Rep X h v .none) : v = .none := by cases r; rfl
theorem rep_raw {X : Addr → Prop} {h : Heap} {v w : Value} (r : Rep X h v (.raw w)) : v = w := by cases r; rfl
theorem tst_cmp {l r : Expr} {op : CmpOp} {pos : Pos} {a b : D} {t : Bool} (h1 : EvE c k S ρ γ l (.d a) ρ₁ γ₁) (h2 : EvE c k S ρ₁ γ₁ r (.d b) ρ₂ γ₂) (h3 : Op c k (op2 (compareOp op)) [a, b] (.d (.bool t)))
    (hm : behindInMarks op r = false := by with_unfolding_all rfl) : TstE c k S ρ γ (.Compare l [op] [r] pos) t ρ₂ γ₂ :=
  fun A env W Z s Q E hs rm R q => wpAny_isTrue_Compare1 (run2 h1 h2 h3 A env W Z s (fun v s' => wpAny (model c.prog c.w) A (truthy v) Q E s') E hs rm R fun v s' W' x R' o f => by
    rw [rep_bool o.1]; exact wpAny_truthy_bool (q s' W' x R')) hm
theorem tst_chain {l m r : Expr} {o₁ o₂ : CmpOp} {pos : Pos} {a b d : D} {t u : Bool} (h1 : EvE c k S ρ γ l (.d a) ρ₁ γ₁) (h2 : EvE c k S ρ₁ γ₁ m (.d b) ρ₂ γ₂) (h3 : Op c k (op2 (compareOp o₁)) [a, b] (.d (.bool t)))
    (h4 : t = true → EvE c k S ρ₂ γ₂ r (.d d) ρ₂ γ₂) (h5 : t = true → Op c k (op2 (compareOp o₂)) [b, d] (.d (.bool u))) (hm : lastMarks [o₁, o₂] [m, r] = false := by with_unfolding_all rfl) :
    TstE c k S ρ γ (.Compare l [o₁, o₂] [m, r] pos) (t && u) ρ₂ γ₂ := by
  intro A env W Z s Q E hs rm R q
  refine isTrue_chain ?_ hm
  refine h1 A env W Z s _ E hs rm R fun v s₁ W₁ x₁ R₁ ok₁ f₁ => test_link ?_
  refine h2 A env W₁ Z s₁ _ E hs rm R₁ fun w s₂ W₂ x₂ R₂ ok₂ f₂ => ?_
  refine h3 A s₂ (un Z W₂) [v, w] _ E rm R₂.ok R₂.g.base R₂.g.live (.cons (Rep.carry x₂.carry ok₁.1) (.cons ok₂.1 .nil)) fun y s₃ G res => ?_
  rw [rep_bool res]
  refine wpAny_truthy_bool ?_
  have R₃ := R₂.grow G
  cases t with
  | false => exact q s₃ W₂ (x₁.trans (x₂.trans (ExtE.grow G))) R₃
  | true =>
    refine test_last (h4 rfl A env W₂ Z s₃ _ E hs rm R₃ fun z s₄ W₄ x₄ R₄ ok₄ f₄ => ?_)
    refine h5 rfl A s₄ (un Z W₄) [w, z] _ E rm R₄.ok R₄.g.base R₄.g.live (.cons (Rep.carry x₄.carry (Rep.carry G.carry ok₂.1)) (.cons ok₄.1 .nil)) fun y s₅ G₅ res₅ => ?_
    rw [rep_bool res₅]
    exact wpAny_truthy_bool (q s₅ W₄ (x₁.trans (x₂.trans ((ExtE.grow G).trans (x₄.trans (ExtE.grow G₅))))) (R₄.grow G₅))
theorem tst_not {x : Expr} {pos : Pos} {b : Bool} (h : TstE c k S ρ γ x b ρ₁ γ₁) : TstE c k S ρ γ (.UnaryOp .Not x pos) (!b) ρ₁ γ₁ :=
  fun A env W Z s Q E hs rm R q => wpAny_isTrue_Not (h A env W Z s _ E hs rm R q)
theorem tst_value {e : Expr} {b : Bool} (h : EvE c k S ρ γ e (.d (.bool b)) ρ₁ γ₁) (he : ∀ env whole, isTrue e env whole = (do let v ← whole; standAt e.pos; holding [v] (truthy v)) := by intro _ _; rfl) : TstE c k S ρ γ e b ρ₁ γ₁ :=
  fun A env W Z s Q E hs rm R q => wpAny_isTrue_value (h A env W Z s _ E hs rm R fun v s' W' x R' o f => by rw [rep_bool o.1]; exact wpAny_truthy_bool (q s' W' x R')) (he env _)
noncomputable abbrev AllT (c : Cx) (k : Nat) (S : Scope) (ρ : Vars) (γ : GS) (op : BoolOp) (es : List Expr) (b : Bool) (ρ' : Vars) (γ' : GS) : Prop := Tst c k S ρ γ (fun env => allTrue op es env) b ρ' γ'
theorem tst_bool {op : BoolOp} {es : List Expr} {pos : Pos} {b : Bool} (h : AllT c k S ρ γ op es b ρ₁ γ₁) : TstE c k S ρ γ (.BoolOp op es pos) b ρ₁ γ₁ :=
  fun A env W Z s Q E hs rm R q => wpAny_isTrue_BoolOp (h A env W Z s _ E hs rm R q)
theorem t_and_nil : AllT c k S ρ γ .And [] true ρ γ := fun A env W Z s Q E hs rm R q => wpAny_allTrue_And_nil (q s W (ExtE.refl env W s) R)
theorem t_or_nil : AllT c k S ρ γ .Or [] false ρ γ := fun A env W Z s Q E hs rm R q => wpAny_allTrue_Or_nil (q s W (ExtE.refl env W s) R)
theorem t_and_f {x : Expr} {es : List Expr} (h : TstE c k S ρ γ x false ρ₁ γ₁) : AllT c k S ρ γ .And (x :: es) false ρ₁ γ₁ := fun A env W Z s Q E hs rm R q => wpAny_allTrue_And_cons (h A env W Z s _ E hs rm R q)
theorem t_or_t {x : Expr} {es : List Expr} (h : TstE c k S ρ γ x true ρ₁ γ₁) : AllT c k S ρ γ .Or (x :: es) true ρ₁ γ₁ := fun A env W Z s Q E hs rm R q => wpAny_allTrue_Or_cons (h A env W Z s _ E hs rm R q)
theorem t_and_t {x : Expr} {es : List Expr} {b : Bool} (h : TstE c k S ρ γ x true ρ₁ γ₁) (h2 : AllT c k S ρ₁ γ₁ .And es b ρ₂ γ₂) : AllT c k S ρ γ .And (x :: es) b ρ₂ γ₂ :=
  fun A env W Z s Q E hs rm R q => wpAny_allTrue_And_cons (h A env W Z s _ E hs rm R fun s₁ W₁ x₁ R₁ => h2 A env W₁ Z s₁ Q E hs rm R₁ fun s₂ W₂ x₂ R₂ => q s₂ W₂ (x₁.trans x₂) R₂)
theorem t_or_f {x : Expr} {es : List Expr} {b : Bool} (h : TstE c k S ρ γ x false ρ₁ γ₁) (h2 : AllT c k S ρ₁ γ₁ .Or es b ρ₂ γ₂) : AllT c k S ρ γ .Or (x :: es) b ρ₂ γ₂ :=
  fun A env W Z s Q E hs rm R q => wpAny_allTrue_Or_cons (h A env W Z s _ E hs rm R fun s₁ W₁ x₁ R₁ => h2 A env W₁ Z s₁ Q E hs rm R₁ fun s₂ W₂ x₂ R₂ => q s₂ W₂ (x₁.trans x₂) R₂)
theorem ev_if {test body orelse : Expr} {pos : Pos} {b : Bool} {u : V} (h : TstE c k S ρ γ test b ρ₁ γ₁) (h1 : b = true → EvE c k S ρ₁ γ₁ body u ρ₂ γ₂) (h2 : b = false → EvE c k S ρ₁ γ₁ orelse u ρ₂ γ₂) : EvE c k S ρ γ (.IfExp test body orelse pos) u ρ₂ γ₂ := by
  intro A env W Z s Q E hs rm R q
  refine wpAny_IfExp (h A env W Z s _ E hs rm R fun s₁ W₁ x₁ R₁ => ?_)
  cases b with
  | true => exact h1 rfl A env W₁ Z s₁ Q E hs rm R₁ fun v s₂ W₂ x₂ R₂ o f => q v s₂ W₂ (x₁.trans x₂) R₂ o (f.trans x₁.toExt)
  | false => exact h2 rfl A env W₁ Z s₁ Q E hs rm R₁ fun v s₂ W₂ x₂ R₂ o f => q v s₂ W₂ (x₁.trans x₂) R₂ o (f.trans x₁.toExt)
theorem ev_if_t {test body orelse : Expr} {pos : Pos} {u : V} (h : TstE c k S ρ γ test true ρ₁ γ₁) (h1 : EvE c k S ρ₁ γ₁ body u ρ₂ γ₂) : EvE c k S ρ γ (.IfExp test body orelse pos) u ρ₂ γ₂ := ev_if h (fun _ => h1) fun e => by cases e
theorem ev_if_f {test body orelse : Expr} {pos : Pos} {u : V} (h : TstE c k S ρ γ test false ρ₁ γ₁) (h1 : EvE c k S ρ₁ γ₁ orelse u ρ₂ γ₂) : EvE c k S ρ γ (.IfExp test body orelse pos) u ρ₂ γ₂ := ev_if h (fun e => by cases e) fun _ => h1
end
section
variable {c : Cx} {k : Nat} {S : Scope} {ρ ρ' ρ₁ ρ₂ ρ₃ : Vars} {γ γ' γ₁ γ₂ γ₃ : GS} {fn : Bool}
noncomputable def FnEnv (env : Env) : Prop := env.func.isSome = true ∧ ∀ x, env.scope.names.lookup x = some .cell → (env.cells.lookup x).isSome = true
noncomputable def stOk (S : Scope) (fn : Bool) (x : Str) : Bool := match S.names.lookup x with
  | some .local => true
  | some .cell => fn
  | _ => false
theorem stOk_kind {env : Env} {x : Str} (h : stOk env.scope fn x = true) (hf : fn = true → FnEnv env) : env.kindOf x = some .local ∨ (env.kindOf x = some .cell ∧ env.func.isSome = true ∧ (env.cells.lookup x).isSome = true) := by
  unfold stOk at h
  unfold Env.kindOf
  split at h
  · rename_i e; exact .inl e
  · rename_i e; obtain ⟨a, b⟩ := hf h; exact .inr ⟨e, a, b x e⟩
  · cases h
noncomputable def As (c : Cx) (S : Scope) (fn : Bool) (t : Expr) (u : V) (ρ ρ' : Vars) : Prop :=
  ∀ (A : Around) (γ : GS) (env : Env) (W Z : Addr → Prop) (s : Shared) (v : Value) (Q : Unit → Shared → Prop) (E : Value → Shared → Prop), env.scope = S → (fn = true → FnEnv env) → A.handled = none → Rel c γ env W Z ρ s → VOk c env W Z ρ s v u →
    (∀ s', Ext W s W s' → Rel c γ env W Z ρ' s' → Q () s') → wpAny (model c.prog c.w) A (assign t env v) Q E s
theorem as_name {x : Str} {pos : Pos} {u : V} (h : stOk S fn x = true := by rfl) : As c S fn (.Name x pos) u ρ (upd ρ x u) := by
  intro A γ env W Z s v Q E hs hf hh R r q
  subst hs
  exact wpAny_assign_Name (R.store (stOk_kind h hf) r q)
noncomputable def AsL (c : Cx) (S : Scope) (fn : Bool) (ts : List Expr) (ds : List D) (ρ ρ' : Vars) : Prop :=
  ∀ (A : Around) (γ : GS) (env : Env) (W Z : Addr → Prop) (s : Shared) (vs : List Value) (Q : Unit → Shared → Prop) (E : Value → Shared → Prop), env.scope = S → (fn = true → FnEnv env) → A.handled = none → Rel c γ env W Z ρ s → Reps (un Z W) s.heap vs ds →
    (∀ s', Ext W s W s' → Rel c γ env W Z ρ' s' → Q () s') → wpAny (model c.prog c.w) A (assignInOrder ((assignEach ts env).map (·.2)) vs) Q E s
theorem asl_nil : AsL c S fn [] [] ρ ρ := by
  intro A γ env W Z s vs Q E hs hf hh R r q
  cases r
  exact wpAny_pure (q s (Ext.refl W s) R)
theorem asl_cons {t : Expr} {ts : List Expr} {d : D} {ds : List D} (h1 : As c S fn t (.d d) ρ ρ₁) (h2 : AsL c S fn ts ds ρ₁ ρ₂)
    (he : ∀ env, (assignEach (t :: ts) env).map (·.2) = assign t env :: (assignEach ts env).map (·.2) := by intro _; rfl) : AsL c S fn (t :: ts) (d :: ds) ρ ρ₂ := by
  intro A γ env W Z s vs Q E hs hf hh R r q
  obtain ⟨v, ws, rfl, r1, r2⟩ := r.cons_inv
  rw [he env]
  show wpAny _ A (do holding ws (assign t env v); assignInOrder ((assignEach ts env).map (·.2)) ws) Q E s
  refine wpAny_bind (wpAny_holding (h1 A γ env W Z s v _ E hs hf hh R ⟨r1, trivial⟩ fun s₁ x₁ R₁ => ?_))
  exact h2 A γ env W Z s₁ ws Q E hs hf hh R₁ (r2.carry x₁.carry) fun s₂ x₂ R₂ => q s₂ (x₁.trans x₂) R₂
theorem extBut_grow {s : Shared} {h' : Heap} {tk : Nat} (x : Heap.ExtBut s.heap.objs.size s.heap h') : Grow s { s with heap := h', toks := tk } :=
  ⟨fun b o e => x b o (Nat.ne_of_lt (Heap.lt_size e)) e, rfl, rfl, rfl⟩
theorem rep_tuple {X : Addr → Prop} {h : Heap} {v : Value} {ds : List D} (r : Rep X h v (.tuple ds)) : ∃ a vs, v = .ref a ∧ ¬ X a ∧ h.IsTuple a vs.toArray ∧ Reps X h vs ds := by cases r with | tuple n i rs => exact ⟨_, _, rfl, n, i.isTuple, rs⟩
theorem rep_list {X : Addr → Prop} {h : Heap} {v : Value} {ds : List D} (r : Rep X h v (.list ds)) : ∃ a vs, v = .ref a ∧ ¬ X a ∧ h.IsList a vs.toArray ∧ Reps X h vs ds := by cases r with | list n i rs => exact ⟨_, _, rfl, n, i.isList, rs⟩
theorem rep_tupleT {X : Addr → Prop} {h : Heap} {v : Value} {ds : List D} (r : Rep X h v (.tuple ds)) : ∃ a vs, v = .ref a ∧ ¬ X a ∧ TupAt h a vs.toArray ∧ Reps X h vs ds := by cases r with | tuple n i rs => exact ⟨_, _, rfl, n, i, rs⟩
theorem rep_listO {X : Addr → Prop} {h : Heap} {v : Value} {ds : List D} (r : Rep X h v (.list ds)) : ∃ a vs, v = .ref a ∧ ¬ X a ∧ OL h a vs.toArray ∧ Reps X h vs ds := by cases r with | list n i rs => exact ⟨_, _, rfl, n, i, rs⟩
theorem rep_wlist {X : Addr → Prop} {h : Heap} {v : Value} {ds : List D} (r : Rep X h v (.wlist ds)) : ∃ a vs, v = .ref a ∧ ¬ X a ∧ h.IsList a vs.toArray ∧ Reps X h vs ds := by cases r with | wlist n i rs => exact ⟨_, _, rfl, n, i, rs⟩
theorem as_tuple {ts : List Expr} {j : Nat} {pos : Pos} {ds : List D} (h : AsL c S fn ts ds ρ ρ') (hl : ts.length = ds.length := by rfl)
    (hn : ∀ env, (assignEach ts env).length = ts.length ∧ (assignEach ts env).findIdx? (·.1) = none := by intro _; exact ⟨rfl, rfl⟩) : As c S fn (.Tuple ts j pos) (.d (.tuple ds)) ρ ρ' := by
  intro A γ env W Z s v Q E hs hf hh R r q
  obtain ⟨a, vs, rfl, hna, hi, rs⟩ := rep_tuple r.1
  show wpAny _ A (do standAt pos; unpack (.ref a) (assignEach ts env)) Q E s
  refine wpAny_bind (wpAny_standAt ?_)
  unfold unpack
  have hsz : (assignEach ts env).length = vs.toArray.size := by rw [(hn env).1, hl, List.size_toArray, rs.length]
  rw [(hn env).2, hsz]
  refine wpAny_bind (wpAny_holding (wpAny_unpackItems_tuple hh hi fun h' x => ?_))
  have G : Grow s { s with heap := h' } := extBut_grow x
  exact h A γ env W Z _ _ Q E hs hf hh (R.grow G) (rs.carry G.carry) fun s' x' R' => q s' ((Ext.grow G).trans x') R'
noncomputable abbrev ML (c : Cx) : Addr → Prop := c.M
inductive Out where
  | next (ρ : Vars) (γ : GS)
  | ret (d : D) (γ : GS)
noncomputable def OutOk (c : Cx) (env : Env) (W Z : Addr → Prop) (s : Shared) (Q : Flow → Shared → Prop) : Out → Prop
  | .next ρ γ => ∀ s' W', Ext W s W' s' → Rel c γ env W' Z ρ s' → Q .next s'
  | .ret d γ => ∀ v s' W', Ext W s W' s' → GRel c γ (un Z (ML c)) s' → Rep (un Z (ML c)) s'.heap v d → Q (.ret v) s'
theorem OutOk.ext {env : Env} {W W' Z : Addr → Prop} {s s' : Shared} {Q : Flow → Shared → Prop} {o : Out} (x : Ext W s W' s') (h : OutOk c env W Z s Q o) : OutOk c env W' Z s' Q o := by
  cases o with
  | next ρ γ => exact fun s'' W'' y R => h s'' W'' (x.trans y) R
  | ret d γ => exact fun v s'' W'' y R r => h v s'' W'' (x.trans y) R r
noncomputable def Ex (c : Cx) (k : Nat) (S : Scope) (ρ : Vars) (γ : GS) (t : Env → Sem Flow) (o : Out) : Prop :=
  ∀ (A : Around) (env : Env) (W Z : Addr → Prop) (s : Shared) (Q : Flow → Shared → Prop) (E : Value → Shared → Prop), env.scope = S → FnEnv env → Room A k → Rel c γ env W Z ρ s → OutOk c env W Z s Q o → wpAny (model c.prog c.w) A (t env) Q E s
noncomputable abbrev ExS (c : Cx) (k : Nat) (S : Scope) (ρ : Vars) (γ : GS) (st : Stmt) (o : Out) : Prop := Ex c k S ρ γ (fun env => exec st env) o
noncomputable abbrev ExB (c : Cx) (k : Nat) (S : Scope) (ρ : Vars) (γ : GS) (b : List Stmt) (o : Out) : Prop := Ex c k S ρ γ (fun env => execs b env) o
theorem ex_nil : ExB c k S ρ γ [] (.next ρ γ) := fun A env W Z s Q E hs hf rm R q => wpAny_execs_nil (q s W (Ext.refl W s) R)
theorem ex_cons {st : Stmt} {b : List Stmt} {o : Out} (h1 : ExS c k S ρ γ st (.next ρ₁ γ₁)) (h2 : ExB c k S ρ₁ γ₁ b o) : ExB c k S ρ γ (st :: b) o :=
  fun A env W Z s Q E hs hf rm R q => wpAny_execs_cons (h1 A env W Z s _ E hs hf rm R fun s₁ W₁ x₁ R₁ => h2 A env W₁ Z s₁ Q E hs hf rm R₁ (q.ext x₁))
theorem ex_ret {st : Stmt} {b : List Stmt} {d : D} (h1 : ExS c k S ρ γ st (.ret d γ₁)) : ExB c k S ρ γ (st :: b) (.ret d γ₁) :=
  fun A env W Z s Q E hs hf rm R q => wpAny_execs_cons (h1 A env W Z s _ E hs hf rm R fun v s₁ W₁ x₁ R₁ r => q v s₁ W₁ x₁ R₁ r)
theorem ex_forget {t : Env → Sem Flow} (h : Ex c k S ρ γ t (.next ρ₁ γ₁)) (l : ∀ x u, ρ₂ x = some u → ρ₁ x = some u) : Ex c k S ρ γ t (.next ρ₂ γ₁) :=
  fun A env W Z s Q E hs hf rm R q => h A env W Z s Q E hs hf rm R fun s' W' x R' => q s' W' x (R'.forget l)
theorem ex_from {t : Env → Sem Flow} {o : Out} (h : Ex c k S ρ₁ γ t o) (l : ∀ x u, ρ₁ x = some u → ρ x = some u) : Ex c k S ρ γ t o :=
  fun A env W Z s Q E hs hf rm R q => h A env W Z s Q E hs hf rm (R.forget l) q
theorem ex_freeze {t : Env → Sem Flow} {o : Out} {x : Str} {ds : List D} (hx : ρ x = some (.own ds)) (h : Ex c k S (upd ρ x (.d (.list ds))) γ t o) : Ex c k S ρ γ t o := by
  intro A env W Z s Q E hs hf rm R q
  obtain ⟨W', x', R'⟩ := R.freeze hx
  exact h A env W' Z s Q E hs hf rm R' (q.ext x')
theorem mem_ML {c : Cx} {γ : GS} {env : Env} {W Z : Addr → Prop} {s : Shared} (R : Rel c γ env W Z ρ s) : ∀ b, un Z (ML c) b → un Z W b := fun b h => h.elim .inl fun q => .inr (R.wM b q)
theorem ex_return {e : Expr} {pos : Pos} {d : D} (h : EvE c k S ρ γ e (.d d) ρ₁ γ₁) : ExS c k S ρ γ (.Return (some e) pos) (.ret d γ₁) := by
  intro A env W Z s Q E hs hf rm R q
  refine wpAny_Return_some (h A env W Z s _ E hs rm R fun v s' W' x R' o f => ?_)
  exact q v s' W' x.toExt (R'.g.less (mem_ML R') fun b m => .inr m) (Rep.carry (Carry.less (mem_ML R')) o.1)
theorem ex_if {test : Expr} {body orelse : List Stmt} {pos : Pos} {b : Bool} {o : Out} (h : TstE c k S ρ γ test b ρ₁ γ₁) (h1 : b = true → ExB c k S ρ₁ γ₁ body o) (h2 : b = false → ExB c k S ρ₁ γ₁ orelse o) : ExS c k S ρ γ (.If test body orelse pos) o := by
  intro A env W Z s Q E hs hf rm R q
  refine wpAny_If (h A env W Z s _ E hs rm R fun s₁ W₁ x₁ R₁ => ?_)
  cases b with
  | true => exact h1 rfl A env W₁ Z s₁ Q E hs hf rm R₁ (q.ext x₁.toExt)
  | false => exact h2 rfl A env W₁ Z s₁ Q E hs hf rm R₁ (q.ext x₁.toExt)
theorem ex_if_t {test : Expr} {body orelse : List Stmt} {pos : Pos} {o : Out} (h : TstE c k S ρ γ test true ρ₁ γ₁) (h1 : ExB c k S ρ₁ γ₁ body o) : ExS c k S ρ γ (.If test body orelse pos) o := ex_if h (fun _ => h1) fun e => by cases e
theorem ex_if_f {test : Expr} {body orelse : List Stmt} {pos : Pos} {o : Out} (h : TstE c k S ρ γ test false ρ₁ γ₁) (h1 : ExB c k S ρ₁ γ₁ orelse o) : ExS c k S ρ γ (.If test body orelse pos) o := ex_if h (fun e => by cases e) fun _ => h1
theorem ex_assign {t e : Expr} {pos : Pos} {u : V} (h : EvE c k S ρ γ e u ρ₁ γ₁) (ht : As c S true t u ρ₁ ρ₂)
    (h1 : ∀ env, env.scope = S → swapsWithSole [t] e pos.line env = pure false := by intro _ _; rfl) (h2 : ∀ env, env.scope = S → swappedStores [t] e env = pure none := by intro _ _; rfl)
    (he : ∀ env, (assignEach [t] env).map (·.2) = [assign t env] := by intro _; rfl) : ExS c k S ρ γ (.Assign [t] e pos) (.next ρ₂ γ₁) := by
  intro A env W Z s Q E hs hf rm R q
  refine wpAny_Assign_stores (h A env W Z s _ E hs rm R fun v s₁ W₁ x₁ R₁ o₁ f₁ => ?_) (h1 env hs) (h2 env hs)
  rw [he env]
  exact ht A γ₁ env W₁ Z s₁ v _ E hs (fun _ => hf) rm.1 R₁ o₁ fun s₂ x₂ R₂ => q s₂ W₁ (x₁.toExt.trans x₂) R₂
end
section
variable {c : Cx} {k : Nat} {S : Scope} {ρ ρ' ρ₁ ρ₂ ρ₃ : Vars} {γ γ' γ₁ γ₂ γ₃ : GS} {fn : Bool}
theorem VarAt.sameBut {env : Env} {h h' : Heap} {b : Addr} {x : Str} {v : Value} (a : VarAt env h x v) (hs : Heap.SameBut b h h') (n1 : ∀ m, h.Ns env.locals m → env.locals ≠ b) (n2 : ∀ c w, h.IsCell c w → c ≠ b) : VarAt env h' x v := by
  unfold VarAt at a ⊢
  split
  · rename_i e; rw [e] at a; obtain ⟨m, n, q⟩ := a; exact ⟨m, n.sameBut hs (n1 m n), q⟩
  · rename_i e; rw [e] at a; obtain ⟨c, l, q⟩ := a; exact ⟨c, l, q.sameBut hs (n2 c _ q)⟩
  · rename_i e; rw [e] at a; obtain ⟨c, l, q⟩ := a; exact ⟨c, l, q.sameBut hs (n2 c _ q)⟩
  · split at a <;> simp_all
theorem Rel.ownset {env : Env} {W Z : Addr → Prop} {s : Shared} {x : Str} {l : Addr} {vs : List Value} {ds ds' : List D} {h' : Heap} {tk : Nat} {items : Array Value} (R : Rel c γ env W Z ρ s) (hx : ρ x = some (.own ds)) (hv : VarAt env s.heap x (.ref l))
    (hw : W l) (hz : ¬ Z l) (nM : ¬ c.M l) (hi : OL s.heap l items) (hs : Heap.SameBut l s.heap h') (hi' : OL h' l vs.toArray) (hr : Reps (un Z W) s.heap vs ds') :
    ExtE env W s W { s with heap := h', toks := tk } ∧ Rel c γ env W Z (upd ρ x (.own ds')) { s with heap := h', toks := tk } := by
  have nn : ∀ m, s.heap.Ns env.locals m → env.locals ≠ l := fun m n => (list_ne_ns hi.isList n).symm
  have nc : ∀ a w, s.heap.IsCell a w → a ≠ l := fun a w n => (list_ne_cell hi.isList n).symm
  have ext : Ext W s W { s with heap := h', toks := tk } := ⟨fun b o e => by
      by_cases q : b = l
      · exact q ▸ list_live hi'.isList
      · exact ⟨o, (hs.2 b q).trans e⟩, fun _ h => .inl h, fun b o n e => (hs.2 b fun q => n (q ▸ hw)).trans e⟩
  have nm : ∀ y v, VarAt env s.heap y v → VarAt env h' y v := fun y v a => a.sameBut hs nn nc
  obtain ⟨m, hn⟩ := R.ns
  refine ⟨⟨ext, nm⟩, R.ok, R.g.write hs (.inr hw) nM (list_live hi'.isList) rfl rfl rfl, R.kind, R.gl, R.bl, ⟨m, hn.sameBut hs (nn m hn)⟩, R.wl, R.wM, R.cinj, fun y a q => ?_, R.cw, fun y u q => ?_, fun y z es fs v q1 q2 a1 a2 => ?_⟩
  · obtain ⟨v, qq⟩ := R.cell y a q; exact ⟨v, qq.sameBut hs (nc a v qq)⟩
  · by_cases e : y = x
    · subst e
      simp only [upd, if_true, Option.some.injEq] at q
      subst q
      exact ⟨.ref l, nm _ _ hv, l, vs, rfl, hw, hz, nM, hi', hr.carry ext.carry⟩
    · simp only [upd, if_neg e] at q
      obtain ⟨v, a, rr⟩ := R.vars y u q
      refine ⟨v, nm _ _ a, ?_⟩
      cases u with
      | d d => exact Rep.carry ext.carry rr
      | own es =>
        obtain ⟨l', vs', e1, w', z', m1, i', r'⟩ := rr
        have ne : l' ≠ l := fun h => e (R.oinj y x es ds v q hx a (e1 ▸ h ▸ hv))
        exact ⟨l', vs', e1, w', z', m1, ol_at i' fun o e => (hs.2 l' ne).trans e, r'.carry ext.carry⟩
  · have own : ∀ y es, upd ρ x (.own ds') y = some (.own es) → ∃ es', ρ y = some (.own es') := fun y es q => by
      by_cases e : y = x
      · exact ⟨ds, e ▸ hx⟩
      · simp only [upd, if_neg e] at q; exact ⟨es, q⟩
    obtain ⟨es', q1⟩ := own y es q1
    obtain ⟨fs', q2⟩ := own z fs q2
    obtain ⟨v1, b1, _⟩ := R.vars y _ q1
    obtain ⟨v2, b2, _⟩ := R.vars z _ q2
    have e1 := VarAt.unique (nm _ _ b1) a1
    have e2 := VarAt.unique (nm _ _ b2) a2
    subst e1; subst e2
    exact R.oinj y z es' fs' _ q1 q2 b1 b2
theorem run_own {x : Str} {pos : Pos} {ds : List D} (hx : ρ x = some (.own ds)) (hd : (x == ("__debug__" : Str)) = false) (hn : (x == ("__classdict__" : Str)) = false)
    {A : Around} {env : Env} {W Z : Addr → Prop} {s : Shared} {Q : Value → Shared → Prop} {E : Value → Shared → Prop} (R : Rel c γ env W Z ρ s)
    (q : ∀ l vs, VarAt env s.heap x (.ref l) → W l → ¬ Z l → ¬ c.M l → OL s.heap l vs.toArray → Reps (un Z W) s.heap vs ds → Q (.ref l) s) : wpAny (model c.prog c.w) A (eval (.Name x pos) env) Q E s := by
  obtain ⟨v, a, l, vs, rfl, hw, hz, nM, hi, hr⟩ := R.vars x _ hx
  have fin := q l vs a hw hz nM hi hr
  refine wpAny_Name ?_ hd
  unfold VarAt at a
  split at a
  · rename_i e; obtain ⟨m, n, hm⟩ := a; exact wpAny_loadName_local R.kind e n hm fin
  · rename_i e; obtain ⟨b, l, hc⟩ := a; exact wpAny_loadName_cell R.kind e l hc fin
  · rename_i e; obtain ⟨b, l, hc⟩ := a; exact wpAny_loadName_free R.kind e l hc fin hn
  · exact a.elim
theorem interactive_fn {env : Env} (h : env.scope.kind = .function) : interactive env = false := by unfold interactive; rw [h]; rfl
theorem ol_live {h : Heap} {l : Addr} {items : Array Value} (x : OL h l items) : ∃ ob, h.get? l = some ob ∧ ob.dict = none := let ⟨n, e⟩ := x; ⟨_, e, rfl⟩
theorem ex_append {x : Str} {p apos pos spos : Pos} {e : Expr} {d : D} {ds ds' : List D} (hx : ρ x = some (.own ds)) (h : EvE c k S ρ γ e (.d d) ρ₁ γ₁) (hx' : ρ₁ x = some (.own ds')) (hn : ds'.length ≤ 16777216)
    (hline : (apos.endLine == pos.line) = true := by rfl) (hd : (x == ("__debug__" : Str)) = false := by decide) (hcd : (x == ("__classdict__" : Str)) = false := by decide)
    (htrees : ∀ env, backTo pos (starEach [e] env) = [(false, eval e env)] := by intro _; rfl) :
    ExS c k S ρ γ (.Expr (.Call (.Attribute (.Name x p) "append" apos) [e] [] pos) spos) (.next (upd ρ₁ x (.own (ds' ++ [d]))) γ₁) := by
  intro A env W Z s Q E hs hf rm R q
  refine wpAny_Expr ?_ (interactive_fn R.kind) rfl
  refine wpAny_Call_method (T := "list") (id := "list.append") rfl (by rw [htrees env]; rfl) hline PySem.F.plainAttrs_list PySem.F.slot_list_append PySem.F.type_list_append ?_
  refine run_own hx hd hcd R fun l vs hv hw hz nM hi hr => ?_
  refine ⟨hi.isList.typeIs, fun a e => by cases e; exact ol_live hi, ?_⟩
  rw [htrees env]
  refine P.append_list ?_
  refine h A env W Z s _ E hs rm R fun v s₁ W₁ x₁ R₁ o₁ f₁ => ?_
  obtain ⟨v', hv', l', vs', rfl, hw', hz', nM', ⟨n', hi'⟩, hr'⟩ := R₁.vars x _ hx'
  have := VarAt.unique (x₁.names _ _ hv) hv'; cases this
  refine ⟨vs'.toArray, n', by rw [List.size_toArray, hr'.length]; exact hn, hi', ?_⟩
  obtain ⟨x₂, R₂⟩ := R₁.ownset (tk := s₁.toks) (vs := vs' ++ [v]) (ds' := ds' ++ [d]) hx' hv' hw' hz' nM' ⟨n', hi'⟩ (Heap.SameBut.update ..) (by have := hi'.update (fun xs => xs.push v); exact ⟨_, by simpa using this⟩) (Reps.append (.one o₁.1) hr')
  exact q _ _ (x₁.toExt.trans x₂.toExt) R₂
theorem ev_pop {x : Str} {p apos pos cpos : Pos} {j : Nat} {d : D} {ds : List D} (hx : ρ x = some (.own (d :: ds))) (hn : (d :: ds).length ≤ 16777216)
    (hline : (apos.endLine == pos.line) = true := by rfl) (hd : (x == ("__debug__" : Str)) = false := by decide) (hcd : (x == ("__classdict__" : Str)) = false := by decide) :
    EvE c k S ρ γ (.Call (.Attribute (.Name x p) "pop" apos) [.Constant (.int 0) j cpos] [] pos) (.d d) (upd ρ x (.own ds)) γ := by
  intro A env W Z s Q E hs rm R q
  refine wpAny_Call_method (T := "list") (id := "list.pop") rfl rfl hline PySem.F.plainAttrs_list PySem.F.slot_list_pop PySem.F.type_list_pop ?_
  refine run_own hx hd hcd R fun l vs hv hw hz nM hi hr => ?_
  refine ⟨hi.isList.typeIs, fun a e => by cases e; exact ol_live hi, ?_⟩
  obtain ⟨n, hi⟩ := hi
  obtain ⟨v, ws, rfl, r1, r2⟩ := hr.cons_inv
  refine P.pop_at_list (x := do let v ← eval (.Constant (.int 0) j cpos) env; standAt pos; pure v) ?_
  refine wpAny_bind (wpAny_Constant_int (wpAny_bind (wpAny_standAt (wpAny_pure ?_))))
  refine ⟨_, n, 0, _, 0, v, by rw [List.size_toArray, hr.length]; exact hn, rfl, hi, by decide, ?_, by simp, ?_⟩
  · simp [seqIndex?]
  · obtain ⟨x₂, R₂⟩ := R.ownset (tk := s.toks + 1) (vs := ws) (ds' := ds) hx hv hw hz nM ⟨n, hi⟩ (Heap.SameBut.update ..) (by have := hi.update (fun xs => xs.eraseIdxIfInBounds 0); exact ⟨_, by simpa [Array.eraseIdxIfInBounds] using this⟩) r2
    exact q v _ W x₂ R₂ ⟨Rep.carry x₂.toExt.carry r1, trivial⟩ trivial
end
section
variable {c : Cx} {k : Nat} {S : Scope} {ρ ρ' ρ₁ ρ₂ ρ₃ : Vars} {γ γ' γ₁ γ₂ γ₃ : GS} {fn : Bool}
noncomputable def KeptF (c : Cx) (s s' : Shared) : Prop := ∀ b o, ¬ ML c b → s.heap.get? b = some o → s'.heap.get? b = some o
noncomputable def FnOk (c : Cx) (k : Nat) (f : Addr) (ds : List D) (γ : GS) (r : D) (γ' : GS) : Prop :=
  ∀ (A : Around) (s : Shared) (X : Addr → Prop) (vs : List Value) (Q : Value → Shared → Prop) (E : Value → Shared → Prop), Room A (k + 1) → CxOk c → GRel c γ X s → Reps X s.heap vs ds →
    (∀ v s', KeptF c s s' → GRel c γ' X s' → Rep X s'.heap v r → Q v s') → wpAny (model c.prog c.w) A (call (.ref f) vs) Q E s
theorem GRel.nml {X : Addr → Prop} {s : Shared} (R : GRel c γ X s) {b : Addr} (h : ¬ X b) : ¬ ML c b := fun q => h (R.xM b q)
theorem Rel.call {env : Env} {W Z : Addr → Prop} {s s' : Shared} (R : Rel c γ env W Z ρ s) (kp : KeptF c s s') (g : GRel c γ' (un Z W) s') : ExtE env W s W s' ∧ Rel c γ' env W Z ρ s' := by
  obtain ⟨m, hn⟩ := R.ns
  have nl : ¬ ML c env.locals := R.nML
  have nc : ∀ a v, s.heap.IsCell a v → ¬ ML c a := fun a v h => R.g.Mc h
  have cy : Carry (un Z W) s.heap (un Z W) s'.heap := ⟨fun b o n e => kp b o (R.g.nml n) e, fun _ _ n _ => n⟩
  have hn' : s'.heap.Ns env.locals m := hn.at' fun o e => kp _ o nl e
  have hc' : ∀ a v, s.heap.IsCell a v → s'.heap.IsCell a v := fun a v h => let ⟨o, e, d⟩ := h; ⟨o, kp a o (nc a v h) e, d⟩
  have nm : ∀ x v, VarAt env s.heap x v → VarAt env s'.heap x v := fun x v a => by
    unfold VarAt at a ⊢
    split
    · rename_i e; rw [e] at a; obtain ⟨m', n', q⟩ := a; cases ns_unique hn n'; exact ⟨m, hn', q⟩
    · rename_i e; rw [e] at a; obtain ⟨b, l, q⟩ := a; exact ⟨b, l, hc' _ _ q⟩
    · rename_i e; rw [e] at a; obtain ⟨b, l, q⟩ := a; exact ⟨b, l, hc' _ _ q⟩
    · split at a <;> simp_all
  refine ⟨⟨⟨fun b o e => ?_, fun _ h => .inl h, fun b o n e => kp b o (fun q => n (R.wM b q)) e⟩, nm⟩, R.ok, g, R.kind, R.gl, R.bl, ⟨m, hn'⟩, R.wl, R.wM, R.cinj, fun x a q => let ⟨v, h⟩ := R.cell x a q; ⟨v, hc' _ _ h⟩, R.cw, fun x u q => ?_, fun x y ds es v q1 q2 a1 a2 => ?_⟩
  · by_cases h : ML c b
    · exact g.live b (.inr (R.wM b h))
    · exact ⟨o, kp b o h e⟩
  · obtain ⟨v, a, r⟩ := R.vars x u q
    exact ⟨v, nm _ _ a, r.carry cy (fun _ h => h) (fun _ _ z _ => z) fun l _ nM _ i => ol_at i fun o e => kp l o nM e⟩
  · obtain ⟨v1, b1, _⟩ := R.vars x _ q1
    obtain ⟨v2, b2, _⟩ := R.vars y _ q2
    have e1 := VarAt.unique (nm _ _ b1) a1
    have e2 := VarAt.unique (nm _ _ b2) a2
    subst e1; subst e2
    exact R.oinj x y ds es _ q1 q2 b1 b2
theorem evalArgs_of {M : Model} {A : Around} {E : Value → Shared → Prop} {s : Shared} {f : Value} {args : List (Bool × Sem Value)} {Q : Args → Shared → Prop} (hp : args.any (·.1) = false)
    (h : wpAny M A (spliced args) (fun vs s' => Q ⟨vs, []⟩ s') E s) : wpAny M A (evalArgs f true args []) Q E s := by
  unfold evalArgs
  cases args with
  | nil =>
    show wpAny M A (spliced [] >>= _) Q E s
    refine wpAny_bind (wpAny_mono h (fun vs s' h' => ?_) fun _ _ x => x)
    refine wpAny_bind (wpAny_pure (wpAny_holding ?_))
    exact wpAny_bind (wpAny_pure (wpAny_bind (wpAny_pure (wpAny_pure h'))))
  | cons a r =>
    obtain ⟨b, t⟩ := a
    have hb : b = false := by simp at hp; exact hp.1
    subst hb
    exact evalArgs_plain h
noncomputable def FnAt (c : Cx) (f : Addr) : Prop := ∃ o fd, c.h0.get? f = some o ∧ o.data = .func fd
theorem ev_call {fe : Expr} {args : List Expr} {pos : Pos} {f : Addr} {ds : List D} {r : D} (h0 : EvE c (k + 1) S ρ γ fe (.d (.raw (.ref f))) ρ₁ γ₁) (hf : FnAt c f) (h1 : Evs c (k + 1) S ρ₁ γ₁ args ds ρ₂ γ₂) (h2 : FnOk c k f ds γ₂ r γ₃)
    (hfe : ∀ env, eval (.Call fe args [] pos) env = (do callWith pos (← eval fe env) [] (backTo pos (starEach args env)) (backToKw pos (keywordEach [] env))) := by intro _; rfl)
    (hp : ∀ env, (backTo pos (starEach args env)).any (·.1) = false := by intro _; rfl) : EvE c (k + 1) S ρ γ (.Call fe args [] pos) (.d r) ρ₂ γ₃ := by
  intro A env W Z s Q E hs rm R q
  show wpAny _ A (eval (.Call fe args [] pos) env) Q E s
  rw [hfe env]
  refine wpAny_bind (h0 A env W Z s _ E hs rm R fun v s₁ W₁ x₁ R₁ o₁ f₁ => ?_)
  rw [rep_raw o₁.1]
  obtain ⟨o, fd, ho, hd⟩ := hf
  refine callWith_function (o := o) (fd := fd) (evalArgs_of (hp env) (h1 pos A env W₁ Z s₁ _ E hs rm R₁ fun vs s₂ W₂ x₂ R₂ rs => ⟨⟨R₂.g.base _ _ ho, hd⟩, ?_⟩))
  refine h2 A s₂ (un Z W₂) vs Q E rm R₂.ok R₂.g rs fun v s₃ kp g r => ?_
  obtain ⟨x₃, R₃⟩ := R₂.call kp g
  exact q v s₃ W₂ (x₁.trans (x₂.trans x₃)) R₃ ⟨r, trivial⟩ trivial
theorem ev_calld {fe : Expr} {args : List Expr} {pos : Pos} {f : Value} {ds : List D} {u : V} (h0 : EvE c k S ρ γ fe (.d (.raw f)) ρ₁ γ₁) (hf : (∃ id, f = .builtin id) ∨ (∃ T, f = .type T)) (h1 : Evs c k S ρ₁ γ₁ args ds ρ₂ γ₂) (h2 : Op c k (fun vs => call f vs) ds u)
    (hfe : ∀ env, eval (.Call fe args [] pos) env = (do callWith pos (← eval fe env) [] (backTo pos (starEach args env)) (backToKw pos (keywordEach [] env))) := by intro _; rfl)
    (hp : ∀ env, (backTo pos (starEach args env)).any (·.1) = false := by intro _; rfl) : EvE c k S ρ γ (.Call fe args [] pos) u ρ₂ γ₂ := by
  intro A env W Z s Q E hs rm R q
  show wpAny _ A (eval (.Call fe args [] pos) env) Q E s
  rw [hfe env]
  refine wpAny_bind (h0 A env W Z s _ E hs rm R fun v s₁ W₁ x₁ R₁ o₁ f₁ => ?_)
  rw [rep_raw o₁.1]
  have fin := run_args h1 h2 pos A env W₁ Z s₁ Q E hs rm R₁ fun v s' W' x R' o f => q v s' W' (x₁.trans x) R' o (f.trans x₁.toExt)
  rcases hf with ⟨id, rfl⟩ | ⟨T, rfl⟩
  · exact callWith_builtin (hp env) (evalArgs_of (hp env) fin)
  · exact PySem.callWith_type (hp env) (evalArgs_of (hp env) fin)
structure Fun (c : Cx) (f : Addr) (fd : FuncData) (body : List Stmt) : Prop where
  obj : ∃ o, c.h0.get? f = some o ∧ o.data = .func fd
  code : c.h0.CodeRec fd.code fd.qualname
  body : fd.body = .stmts body
  gl : fd.globals = mainGlobals
  bl : fd.builtins = builtinsNs
  cl : fd.closure = []
  co : fd.scope.isCoroutine = false
  ge : fd.scope.isGenerator = false
  ki : fd.scope.kind = .function
noncomputable def bindV : List (Str × D) → Vars
  | [] => fun _ => none
  | (x, d) :: r => upd (bindV r) x (.d d)
theorem bindV_mem : ∀ {l : List (Str × D)} {x : Str} {u : V}, bindV l x = some u → ∃ d, u = .d d ∧ (x, d) ∈ l
  | [], _, _, h => by simp [bindV] at h
  | (y, d) :: r, x, u, h => by
    unfold bindV upd at h
    split at h
    · rename_i e; subst e; cases h; exact ⟨d, rfl, .head _⟩
    · obtain ⟨d', e, m⟩ := bindV_mem h; exact ⟨d', e, .tail _ m⟩
theorem bindL_not {kf : Str → Option NameKind} : ∀ {l : List (Str × Value)} {m : Str → Option Value} {x : Str}, x ∉ l.map (·.1) → bindL kf l m x = m x
  | [], _, _, _ => rfl
  | (n, v) :: r, m, x, h => by
    simp only [List.map_cons, List.mem_cons, not_or] at h
    unfold bindL
    rw [bindL_not h.2]
    split
    · simp [h.1]
    · rfl
theorem bindL_mem {kf : Str → Option NameKind} : ∀ {l : List (Str × Value)} {m : Str → Option Value} {x : Str} {v : Value}, (l.map (·.1)).Nodup → (x, v) ∈ l → kf x = some .local → bindL kf l m x = some v
  | (n, w) :: r, m, x, v, nd, h, hk => by
    obtain ⟨n1, n2⟩ := List.nodup_cons.mp nd
    rcases List.mem_cons.mp h with q | q
    · cases q; unfold bindL; rw [bindL_not n1, if_pos hk]; simp
    · unfold bindL; exact bindL_mem n2 q hk
theorem bindC_not {kf : Str → Option NameKind} : ∀ {l : List (Str × Value)} {m : Str → Option Value} {x : Str}, x ∉ l.map (·.1) → bindC kf l m x = m x
  | [], _, _, _ => rfl
  | (n, v) :: r, m, x, h => by
    simp only [List.map_cons, List.mem_cons, not_or] at h
    unfold bindC
    rw [bindC_not h.2]
    split
    · rfl
    · simp [h.1]
theorem bindC_mem {kf : Str → Option NameKind} : ∀ {l : List (Str × Value)} {m : Str → Option Value} {x : Str} {v : Value}, (l.map (·.1)).Nodup → (x, v) ∈ l → kf x ≠ some .local → bindC kf l m x = some v
  | (n, w) :: r, m, x, v, nd, h, hk => by
    obtain ⟨n1, n2⟩ := List.nodup_cons.mp nd
    rcases List.mem_cons.mp h with q | q
    · cases q; unfold bindC; rw [bindC_not n1, if_neg hk]; simp
    · unfold bindC; exact bindC_mem n2 q hk
theorem zip_rep {X : Addr → Prop} {h : Heap} : ∀ {names : List Str} {vs : List Value} {ds : List D}, Reps X h vs ds → ∀ {x : Str} {d : D}, (x, d) ∈ names.zip ds → ∃ v, (x, v) ∈ names.zip vs ∧ Rep X h v d
  | [], _, _, _, _, _, m => by simp at m
  | n :: ns, _, _, .nil, _, _, m => by simp at m
  | n :: ns, _, _, .cons (v := v) r rs, x, d, m => by
    simp only [List.zip_cons_cons, List.mem_cons] at m
    rcases m with m | m
    · cases m; exact ⟨v, .head _, r⟩
    · obtain ⟨w, m', r'⟩ := zip_rep rs m; exact ⟨w, .tail _ m', r'⟩
theorem zip_names {α : Type} : ∀ {names : List Str} {vs : List α}, vs.length = names.length → (names.zip vs).map (·.1) = names
  | [], [], _ => rfl
  | n :: ns, v :: vs, h => by simp only [List.zip_cons_cons, List.map_cons, zip_names (Nat.succ.inj h)]
noncomputable def Binds (c : Cx) (fd : FuncData) (names : List Str) (ds₀ ds : List D) : Prop :=
  ∀ (s : Shared) (X : Addr → Prop) (vs : List Value), (∀ b o, c.h0.get? b = some o → s.heap.get? b = some o) → (∀ b, X b → c.h0.get? b = none) → Reps X s.heap vs ds₀ → ∃ ws, Reps X s.heap ws ds ∧ BindsTo s fd ⟨vs, []⟩ (names.zip ws)
theorem fn_enter {f : Addr} {fd : FuncData} {body : List Stmt} {names : List Str} {ds₀ ds : List D} {o : Out} {r : D}
    (F : Fun c f fd body) (hb : Binds c fd names ds₀ ds) (hk : ∀ x ∈ names, fd.scope.names.lookup x = some .local ∨ fd.scope.names.lookup x = some .cell)
    (hcell : ∀ n x, fd.scope.names.lookup x = some .cell → ((cellsFrom n fd.scope.names []).lookup x).isSome = true)
    (hnd : names.Nodup) (hlen : ds.length = names.length) (h : ExB c k fd.scope (bindV (names.zip ds)) γ body o) (ho : o = .ret r γ' ∨ (r = .none ∧ ∃ ρ, o = .next ρ γ')) : FnOk c k f ds₀ γ r γ' := by
  intro A s X vs₀ Q E rm ok g rs₀ q
  obtain ⟨vs, rs, hbind⟩ := hb s X vs₀ g.base g.xbase rs₀
  obtain ⟨ob, hob, hdat⟩ := F.obj
  refine wpAny_call (codeAny_call_function (by have := rm.2.1; omega) (g.base _ _ hob) hdat F.co F.ge F.body (F.code.keeps g.base) ?_)
  refine hbind _ _ _ _ ?_
  rw [F.cl]
  have hbk : ∀ x ∈ names.zip vs, fd.scope.names.lookup x.1 = some .local ∨ (fd.scope.names.lookup x.1 = some .cell ∧ ((cellsFrom (s.heap.objs.size + 1) fd.scope.names []).lookup x.1).isSome = true) := fun x hx =>
    (hk x.1 (List.of_mem_zip hx).1).imp id fun y => ⟨y, hcell _ _ y⟩
  refine (wpAny_newFunctionEnv_cells F.ki hbk fun env he s' x => ?_)
  have hL : env.locals = s.heap.objs.size := by rw [he]; rfl
  have hsc : env.scope = fd.scope := by rw [he]; rfl
  have hce : env.cells = cellsFrom (s.heap.objs.size + 1) fd.scope.names [] := by rw [he]; rfl
  have hfu : env.func = some f := by rw [he]; rfl
  have hgl : env.globals = mainGlobals := by rw [he]; exact F.gl
  have hbl : env.builtins = builtinsNs := by rw [he]; exact F.bl
  obtain ⟨h₁, tk, rfl, keep⟩ := x.done
  have G : Grow s { s with heap := h₁, toks := tk } := ⟨keep, rfl, rfl, rfl⟩
  refine ⟨ok.lim.keeps fun b o e => keep b o (g.base b o e), codeAny_func ?_⟩
  have hcl : ∀ n a, env.cells.lookup n = some a → s.heap.get? a = none := fun n a e => by
    have := x.above n a (mem_of_lookup e)
    rw [hL] at this
    cases q : s.heap.get? a with
    | none => rfl
    | some o => exact absurd (Heap.lt_size q) (Nat.not_lt.mpr (Nat.le_of_lt this))
  let W : Addr → Prop := fun b => ML c b ∨ b = env.locals ∨ ∃ n, env.cells.lookup n = some b
  have hWn : ∀ b, W b → X b ∨ s.heap.get? b = none := fun b w => by
    rcases w with w | w | ⟨n, w⟩
    · exact .inl (g.xM b w)
    · exact .inr (by rw [w, hL]; exact fresh_size _)
    · exact .inr (hcl n b w)
  have gl := g.grow G
  have lvW : ∀ b, W b → ∃ o, h₁.get? b = some o := fun b w => by
    rcases w with w | w | ⟨n, w⟩
    · exact gl.live b (g.xM b w)
    · exact w ▸ ns_live x.toInCall.ns
    · exact cell_live (x.cell n b w)
  have R : Rel c γ env W X (bindV (names.zip ds)) { s with heap := h₁, toks := tk } := by
    refine ⟨ok, g.more G (fun b h => .inl h) (fun b h => h.elim .inl (hWn b)) (fun b h => h.elim (gl.live b) (lvW b)), by rw [hsc]; exact F.ki, hgl, hbl, ⟨_, x.toInCall.ns⟩, .inr (.inl rfl), fun b m => .inl m,
      fun a b d e1 e2 => name_of_addr x.apart (mem_of_lookup e1) (mem_of_lookup e2), fun n a e => ⟨_, x.cell n a e⟩, fun _ n a e => .inr (.inr ⟨n, e⟩), fun y u hy => ?_, fun y z es fs v h1 h2 => ?_⟩
    · obtain ⟨d, rfl, hm⟩ := bindV_mem hy
      obtain ⟨v, hv, hr⟩ := zip_rep rs hm
      have cy : Carry X s.heap (un X W) h₁ := ⟨fun b o _ e => keep b o e, fun b o n e y => y.elim n fun w => (hWn b w).elim n fun q => by rw [q] at e; cases e⟩
      have nd : ((names.zip vs).map (·.1)).Nodup := by rw [zip_names (by rw [rs.length, hlen])]; exact hnd
      refine ⟨v, ?_, Rep.carry cy hr⟩
      have hyk : env.kindOf y = some .local ∨ env.kindOf y = some .cell := by
        unfold Env.kindOf; rw [hsc]
        exact hk y (List.of_mem_zip hm).1
      unfold VarAt
      rcases hyk with e | e
      · rw [e]; exact ⟨_, x.toInCall.ns, bindL_mem nd hv e⟩
      · rw [e]
        have hc : (env.cells.lookup y).isSome = true := by rw [hce]; exact hcell _ _ (by rw [← hsc]; exact e)
        obtain ⟨a, ha⟩ := Option.isSome_iff_exists.mp hc
        refine ⟨a, ha, ?_⟩
        have := x.cell y a ha
        rwa [bindC_mem nd hv (by rw [e]; decide)] at this
    · obtain ⟨d, e, _⟩ := bindV_mem h1; cases e
  have fe : FnEnv env := ⟨by rw [hfu]; rfl, fun n e => by rw [hce]; exact hcell _ _ (by rw [← hsc]; exact e)⟩
  have lessX : ∀ b, X b → un X (ML c) b := fun b h => .inl h
  have kp : ∀ {s'' : Shared} {W'' : Addr → Prop}, Ext W { s with heap := h₁, toks := tk } W'' s'' → KeptF c s s'' := fun {s'' W''} y b o n e => by
    refine y.keep b o (fun w => ?_) (keep b o e)
    rcases w with w | w | ⟨m, w⟩
    · exact n w
    · rw [w, hL, fresh_size] at e; cases e
    · rw [hcl m b w] at e; cases e
  refine h (A.deeper env) env W X _ _ _ hsc fe (rm.deeper env) R ?_
  rcases ho with rfl | ⟨rfl, ρ', rfl⟩
  · intro v s'' W'' y g'' r''
    exact q v s'' (kp y) (g''.less lessX g.xM) (Rep.carry (Carry.less lessX) r'')
  · intro s'' W'' y R''
    exact q _ s'' (kp y) (R''.g.less (fun b h => .inl h) g.xM) .none
end
noncomputable def intsFrom (x : Int) : Nat → List D
  | 0 => []
  | n + 1 => .int x :: intsFrom (x + 1) n
inductive BIt (X : Addr → Prop) (h : Heap) (i : Addr) : List D → Prop
  | list {l : Addr} {k : Nat} {vs : List Value} {ds : List D} : h.IsListIter i l k → h.IsList l vs.toArray → ¬ X l → Reps X h (vs.drop k) ds → BIt X h i ds
  | tuple {l : Addr} {k : Nat} {vs : List Value} {ds : List D} : h.IsTupleIter i l k → h.IsTuple l vs.toArray → ¬ X l → Reps X h (vs.drop k) ds → BIt X h i ds
  | range {x : Int} {n : Nat} : IsRangeIter h i x n 1 → BIt X h i (intsFrom x n)
theorem listIter_at {h h' : Heap} {a l : Addr} {i : Nat} (x : h.IsListIter a l i) (e : ∀ o, h.get? a = some o → h'.get? a = some o) : h'.IsListIter a l i := let ⟨o, ho, r⟩ := x; ⟨o, e o ho, r⟩
theorem tupleIter_at {h h' : Heap} {a l : Addr} {i : Nat} (x : h.IsTupleIter a l i) (e : ∀ o, h.get? a = some o → h'.get? a = some o) : h'.IsTupleIter a l i := let ⟨o, ho, r⟩ := x; ⟨o, e o ho, r⟩
theorem BIt.carry {X X' : Addr → Prop} {h h' : Heap} {i : Addr} {ds : List D} (c : Carry X h X' h') (hi : ∀ o, h.get? i = some o → h'.get? i = some o) (b : BIt X h i ds) : BIt X' h' i ds := by
  cases b with
  | list a l n r => obtain ⟨o, ho, q⟩ := l; exact .list (listIter_at a hi) ⟨o, c.keep _ _ n ho, q⟩ (c.new _ _ n ho) (r.carry c)
  | tuple a l n r => obtain ⟨o, ho, q⟩ := l; exact .tuple (tupleIter_at a hi) ⟨o, c.keep _ _ n ho, q⟩ (c.new _ _ n ho) (r.carry c)
  | range a => exact .range (hi _ a)
theorem carry_sameBut {X : Addr → Prop} {h h' : Heap} {i : Addr} (hx : X i) (hs : Heap.SameBut i h h') : Carry X h X h' := ⟨fun b o n e => (hs.2 b fun q => n (q ▸ hx)).trans e, fun _ _ n _ => n⟩
section
variable {prog : Program} {w : World} {A : Around} {E : Value → Shared → Prop} {s : Shared} {X : Addr → Prop} {i : Addr} {d : D} {ds : List D}
theorem drop_cons_at {α : Type} {vs : List α} {k : Nat} {v : α} {ws : List α} (h : vs.drop k = v :: ws) : vs.toArray[k]? = some v ∧ vs.drop (k + 1) = ws := by
  have hk : vs[k]? = some v := by
    have := congrArg (·[0]?) h
    simpa [List.getElem?_drop] using this
  refine ⟨by simpa using hk, ?_⟩
  have := congrArg (List.drop 1) h
  rwa [List.drop_drop, List.drop_succ_cons, List.drop_zero] at this
theorem drop_nil_at {α : Type} {vs : List α} {k : Nat} (h : vs.drop k = []) : vs.toArray[k]? = none := by
  have := List.drop_eq_nil_iff.mp h
  simpa using this
theorem cs_item {Q : Option Value → Shared → Prop} (hx : X i) (b : BIt X s.heap i (d :: ds))
    (hQ : ∀ v h' tk, Heap.SameBut i s.heap h' → Rep X h' v d → BIt X h' i ds → Q (some v) { s with heap := h', toks := tk }) : wpAny (model prog w) A (callSpecial? (.ref i) "__next__") Q E s := by
  generalize hds : d :: ds = dd at b
  cases b with
  | list hit hl hn r =>
    subst hds
    rename_i l k vs
    obtain ⟨v, ws, hdr, r1, r2⟩ := r.cons_inv
    obtain ⟨hx', hd'⟩ := drop_cons_at hdr
    have hit0 := hit
    have hl0 := hl
    obtain ⟨o, ho, hc, hd⟩ := hit
    obtain ⟨ol, hol, _, nl, hdl⟩ := hl
    refine wpAny_callSpecial?_slot (name := Str.ofString "__next__") hit0.typeIs slot_listiter_next (wpAny_call_entry slot_listiter_next hit0.typeIs entry_listiter_next ?_ (args_listiter_next _))
    show wpAny _ _ (field (.ref i) 0 >>= _) _ _ s
    refine wpAny_bind (wpAny_field ho hd (x := .ref l) rfl ?_)
    show wpAny _ _ (if (Value.ref l == Value.none) = true then _ else _) _ _ s
    rw [if_neg (show ¬ ((Value.ref l == Value.none) = true) from Bool.false_ne_true)]
    show wpAny _ _ (field (.ref i) 1 >>= _) _ _ s
    refine wpAny_bind (wpAny_field ho hd (x := .int k 0) rfl ?_)
    show wpAny _ _ (seqItems? (.ref l) >>= _) _ _ s
    refine wpAny_bind (wpAny_seqItems hol hdl ?_)
    simp only [Int.toNat_natCast, hx']
    have hs := Heap.SameBut.update s.heap i (Obj.mapFields fun x => x.setIfInBounds 1 (rawInt (k + 1)))
    have cy := carry_sameBut hx hs
    refine wpAny_bind (wpAny_setField ho hd (by simp) (wpAny_pure ⟨v, rfl, hQ _ _ s.toks hs (r1.carry cy) (.list (l := l) (k := k + 1) (vs := vs) ?_ (hl0.extBut hs.extBut fun e => hn (e ▸ hx)) hn (by rw [hd']; exact r2.carry cy))⟩))
    exact ⟨_, Heap.get?_update_self _ ho (Obj.isFreed_of_fields (Obj.data_mapFields hd _)), (Obj.cls_mapFields ..).trans hc, by rw [Obj.data_mapFields hd]; simp [rawInt]⟩
  | tuple hit hl hn r =>
    subst hds
    rename_i l k vs
    obtain ⟨v, ws, hdr, r1, r2⟩ := r.cons_inv
    obtain ⟨hx', hd'⟩ := drop_cons_at hdr
    have hit0 := hit
    have hl0 := hl
    obtain ⟨o, ho, hc, hd⟩ := hit
    obtain ⟨ol, hol, _, nl, hdl⟩ := hl
    refine wpAny_callSpecial?_slot (name := Str.ofString "__next__") hit0.typeIs F.slot_tuple_iterator_next (wpAny_call_entry F.slot_tuple_iterator_next hit0.typeIs F.entry_tuple_iterator_next ?_ (F.args_tuple_iterator_next_1 _))
    show wpAny _ _ (field (.ref i) 0 >>= _) _ _ s
    refine wpAny_bind (wpAny_field ho hd (x := .ref l) rfl ?_)
    show wpAny _ _ (if (Value.ref l == Value.none) = true then _ else _) _ _ s
    rw [if_neg (show ¬ ((Value.ref l == Value.none) = true) from Bool.false_ne_true)]
    show wpAny _ _ (field (.ref i) 1 >>= _) _ _ s
    refine wpAny_bind (wpAny_field ho hd (x := .int k 0) rfl ?_)
    show wpAny _ _ (seqItems? (.ref l) >>= _) _ _ s
    refine wpAny_bind (wpAny_seqItems hol hdl ?_)
    simp only [Int.toNat_natCast, hx']
    have hs := Heap.SameBut.update s.heap i (Obj.mapFields fun x => x.setIfInBounds 1 (rawInt (k + 1)))
    have cy := carry_sameBut hx hs
    refine wpAny_bind (wpAny_setField ho hd (by simp) (wpAny_pure ⟨v, rfl, hQ _ _ s.toks hs (r1.carry cy) (.tuple (l := l) (k := k + 1) (vs := vs) ?_ (hl0.extBut hs.extBut fun e => hn (e ▸ hx)) hn (by rw [hd']; exact r2.carry cy))⟩))
    exact ⟨_, Heap.get?_update_self _ ho (Obj.isFreed_of_fields (Obj.data_mapFields hd _)), (Obj.cls_mapFields ..).trans hc, by rw [Obj.data_mapFields hd]; simp [rawInt]⟩
  | range hit =>
    rename_i x n
    cases n with
    | zero => cases hds
    | succ n =>
      injection hds with e1 e2
      subst e1; subst e2
      have hT : s.TypeIs (.ref i) "range_iterator" := ⟨_, hit, rfl⟩
      refine wpAny_callSpecial?_slot (name := Str.ofString "__next__") hT F.slot_range_iterator_next (call_meets F.slot_range_iterator_next hT F.entry_range_iterator_next (F.args_range_iterator_next_1 _) (AutoRange.range_iterator___next___range_iterator_1 i x ((n + 1 : Nat) : Int) 1 (by omega)) ⟨hit, ?_⟩)
      refine hQ _ _ (s.toks + 1) ((Heap.SameBut.update ..).trans (Heap.SameBut.update ..)) (.int x _) (.range ?_)
      have := Heap.get?_update_self (Obj.mapFields fun x => x.setIfInBounds 1 (rawInt (((n + 1 : Nat) : Int) - 1))) (Heap.get?_update_self (Obj.mapFields fun x_1 => x_1.setIfInBounds 0 (rawInt (x + 1))) hit rfl) rfl
      rw [show ((n : Nat) : Int) = ((n + 1 : Nat) : Int) - 1 by omega]
      exact this
theorem cs_end {Q : Option Value → Shared → Prop} (hh : A.handled = none) (b : BIt X s.heap i [])
    (hE : ∀ h' e, Heap.ExtBut i s.heap h' → (∃ o, h'.get? e = some o ∧ o.cls = .type "StopIteration") → E (.ref e) { s with heap := h' }) : wpAny (model prog w) A (callSpecial? (.ref i) "__next__") Q E s := by
  generalize hds : ([] : List D) = dd at b
  cases b with
  | list hit hl hn r =>
    subst hds
    rename_i l k vs
    have hx' := drop_nil_at r.nil_inv
    have hit0 := hit
    obtain ⟨o, ho, hc, hd⟩ := hit
    obtain ⟨ol, hol, _, nl, hdl⟩ := hl
    refine wpAny_callSpecial?_slot (name := Str.ofString "__next__") hit0.typeIs slot_listiter_next (wpAny_call_entry slot_listiter_next hit0.typeIs entry_listiter_next ?_ (args_listiter_next _))
    show wpAny _ _ (field (.ref i) 0 >>= _) _ _ s
    refine wpAny_bind (wpAny_field ho hd (x := .ref l) rfl ?_)
    show wpAny _ _ (if (Value.ref l == Value.none) = true then _ else _) _ _ s
    rw [if_neg (show ¬ ((Value.ref l == Value.none) = true) from Bool.false_ne_true)]
    show wpAny _ _ (field (.ref i) 1 >>= _) _ _ s
    refine wpAny_bind (wpAny_field ho hd (x := .int k 0) rfl ?_)
    show wpAny _ _ (seqItems? (.ref l) >>= _) _ _ s
    refine wpAny_bind (wpAny_seqItems hol hdl ?_)
    simp only [Int.toNat_natCast, hx']
    refine wpAny_bind (wpAny_rule (wpAny_bind (wpAny_setField ho hd (by simp) ?_)))
    show wpAny _ _ (newExc (.type "StopIteration") [] >>= _) _ _ _
    refine wpAny_bind ?_
    simp only [newExc, newTuple]
    refine wpAny_bind (wpAny_newObj_type ?_ (by size_fits))
    refine wpAny_bind (m := firstArgMember _ _) (wpAny_of_eq (a := Value.none) (by first | rfl | (simp only [firstArgMember]; rfl)) ?_)
    refine wpAny_newObj_type ?_ (by size_fits)
    simp only [raiseNew]
    refine wpAny_bind (wpAny_handled ?_)
    first | rw [show A.in1.handled = none from hh] | rw [hh]
    refine wpAny_bind (wpAny_pure (wpAny_throw ?_))
    exact hE _ _ (((Heap.SameBut.update ..).extBut.push _).push _) ⟨_, Heap.get?_push_size _ rfl, rfl⟩
  | tuple hit hl hn r =>
    subst hds
    rename_i l k vs
    have hx' := drop_nil_at r.nil_inv
    have hit0 := hit
    obtain ⟨o, ho, hc, hd⟩ := hit
    obtain ⟨ol, hol, _, nl, hdl⟩ := hl
    refine wpAny_callSpecial?_slot (name := Str.ofString "__next__") hit0.typeIs F.slot_tuple_iterator_next (wpAny_call_entry F.slot_tuple_iterator_next hit0.typeIs F.entry_tuple_iterator_next ?_ (F.args_tuple_iterator_next_1 _))
    show wpAny _ _ (field (.ref i) 0 >>= _) _ _ s
    refine wpAny_bind (wpAny_field ho hd (x := .ref l) rfl ?_)
    show wpAny _ _ (if (Value.ref l == Value.none) = true then _ else _) _ _ s
    rw [if_neg (show ¬ ((Value.ref l == Value.none) = true) from Bool.false_ne_true)]
    show wpAny _ _ (field (.ref i) 1 >>= _) _ _ s
    refine wpAny_bind (wpAny_field ho hd (x := .int k 0) rfl ?_)
    show wpAny _ _ (seqItems? (.ref l) >>= _) _ _ s
    refine wpAny_bind (wpAny_seqItems hol hdl ?_)
    simp only [Int.toNat_natCast, hx']
    refine wpAny_bind (wpAny_rule (wpAny_bind (wpAny_setField ho hd (by simp) ?_)))
    show wpAny _ _ (newExc (.type "StopIteration") [] >>= _) _ _ _
    refine wpAny_bind ?_
    simp only [newExc, newTuple]
    refine wpAny_bind (wpAny_newObj_type ?_ (by size_fits))
    refine wpAny_bind (m := firstArgMember _ _) (wpAny_of_eq (a := Value.none) (by first | rfl | (simp only [firstArgMember]; rfl)) ?_)
    refine wpAny_newObj_type ?_ (by size_fits)
    simp only [raiseNew]
    refine wpAny_bind (wpAny_handled ?_)
    first | rw [show A.in1.handled = none from hh] | rw [hh]
    refine wpAny_bind (wpAny_pure (wpAny_throw ?_))
    exact hE _ _ (((Heap.SameBut.update ..).extBut.push _).push _) ⟨_, Heap.get?_push_size _ rfl, rfl⟩
  | range hit =>
    rename_i x n
    cases n with
    | succ n => cases hds
    | zero =>
      have hT : s.TypeIs (.ref i) "range_iterator" := ⟨_, hit, rfl⟩
      refine wpAny_callSpecial?_slot (name := Str.ofString "__next__") hT F.slot_range_iterator_next (wpAny_call_entry F.slot_range_iterator_next hT F.entry_range_iterator_next ?_ (F.args_range_iterator_next_1 _))
      show wpAny _ _ (field (.ref i) 0 >>= _) _ _ s
      refine wpAny_bind (wpAny_field hit rfl (x := rawInt x) rfl ?_)
      show wpAny _ _ (field (.ref i) 1 >>= _) _ _ s
      refine wpAny_bind (wpAny_field hit rfl (x := rawInt ((0 : Nat) : Int)) rfl ?_)
      show wpAny _ _ (field (.ref i) 2 >>= _) _ _ s
      refine wpAny_bind (wpAny_field hit rfl (x := rawInt 1) rfl ?_)
      show wpAny _ _ (if ((0 : Nat) : Int) ≤ 0 then _ else _) _ _ s
      rw [if_pos (by omega)]
      refine wpAny_bind (wpAny_rule ?_)
      refine wpAny_bind ?_
      show wpAny _ _ (newExc (.type "StopIteration") [] >>= _) _ _ _
      refine wpAny_bind ?_
      simp only [newExc, newTuple]
      refine wpAny_bind (wpAny_newObj_type ?_ (by size_fits))
      refine wpAny_bind (m := firstArgMember _ _) (wpAny_of_eq (a := Value.none) (by first | rfl | (simp only [firstArgMember]; rfl)) ?_)
      refine wpAny_newObj_type ?_ (by size_fits)
      simp only [raiseNew]
      refine wpAny_bind (wpAny_handled ?_)
      first | rw [show A.in1.handled = none from hh] | rw [hh]
      refine wpAny_bind (wpAny_pure (wpAny_throw ?_))
      exact hE _ _ (Heap.ExtBut.push (Heap.ExtBut.push (h := s.heap) (h' := s.heap) (fun b o _ e => e) _) _) ⟨_, Heap.get?_push_size _ rfl, rfl⟩
theorem nextOf_item {Q : Value → Shared → Prop} (hx : X i) (b : BIt X s.heap i (d :: ds))
    (hQ : ∀ v h' tk, Heap.SameBut i s.heap h' → Rep X h' v d → BIt X h' i ds → Q v { s with heap := h', toks := tk }) : wpAny (model prog w) A (Builtin.SmallTypes.nextOf (.ref i)) Q E s := by
  unfold Builtin.SmallTypes.nextOf
  exact wpAny_bind (cs_item hx b fun v h' tk a b c => wpAny_pure (hQ v h' tk a b c))
theorem nextOf_end {Q : Value → Shared → Prop} (hh : A.handled = none) (b : BIt X s.heap i [])
    (hE : ∀ h' e, Heap.ExtBut i s.heap h' → (∃ o, h'.get? e = some o ∧ o.cls = .type "StopIteration") → E (.ref e) { s with heap := h' }) : wpAny (model prog w) A (Builtin.SmallTypes.nextOf (.ref i)) Q E s := by
  unfold Builtin.SmallTypes.nextOf
  exact wpAny_bind (cs_end hh b hE)
theorem pyNext_item {Q : Option Value → Shared → Prop} (hx : X i) (b : BIt X s.heap i (d :: ds))
    (hQ : ∀ v h' tk, Heap.SameBut i s.heap h' → Rep X h' v d → BIt X h' i ds → Q (some v) { s with heap := h', toks := tk }) : wpAny (model prog w) A (pyNext (.ref i)) Q E s := by
  unfold pyNext
  exact wpAny_bind (wpAny_attempt (cs_item hx b fun v h' tk a b c => wpAny_pure (hQ v h' tk a b c)))
theorem pyNext_end {Q : Option Value → Shared → Prop} (hh : A.handled = none) (b : BIt X s.heap i [])
    (hQ : ∀ h', Heap.ExtBut i s.heap h' → Q none { s with heap := h' }) : wpAny (model prog w) A (pyNext (.ref i)) Q E s := by
  unfold pyNext
  refine wpAny_bind (wpAny_attempt (cs_end hh b fun h' e he ⟨o, ho, hc⟩ => ?_))
  refine wpAny_bind (wpAny_isInstance (T := "StopIteration") (b := true) ⟨o, ho, hc⟩ isSubtype_stop ?_)
  exact wpAny_pure (hQ _ he)
end
noncomputable def IsTupO (h : Heap) (T : Addr) (vs : List Value) : Prop := h.get? T = some { cls := .type "tuple", data := .seq vs.toArray }
inductive ZipD : List (List D) → List D → Prop
  | stop {dss : List (List D)} : [] ∈ dss → ZipD dss []
  | step {ps : List (D × List D)} {ds : List D} : ZipD (ps.map (·.2)) ds → ZipD (ps.map fun p => p.1 :: p.2) (.tuple (ps.map (·.1)) :: ds)
inductive BIts (X : Addr → Prop) (h : Heap) : List Addr → List (List D) → Prop
  | nil : BIts X h [] []
  | cons {i : Addr} {is : List Addr} {ds : List D} {dss : List (List D)} : BIt X h i ds → BIts X h is dss → BIts X h (i :: is) (ds :: dss)
theorem BIts.carry {X X' : Addr → Prop} {h h' : Heap} (c : Carry X h X' h') : ∀ {is : List Addr} {dss : List (List D)}, (∀ i ∈ is, ∀ o, h.get? i = some o → h'.get? i = some o) → BIts X h is dss → BIts X' h' is dss
  | _, _, _, .nil => .nil
  | _, _, k, .cons a b => .cons (a.carry c (k _ (.head _))) (b.carry c fun i hi => k i (.tail _ hi))
section
variable {prog : Program} {w : World} {A : Around} {E : Value → Shared → Prop} {s : Shared} {X : Addr → Prop}
theorem updateSeq_tup {T : Addr} {vs : List Value} {k : Nat} {x : Value} {Q : Unit → Shared → Prop} (hT : IsTupO s.heap T vs) (hl : vs.length ≤ 16777216)
    (h : ∀ h', IsTupO h' T (vs.set k x) → Heap.SameBut T s.heap h' → Q () { s with heap := h' }) :
    wpAny (model prog w) A (updateSeq T (·.setIfInBounds k x)) Q E s := by
  refine wpAny_updateSeq hT rfl (h _ ?_ (Heap.SameBut.update ..)) (by rw [List.size_toArray]; exact hl) (by rw [Array.size_setIfInBounds, List.size_toArray]; exact Nat.le_succ_of_le hl)
  unfold IsTupO
  rw [Heap.get?_update_self _ hT rfl]
  simp [Obj.mapSeq]
noncomputable def ZipTurn (prog : Program) (w : World) (A : Around) (z TO : Addr) (f : Value × Nat → Option PySem.Fin × Unit → Sem (ForInStep (Option PySem.Fin × Unit))) : Prop :=
  ∀ (i : Addr) (k : Nat) (s : Shared) (Q : ForInStep (Option PySem.Fin × Unit) → Shared → Prop) (E : Value → Shared → Prop),
    wpAny (model prog w) A (Builtin.SmallTypes.nextOf (.ref i)) (fun x s1 => ∃ vs, IsTupO s1.heap TO vs ∧ vs.length ≤ 16777216 ∧ ∀ h', IsTupO h' TO (vs.set k x) → Heap.SameBut TO s1.heap h' → Q (.yield (none, ())) { s1 with heap := h' })
      (fun e s1 => wpAny (model prog w) A (setField (.ref z) 0 .none) (fun _ s2 => E e s2) E s1) s → wpAny (model prog w) A (f (.ref i, k) (none, ())) Q E s
theorem set_append {α : Type} {pre : List α} {a x : α} {post : List α} : (pre ++ a :: post).set pre.length x = (pre ++ [x]) ++ post := by
  simp
theorem zip_items {f : Value × Nat → Option PySem.Fin × Unit → Sem (ForInStep (Option PySem.Fin × Unit))} {z TO : Addr} (hf : ZipTurn prog w A z TO f) (hTO : X TO) :
    ∀ (is : List Addr) (ps : List (D × List D)) (pre post : List Value) (s : Shared) (Q : Option PySem.Fin × Unit → Shared → Prop), BIts X s.heap is (ps.map fun p => p.1 :: p.2) → (∀ i ∈ is, X i) → is.Nodup → TO ∉ is → IsTupO s.heap TO (pre ++ post) → (pre ++ post).length ≤ 16777216 → post.length = is.length →
      (∀ xs h' tk, BIts X h' is (ps.map (·.2)) → IsTupO h' TO (pre ++ xs) → xs.length = is.length → Reps X h' xs (ps.map (·.1)) → h'.objs.size = s.heap.objs.size → (∀ b o, b ≠ TO → b ∉ is → s.heap.get? b = some o → h'.get? b = some o) → Q (none, ()) { s with heap := h', toks := tk }) →
      wpAny (model prog w) A (forIn ((is.map Value.ref).zipIdx pre.length) (none, ()) f) Q E s
  | [], ps, pre, post, s, Q, b, hX, nd, nTO, hT, hsz, hl, q => by
    cases ps with
    | cons p ps => cases b
    | nil =>
      have : post = [] := List.eq_nil_of_length_eq_zero hl
      subst this
      exact wpAny_pure (q [] s.heap s.toks .nil hT rfl .nil rfl fun _ _ _ _ e => e)
  | i :: is, [], pre, post, s, Q, b, hX, nd, nTO, hT, hsz, hl, q => by cases b
  | i :: is, (d, ds) :: ps, pre, post, s, Q, b, hX, nd, nTO, hT, hsz, hl, q => by
    cases b with
    | cons b1 b2 =>
    cases post with
    | nil => cases hl
    | cons a post =>
    have nTi : TO ≠ i := fun e => nTO (e ▸ List.mem_cons_self)
    obtain ⟨ni, nd'⟩ := List.nodup_cons.mp nd
    have hXi := hX i List.mem_cons_self
    rw [List.map_cons, List.zipIdx_cons, List.forIn_cons]
    refine wpAny_bind (hf i pre.length s _ E (nextOf_item hXi b1 fun v h₁ tk hs₁ r₁ b₁ => ⟨pre ++ a :: post, hs₁.extBut _ _ nTi hT, hsz, fun h₂ hT₂ hs₂ => ?_⟩))
    rw [set_append] at hT₂
    have c₁ := carry_sameBut hXi hs₁
    have c₂ := carry_sameBut hTO hs₂
    have ext : ∀ b o, b ≠ i → b ≠ TO → s.heap.get? b = some o → h₂.get? b = some o := fun b o n1 n2 e => hs₂.extBut b o n2 (hs₁.extBut b o n1 e)
    have b2' : BIts X h₂ is (ps.map fun p => p.1 :: p.2) := b2.carry (c₁.trans c₂) fun j hj o e => ext j o (fun q => ni (q ▸ hj)) (fun q => nTO (q ▸ List.mem_cons_of_mem _ hj)) e
    have := zip_items hf hTO is ps (pre ++ [v]) post { s with heap := h₂, toks := tk } Q b2' (fun j hj => hX j (List.mem_cons_of_mem _ hj)) nd' (fun h => nTO (List.mem_cons_of_mem _ h)) hT₂ (by simp at hsz ⊢; omega) (Nat.succ.inj hl) fun xs h₃ tk₃ b₃ hT₃ l₃ r₃ z₃ k₃ => ?_
    · rw [List.length_append, List.length_singleton] at this
      exact this
    · have k : ∀ b o, b ≠ TO → b ∉ is → h₂.get? b = some o → h₃.get? b = some o := k₃
      have hi₃ : ∀ o, h₂.get? i = some o → h₃.get? i = some o := fun o e => k i o (Ne.symm nTi) ni e
      have c₃ : Carry X h₂ X h₃ := ⟨fun b o n e => k b o (fun q => n (q ▸ hTO)) (fun q => n (hX b (List.mem_cons_of_mem _ q))) e, fun _ _ n _ => n⟩
      refine q (v :: xs) h₃ tk₃ (.cons ((b₁.carry c₂ fun o e => hs₂.extBut i o (Ne.symm nTi) e).carry c₃ hi₃) b₃) (by rw [show pre ++ v :: xs = pre ++ [v] ++ xs by simp]; exact hT₃) (by rw [List.length_cons, List.length_cons, l₃]) (.cons ((r₁.carry c₂).carry c₃) r₃) ?_ fun b o n1 n2 e => ?_
      · rw [z₃]; show h₂.objs.size = _; rw [hs₂.1, hs₁.1]
      · exact k b o n1 (fun h => n2 (List.mem_cons_of_mem _ h)) (ext b o (fun q => n2 (q ▸ List.mem_cons_self)) n1 e)
theorem zip_ends {f : Value × Nat → Option PySem.Fin × Unit → Sem (ForInStep (Option PySem.Fin × Unit))} {z TO : Addr} (hh : A.handled = none) (hf : ZipTurn prog w A z TO f) (hTO : X TO) (hz : X z) (nz : z ≠ TO) {o₀ : Obj} {fs : Array Value} (ho : o₀.data = .fields fs) (hc : o₀.cls = .type "zip") :
    ∀ (is : List Addr) (dss : List (List D)) (pre post : List Value) (s : Shared) (Q : Option PySem.Fin × Unit → Shared → Prop), BIts X s.heap is dss → [] ∈ dss → (∀ i ∈ is, X i) → is.Nodup → TO ∉ is → z ∉ is → IsTupO s.heap TO (pre ++ post) → (pre ++ post).length ≤ 16777216 → post.length = is.length →
      s.heap.get? z = some o₀ → 0 < fs.size →
      (∀ h' e tk, (∀ b o, b ≠ z → b ≠ TO → b ∉ is → s.heap.get? b = some o → h'.get? b = some o) → (∃ o, h'.get? e = some o ∧ o.cls = .type "StopIteration") → E (.ref e) { s with heap := h', toks := tk }) →
      wpAny (model prog w) A (forIn ((is.map Value.ref).zipIdx pre.length) (none, ()) f) Q E s
  | [], dss, pre, post, s, Q, b, he, hX, nd, nTO, nzi, hT, hsz, hl, hzo, hf0, q => by cases b; cases he
  | i :: is, dss, pre, post, s, Q, b, he, hX, nd, nTO, nzi, hT, hsz, hl, hzo, hf0, q => by
    cases b with
    | cons b1 b2 =>
    rename_i ds dss
    cases post with
    | nil => cases hl
    | cons a post =>
    have nTi : TO ≠ i := fun e => nTO (e ▸ List.mem_cons_self)
    have nzi' : z ≠ i := fun e => nzi (e ▸ List.mem_cons_self)
    obtain ⟨ni, nd'⟩ := List.nodup_cons.mp nd
    have hXi := hX i List.mem_cons_self
    rw [List.map_cons, List.zipIdx_cons, List.forIn_cons]
    cases ds with
    | nil =>
      refine wpAny_bind (hf i pre.length s _ E (nextOf_end hh b1 fun h₁ e hs₁ ⟨oe, hoe, hce⟩ => ?_))
      have hz₁ : h₁.get? z = some o₀ := hs₁ _ _ nzi' hzo
      have nez : e ≠ z := fun q => by subst q; rw [hz₁] at hoe; cases hoe; rw [hc] at hce; exact absurd hce (by decide)
      refine wpAny_setField hz₁ ho hf0 (q _ e s.toks (fun b o n1 n2 n3 e => ?_) ⟨oe, ?_, hce⟩)
      · exact (Heap.SameBut.update ..).extBut b o n1 (hs₁ b o (fun q => n3 (q ▸ List.mem_cons_self)) e)
      · exact (Heap.SameBut.update ..).extBut e oe nez hoe
    | cons d ds =>
      have he' : [] ∈ dss := by cases he with | tail _ h => exact h
      refine wpAny_bind (hf i pre.length s _ E (nextOf_item hXi b1 fun v h₁ tk hs₁ r₁ b₁ => ⟨pre ++ a :: post, hs₁.extBut _ _ nTi hT, hsz, fun h₂ hT₂ hs₂ => ?_⟩))
      rw [set_append] at hT₂
      have c₁ := carry_sameBut hXi hs₁
      have c₂ := carry_sameBut hTO hs₂
      have ext : ∀ b o, b ≠ i → b ≠ TO → s.heap.get? b = some o → h₂.get? b = some o := fun b o n1 n2 e => hs₂.extBut b o n2 (hs₁.extBut b o n1 e)
      have b2' : BIts X h₂ is dss := b2.carry (c₁.trans c₂) fun j hj o e => ext j o (fun q => ni (q ▸ hj)) (fun q => nTO (q ▸ List.mem_cons_of_mem _ hj)) e
      have := zip_ends hh hf hTO hz nz ho hc is dss (pre ++ [v]) post { s with heap := h₂, toks := tk } Q b2' he' (fun j hj => hX j (List.mem_cons_of_mem _ hj)) nd' (fun h => nTO (List.mem_cons_of_mem _ h)) (fun h => nzi (List.mem_cons_of_mem _ h)) hT₂ (by simp at hsz ⊢; omega) (Nat.succ.inj hl) (ext z o₀ nzi' nz hzo) hf0 fun h₃ e tk₃ k₃ he => ?_
      · rw [List.length_append, List.length_singleton] at this
        exact this
      · exact q h₃ e tk₃ (fun b o n1 n2 n3 x => k₃ b o n1 n2 (fun h => n3 (List.mem_cons_of_mem _ h)) (ext b o (fun q => n3 (q ▸ List.mem_cons_self)) n2 x)) he
end
noncomputable def isTup : Expr → Bool
  | .Tuple .. => true
  | _ => false
noncomputable def enumD : Nat → List D → List D
  | _, [] => []
  | k, d :: ds => .tuple [.int k, d] :: enumD (k + 1) ds
inductive It (X : Addr → Prop) (h : Heap) : Bool → Addr → List Addr → List D → Prop
  | basic {i : Addr} {ds : List D} : BIt X h i ds → It X h false i [i] ds
  | zip {z TI TO : Addr} {is : List Addr} {os : List Value} {dss : List (List D)} {ds : List D} : IsZip h z TI TO .none → IsTupO h TI (is.map Value.ref) → IsTupO h TO os → os.length = is.length → is.length ≤ 100 → is ≠ [] → BIts X h is dss → ZipD dss ds →
      (z :: TI :: TO :: is).Nodup → It X h true z (z :: TI :: TO :: is) ds
  | enum {e i t : Addr} {k : Nat} {old : Value} {vs : List Value} {ds : List D} : IsEnum h e i k old → h.IsTupleIter i t k → h.IsTuple t vs.toArray → ¬ X t → Reps X h (vs.drop k) ds → e ≠ i → It X h true e [e, i] (enumD k ds)
noncomputable def ItPl (h : Heap) (b : Addr) : Prop := ∃ o, h.get? b = some o ∧ o.cls ≠ .type "list" ∧ (∀ es n, o.data ≠ .dict es n) ∧ (∀ v, o.data ≠ .cell v)
theorem cls_ne {T : String} (h : T ≠ "list") : Value.type T ≠ Value.type "list" := fun e => h (by injection e)
theorem itPl_fields {h : Heap} {b : Addr} {o : Obj} {T : String} {fs : Array Value} (ho : h.get? b = some o) (hc : o.cls = .type T) (hT : T ≠ "list") (hd : o.data = .fields fs) : ItPl h b :=
  ⟨o, ho, (by rw [hc]; exact cls_ne hT), (fun _ _ e => by rw [hd] at e; cases e), (fun _ e => by rw [hd] at e; cases e)⟩
theorem BIt.place {X : Addr → Prop} {h : Heap} {i : Addr} {ds : List D} (b : BIt X h i ds) : ItPl h i := by
  cases b with
  | list a _ _ _ => obtain ⟨o, ho, hc, hd⟩ := a; exact itPl_fields ho hc (by decide) hd
  | tuple a _ _ _ => obtain ⟨o, ho, hc, hd⟩ := a; exact itPl_fields ho hc (by decide) hd
  | range a => exact itPl_fields a rfl (by decide) rfl
theorem BIts.place {X : Addr → Prop} {h : Heap} : ∀ {is : List Addr} {dss : List (List D)}, BIts X h is dss → ∀ i ∈ is, ItPl h i
  | _, _, .nil, _, hi => by cases hi
  | _, _, .cons a b, i, hi => by
    rcases List.mem_cons.mp hi with rfl | hi
    · exact a.place
    · exact b.place i hi
theorem IsTupO.place {h : Heap} {T : Addr} {vs : List Value} (x : IsTupO h T vs) : ItPl h T := ⟨_, x, cls_ne (by decide), (fun _ _ e => by cases e), (fun _ e => by cases e)⟩
theorem It.place {X : Addr → Prop} {h : Heap} {p : Bool} {it : Addr} {I : List Addr} {ds : List D} (b : It X h p it I ds) : ∀ a ∈ I, ItPl h a := by
  cases b with
  | basic b => intro a ha; rw [List.mem_singleton.mp ha]; exact b.place
  | zip hz hTI hTO _ _ _ bs _ _ =>
    intro a ha
    simp only [List.mem_cons] at ha
    rcases ha with rfl | rfl | rfl | ha
    · exact itPl_fields hz rfl (by decide) rfl
    · exact hTI.place
    · exact hTO.place
    · exact bs.place a ha
  | enum he hi _ _ _ _ =>
    intro a ha
    rcases List.mem_cons.mp ha with rfl | ha
    · exact itPl_fields he rfl (by decide) rfl
    · rw [List.mem_singleton.mp ha]; obtain ⟨o, ho, hc, hd⟩ := hi; exact itPl_fields ho hc (by decide) hd
theorem It.carry {X X' : Addr → Prop} {h h' : Heap} {p : Bool} {it : Addr} {I : List Addr} {ds : List D} (c : Carry X h X' h') (k : ∀ a ∈ I, ∀ o, h.get? a = some o → h'.get? a = some o) (b : It X h p it I ds) : It X' h' p it I ds := by
  cases b with
  | basic b => exact .basic (b.carry c (k _ (.head _)))
  | zip hz hTI hTO hl h100 hne bs zd nd => exact .zip (k _ (by simp) _ hz) (k _ (by simp) _ hTI) (k _ (by simp) _ hTO) hl h100 hne (bs.carry c fun i hi => k i (by simp [hi])) zd nd
  | enum he hi ht hn r ne =>
    refine .enum (k _ (by simp) _ he) (tupleIter_at hi (k _ (by simp))) ?_ ?_ (r.carry c) ne
    · obtain ⟨o, ho, q⟩ := ht; exact ⟨o, c.keep _ _ hn ho, q⟩
    · obtain ⟨o, ho, q⟩ := ht; exact c.new _ _ hn ho
section
variable {prog : Program} {w : World} {A : Around} {E : Value → Shared → Prop} {s : Shared} {X : Addr → Prop} {it : Addr} {I : List Addr} {d : D} {ds : List D} {p : Bool}
theorem letGo_other {tgt : Expr} {i : Addr} {v : Value} {o : Obj} {T : String} {Q : Unit → Shared → Prop} (ho : s.heap.get? i = some o) (hc : o.cls = .type T)
    (hT : ["enumerate", "zip", "dict_itemiterator", "dict_reverseitemiterator", "odict_iterator", "itertools.zip_longest", "itertools.pairwise"].contains T = false) (hQ : Q () s) :
    wpAny (model prog w) A (letOwnedTupleGo tgt (.ref i) v) Q E s := by
  unfold letOwnedTupleGo
  split
  · cases v with
    | ref a =>
      refine wpAny_bind (wpAny_load ho ?_)
      rw [hc]
      split
      · rename_i h1 h2
        injection h1 with h1
        subst h1
        rw [hT, Bool.false_and]
        exact wpAny_pure hQ
      · exact wpAny_pure hQ
    | _ => exact wpAny_pure hQ
  · cases v with
    | ref a =>
      refine wpAny_bind (wpAny_load ho ?_)
      rw [hc]
      split
      · rename_i h1 h2
        injection h1 with h1
        subst h1
        rw [hT, Bool.false_and]
        exact wpAny_pure hQ
      · exact wpAny_pure hQ
    | _ => exact wpAny_pure hQ
  · exact wpAny_pure hQ
theorem BIt.cls {i : Addr} {h : Heap} (b : BIt X h i ds) : ∃ o T, h.get? i = some o ∧ o.cls = .type T ∧ ["enumerate", "zip", "dict_itemiterator", "dict_reverseitemiterator", "odict_iterator", "itertools.zip_longest", "itertools.pairwise"].contains T = false := by
  cases b with
  | list a _ _ _ => obtain ⟨o, ho, hc, _⟩ := a; exact ⟨o, _, ho, hc, by decide⟩
  | tuple a _ _ _ => obtain ⟨o, ho, hc, _⟩ := a; exact ⟨o, _, ho, hc, by decide⟩
  | range a => exact ⟨_, _, a, rfl, by decide⟩
theorem zip_next_item' {z TI TO : Addr} {is : List Addr} {os : List Value} {ps : List (D × List D)} {Q : Value → Shared → Prop} (hXz : X z) (hXTO : X TO) (hXi : ∀ i ∈ is, X i) (hXTI : X TI) (hz : IsZip s.heap z TI TO .none)
    (hTI : IsTupO s.heap TI (is.map Value.ref)) (hTO : IsTupO s.heap TO os) (hl : os.length = is.length) (h100 : is.length ≤ 100) (hne : is ≠ []) (bs : BIts X s.heap is (ps.map fun p => p.1 :: p.2)) (nd : (z :: TI :: TO :: is).Nodup) (lv : Live X s)
    (hQ : ∀ h' tk xs, IsZip h' z TI TO (rawInt s.heap.objs.size) → IsTupO h' TO xs → xs.length = is.length → BIts X h' is (ps.map (·.2)) → Rep X h' (.ref s.heap.objs.size) (.tuple (ps.map (·.1))) →
      (∀ b o, b ≠ z → b ≠ TO → b ∉ is → s.heap.get? b = some o → h'.get? b = some o) → Q (.ref s.heap.objs.size) { s with heap := h', toks := tk }) :
    wpAny (model prog w) A (Builtin.«zip.__next__» ⟨[.ref z], []⟩) (fun fin s' => ∃ v, fin = .done (.ret v) ∧ Q v s') E s := by
  simp only [List.nodup_cons, List.mem_cons, not_or] at nd
  obtain ⟨⟨zTI, zTO, zis⟩, ⟨TITO, TIis⟩, TOis, nd⟩ := nd
  show wpAny _ _ (field (.ref z) 2 >>= _) _ _ _
  refine wpAny_bind (wpAny_field hz rfl (x := .bool false) rfl ?_)
  show wpAny _ _ (field (.ref z) 3 >>= _) _ _ _
  refine wpAny_bind (wpAny_field hz rfl (x := .ref TI) rfl ?_)
  refine wpAny_bind (wpAny_seqItems hTI rfl ?_)
  have he : (is.map Value.ref).toArray.isEmpty = false := by cases is <;> simp_all
  simp only [he, Bool.false_eq_true, if_false]
  show wpAny _ _ (Builtin.SmallTypes.ownedTupleIsFree (.ref z) >>= _) _ _ _
  refine wpAny_bind ?_
  unfold Builtin.SmallTypes.ownedTupleIsFree
  refine wpAny_bind (wpAny_field hz rfl (x := .none) rfl (wpAny_pure ?_))
  simp only [if_true]
  refine wpAny_bind (wpAny_rule ?_)
  refine wpAny_bind (wpAny_field hz rfl (x := .ref TO) rfl ?_)
  refine wpAny_bind (wpAny_setField_rec hz (by simp) fun h₁ hz₁ hs₁ => ?_)
  replace hz₁ : IsZip h₁ z TI TO .ellipsis := hz₁
  have c₁ := carry_sameBut hXz hs₁
  have hTO₁ : IsTupO h₁ TO os := hs₁.extBut _ _ (Ne.symm zTO) hTO
  refine wpAny_bind (zip_items (TO := TO) (z := z) ?_ hXTO is ps [] os { s with heap := h₁ } _ (bs.carry c₁ fun i hi o e => hs₁.extBut i o (fun q => zis (q ▸ hi)) e) hXi nd TOis hTO₁ (by simp; omega) hl fun xs h₂ tk₂ b₂ hT₂ l₂ r₂ z₂ k₂ => ?_)
  · intro i k s' Q' E' hn
    refine wpAny_bind (wpAny_onRaise ?_)
    show wpAny _ _ (Builtin.SmallTypes.nextOf (.ref i) >>= _) _ _ _
    refine wpAny_bind (wpAny_mono hn (fun x s₁ h => ?_) fun e s₁ h => h)
    obtain ⟨vs, hv, hlen, hq⟩ := h
    refine wpAny_pure ?_
    refine wpAny_bind (wpAny_seqItems hv rfl ?_)
    refine wpAny_bind (updateSeq_tup hv hlen fun h' a b => ?_)
    exact wpAny_bind (wpAny_letGo (wpAny_pure (hq h' a b)))
  · rw [List.nil_append] at hT₂
    have hz₂ : IsZip h₂ z TI TO .ellipsis := k₂ _ _ zTO zis hz₁
    refine wpAny_bind (wpAny_seqItems hT₂ rfl ?_)
    show wpAny _ _ (newTuple xs.toArray.toList >>= _) _ _ _
    refine wpAny_bind (wpAny_newTuple ?_ (by rw [List.toList_toArray, l₂]; exact Nat.le_trans h100 (by decide)))
    have hsz : h₂.objs.size = s.heap.objs.size := by rw [z₂]; exact hs₁.1
    show wpAny _ _ (Builtin.SmallTypes.ownedTupleHandOut (.ref z) (.ref h₂.objs.size) >>= _) _ _ _
    refine wpAny_bind ?_
    unfold Builtin.SmallTypes.ownedTupleHandOut
    have hz₆ : IsZip (h₂.push { cls := .type "tuple", data := .seq xs.toArray }) z TI TO .ellipsis := Heap.get?_push_of_some _ hz₂
    refine wpAny_bind (wpAny_setField_rec hz₆ (by simp) fun h₇ hz₇ hs₇ => ?_)
    replace hz₇ : IsZip h₇ z TI TO (rawInt h₂.objs.size) := hz₇
    refine wpAny_setField_rec hz₇ (by simp) fun h₈ hz₈ hs₈ => ?_
    replace hz₈ : IsZip h₈ z TI TO (rawInt h₂.objs.size) := hz₈
    have hzlt : z < h₂.objs.size := Heap.lt_size hz₂
    have up : ∀ c o, c ≠ z → h₂.get? c = some o → h₈.get? c = some o := fun c o c1 e => hs₈.extBut _ _ c1 (hs₇.extBut _ _ c1 (Heap.get?_push_of_some _ e))
    have hT₈ : h₈.get? h₂.objs.size = some { cls := .type "tuple", data := .seq xs.toArray } := hs₈.extBut _ _ (Nat.ne_of_gt hzlt) (hs₇.extBut _ _ (Nat.ne_of_gt hzlt) (Heap.get?_push_size _ rfl))
    have cu : Carry X h₂ X h₈ := ⟨fun b o n e => up b o (fun q => n (q ▸ hXz)) e, fun _ _ n _ => n⟩
    have hsz' : Shared.heap { heap := h₁, gens := s.gens, drawn := s.drawn, toks := s.toks, os := s.os } = h₁ := rfl
    rw [hsz] at hz₈ hT₈
    refine wpAny_pure ⟨_, rfl, ?_⟩
    show Q (.ref h₂.objs.size) _
    rw [hsz]
    exact hQ h₈ tk₂ xs hz₈ (up _ _ (Ne.symm zTO) hT₂) l₂ (b₂.carry cu fun i hi o e => up i o (fun q => zis (q ▸ hi)) e) (.tuple (not_live lv) ⟨_, hT₈⟩ (r₂.carry cu)) fun b o n1 n2 n3 e => up b o n1 (k₂ b o n2 n3 (hs₁.extBut b o n1 e))
theorem zip_next_end' {z TI TO : Addr} {is : List Addr} {os : List Value} {dss : List (List D)} {Q : Fin → Shared → Prop} (hh : A.handled = none) (hXz : X z) (hXTO : X TO) (hXi : ∀ i ∈ is, X i) (hz : IsZip s.heap z TI TO .none)
    (hTI : IsTupO s.heap TI (is.map Value.ref)) (hTO : IsTupO s.heap TO os) (hl : os.length = is.length) (h100 : is.length ≤ 100) (hne : is ≠ []) (bs : BIts X s.heap is dss) (hem : [] ∈ dss) (nd : (z :: TI :: TO :: is).Nodup)
    (hE : ∀ h' e tk, (∀ b o, b ≠ z → b ≠ TO → b ∉ is → s.heap.get? b = some o → h'.get? b = some o) → (∃ o, h'.get? e = some o ∧ o.cls = .type "StopIteration") → E (.ref e) { s with heap := h', toks := tk }) :
    wpAny (model prog w) A (Builtin.«zip.__next__» ⟨[.ref z], []⟩) Q E s := by
  simp only [List.nodup_cons, List.mem_cons, not_or] at nd
  obtain ⟨⟨zTI, zTO, zis⟩, ⟨TITO, TIis⟩, TOis, nd⟩ := nd
  show wpAny _ _ (field (.ref z) 2 >>= _) _ _ _
  refine wpAny_bind (wpAny_field hz rfl (x := .bool false) rfl ?_)
  show wpAny _ _ (field (.ref z) 3 >>= _) _ _ _
  refine wpAny_bind (wpAny_field hz rfl (x := .ref TI) rfl ?_)
  refine wpAny_bind (wpAny_seqItems hTI rfl ?_)
  have he : (is.map Value.ref).toArray.isEmpty = false := by cases is <;> simp_all
  simp only [he, Bool.false_eq_true, if_false]
  show wpAny _ _ (Builtin.SmallTypes.ownedTupleIsFree (.ref z) >>= _) _ _ _
  refine wpAny_bind ?_
  unfold Builtin.SmallTypes.ownedTupleIsFree
  refine wpAny_bind (wpAny_field hz rfl (x := .none) rfl (wpAny_pure ?_))
  simp only [if_true]
  refine wpAny_bind (wpAny_rule ?_)
  refine wpAny_bind (wpAny_field hz rfl (x := .ref TO) rfl ?_)
  refine wpAny_bind (wpAny_setField_rec hz (by simp) fun h₁ hz₁ hs₁ => ?_)
  replace hz₁ : IsZip h₁ z TI TO .ellipsis := hz₁
  have c₁ := carry_sameBut hXz hs₁
  have hTO₁ : IsTupO h₁ TO os := hs₁.extBut _ _ (Ne.symm zTO) hTO
  refine wpAny_bind (zip_ends (TO := TO) (z := z) hh ?_ hXTO hXz zTO rfl rfl is dss [] os { s with heap := h₁ } _ (bs.carry c₁ fun i hi o e => hs₁.extBut i o (fun q => zis (q ▸ hi)) e) hem hXi nd TOis zis hTO₁ (by simp; omega) hl hz₁ (by simp) fun h₂ e tk₂ k₂ he₂ => ?_)
  · intro i k s' Q' E' hn
    refine wpAny_bind (wpAny_onRaise ?_)
    show wpAny _ _ (Builtin.SmallTypes.nextOf (.ref i) >>= _) _ _ _
    refine wpAny_bind (wpAny_mono hn (fun x s₁ h => ?_) fun e s₁ h => h)
    obtain ⟨vs, hv, hlen, hq⟩ := h
    refine wpAny_pure ?_
    refine wpAny_bind (wpAny_seqItems hv rfl ?_)
    refine wpAny_bind (updateSeq_tup hv hlen fun h' a b => ?_)
    exact wpAny_bind (wpAny_letGo (wpAny_pure (hq h' a b)))
  · exact hE h₂ e tk₂ (fun b o n1 n2 n3 x => k₂ b o n1 n2 n3 (hs₁.extBut b o n1 x)) he₂
end
section
variable {prog : Program} {w : World} {A : Around} {E : Value → Shared → Prop} {s : Shared} {X : Addr → Prop} {it : Addr} {I : List Addr} {d : D} {ds : List D} {p : Bool}
theorem drawsTuple (hh : A.handled = none) (i t : Addr) (hne : t ≠ i) (items : Array Value) :
    Draws prog w A i [i, t] items.size (fun k v => items[k]? = some v) (fun k h => h.IsTupleIter i t k ∧ h.IsTuple t items) where
  live := fun _ _ st => let ⟨o, ho, _⟩ := st.1; ⟨o, ho⟩
  frame := fun _ _ _ st hk => ⟨tupleIter_at st.1 fun o e => hk i (by simp) o e, isTuple_at st.2 fun o e => hk t (by simp) o e⟩
  item := fun k s Q E hk st hQ => by
    obtain ⟨o, ho, hc, hd⟩ := st.1
    obtain ⟨ol, hol, _, nl, hdl⟩ := st.2
    unfold Builtin.SmallTypes.nextOf
    refine wpAny_bind (wpAny_callSpecial?_slot (name := Str.ofString "__next__") st.1.typeIs F.slot_tuple_iterator_next (wpAny_call_entry F.slot_tuple_iterator_next st.1.typeIs F.entry_tuple_iterator_next ?_ (F.args_tuple_iterator_next_1 _)))
    show wpAny _ _ (field (.ref i) 0 >>= _) _ _ s
    refine wpAny_bind (wpAny_field ho hd (x := .ref t) rfl ?_)
    show wpAny _ _ (if (Value.ref t == Value.none) = true then _ else _) _ _ s
    rw [if_neg (show ¬ ((Value.ref t == Value.none) = true) from Bool.false_ne_true)]
    show wpAny _ _ (field (.ref i) 1 >>= _) _ _ s
    refine wpAny_bind (wpAny_field ho hd (x := .int k 0) rfl ?_)
    show wpAny _ _ (seqItems? (.ref t) >>= _) _ _ s
    refine wpAny_bind (wpAny_seqItems hol hdl ?_)
    simp only [Int.toNat_natCast, Array.getElem?_eq_getElem hk]
    have hs := Heap.SameBut.update s.heap i (Obj.mapFields fun x => x.setIfInBounds 1 (rawInt (k + 1)))
    refine wpAny_bind (wpAny_setField ho hd (by simp) (wpAny_pure ⟨_, rfl, wpAny_pure (hQ _ _ s.toks (Array.getElem?_eq_getElem hk) ⟨?_, st.2.extBut hs.extBut hne⟩ hs)⟩))
    exact ⟨_, Heap.get?_update_self _ ho (Obj.isFreed_of_fields (Obj.data_mapFields hd _)), (Obj.cls_mapFields ..).trans hc, by rw [Obj.data_mapFields hd]; simp [rawInt]⟩
  done := fun s Q E st hE => by
    unfold Builtin.SmallTypes.nextOf
    exact wpAny_bind (cs_end (X := fun b => b = i) hh (.tuple (vs := items.toList) (k := items.size) st.1 st.2 (fun e => hne e) (by rw [← Array.length_toList, List.drop_length]; exact .nil)) hE)
theorem It.step {tgt : Expr} (hh : A.handled = none) (hI : ∀ b ∈ I, X b) (lv : Live X s) (ht : p = true → isTup tgt = true) (b : It X s.heap p it I (d :: ds))
    {N : Value → Shared → Prop} {Q : Value → Shared → Prop}
    (hQ : ∀ v h' tk, (∀ b o, b ∉ I → s.heap.get? b = some o → h'.get? b = some o) → Rep X h' v d → It X h' p it I ds → Q v { s with heap := h', toks := tk }) :
    wpAny (model prog w) A (pyNext (.ref it)) (fun r s₁ => ∃ v, r = some v ∧ wpAny (model prog w) A (letOwnedTupleGo tgt (.ref it) v) (fun _ s₂ => Q v s₂) N s₁) E s := by
  generalize hds : d :: ds = dd at b
  cases b with
  | basic b =>
    subst hds
    refine pyNext_item (hI _ (.head _)) b fun v h' tk hs r b' => ⟨v, rfl, ?_⟩
    obtain ⟨o, T, ho, hc, hT⟩ := b'.cls
    exact letGo_other ho hc hT (hQ v h' tk (fun b o hb e => hs.extBut b o (fun q => hb (q ▸ List.mem_cons_self)) e) r (.basic b'))
  | zip hz hTI hTO hl h100 hne bs zd nd =>
    rename_i TI TO is os dss
    subst hds
    generalize hdd : d :: ds = dd at zd
    cases zd with
    | stop h => cases hdd
    | step zd =>
      rename_i ps ds'
      injection hdd with e1 e2
      subst e1; subst e2
      have hXz : X it := hI _ (by simp)
      have hT : s.TypeIs (.ref it) "zip" := ⟨_, hz, rfl⟩
      unfold pyNext
      refine wpAny_bind (wpAny_attempt (wpAny_callSpecial?_slot (name := Str.ofString "__next__") hT F.slot_zip_next (wpAny_call_entry F.slot_zip_next hT F.entry_zip_next
        (zip_next_item' hXz (hI _ (by simp)) (fun i hi => hI i (by simp [hi])) (hI _ (by simp)) hz hTI hTO hl h100 hne bs nd lv fun h' tk xs hz' hTO' hl' bs' r' k' => wpAny_pure ⟨_, rfl, ?_⟩) (F.args_zip_next_1 _))))
      obtain ⟨elts, j, pos, rfl⟩ : ∃ e k p, tgt = .Tuple e k p := by
        have := ht rfl
        cases tgt <;> first | exact ⟨_, _, _, rfl⟩ | cases this
      have nd0 := nd
      simp only [List.nodup_cons, List.mem_cons, not_or] at nd
      obtain ⟨⟨zTI, zTO, zis⟩, ⟨TITO, TIis⟩, TOis, nd⟩ := nd
      refine wpAny_letOwnedTupleGo_zip hz' fun h'' hz'' hs'' => ?_
      have c := carry_sameBut hXz hs''
      refine hQ _ h'' tk (fun b o hb e => ?_) (r'.carry c) (.zip hz'' (hs''.extBut _ _ (Ne.symm zTI) (k' _ _ (Ne.symm zTI) TITO TIis hTI)) (hs''.extBut _ _ (Ne.symm zTO) hTO') hl' h100 hne (bs'.carry c fun i hi o e => hs''.extBut i o (fun q => zis (q ▸ hi)) e) zd nd0)
      simp only [List.mem_cons, not_or] at hb
      exact hs''.extBut b o hb.1 (k' b o hb.1 hb.2.2.1 hb.2.2.2 e)
  | enum he hi hT hn r ne =>
    rename_i i t k old vs ds'
    cases ds' with
    | nil => cases hds
    | cons d' ds' =>
      injection hds with e1 e2
      subst e1; subst e2
      obtain ⟨v, ws, hdr, r1, r2⟩ := r.cons_inv
      obtain ⟨hx', hd'⟩ := drop_cons_at hdr
      have hXe : X it := hI _ (by simp)
      have hXi : X i := hI _ (by simp)
      have hti : t ≠ i := fun e => hn (e ▸ hXi)
      have hte : t ≠ it := fun e => hn (e ▸ hXe)
      have hlt : k < vs.toArray.size := by
        rcases Nat.lt_or_ge k vs.toArray.size with h | h
        · exact h
        · rw [Array.getElem?_eq_none h] at hx'; cases hx'
      obtain ⟨elts, j, pos, rfl⟩ : ∃ e k p, tgt = .Tuple e k p := by
        have := ht rfl
        cases tgt <;> first | exact ⟨_, _, _, rfl⟩ | cases this
      refine wpAny_pyNext_enum_itemD (drawsTuple (A := A.in1) (show A.in1.handled = none from hh) i t hti vs.toArray) he ⟨hi, hT⟩ hlt ne (by simp [ne, Ne.symm hte]) fun x h' tk hP ho hst hT' hz' k' => ⟨_, rfl, ?_⟩
      rw [hx'] at hP
      injection hP with hP
      subst hP
      have hk : ∀ b o, ¬ X b → s.heap.get? b = some o → h'.get? b = some o := fun b o n e => k' b o (fun q => n (q ▸ hXe)) (fun q => n (q ▸ hXi)) e
      have c₁ : Carry X s.heap X h' := ⟨hk, fun _ _ n _ => n⟩
      refine wpAny_letOwnedTupleGo_enum ho fun h'' he'' hs'' => ?_
      have c₂ := carry_sameBut hXe hs''
      have nT : s.heap.objs.size ≠ it := fun e => Nat.lt_irrefl _ (e ▸ Heap.lt_size he)
      refine hQ _ h'' (tk + 1) (fun b o hb e => ?_) (.tuple (vs := [.int k tk, v]) (not_live lv) ⟨_, hs''.extBut _ _ nT hT'⟩ (.cons (.int k tk) (.cons ((r1.carry c₁).carry c₂) .nil))) ?_
      · simp only [List.mem_cons, not_or] at hb
        exact hs''.extBut b o hb.1 (k' b o hb.1 hb.2.1 e)
      · exact .enum he'' (hst.1.extBut hs''.extBut (Ne.symm ne)) (hst.2.extBut hs''.extBut hte) hn (by rw [hd']; exact (r2.carry c₁).carry c₂) ne
theorem It.done (hh : A.handled = none) (hI : ∀ b ∈ I, X b) (b : It X s.heap p it I []) {Q : Option Value → Shared → Prop}
    (hQ : ∀ h' tk, (∀ b o, b ∉ I → s.heap.get? b = some o → h'.get? b = some o) → Q none { s with heap := h', toks := tk }) : wpAny (model prog w) A (pyNext (.ref it)) Q E s := by
  generalize hds : ([] : List D) = dd at b
  cases b with
  | basic b =>
    subst hds
    exact pyNext_end hh b fun h' he => hQ h' s.toks fun b o hb e => he b o (fun q => hb (q ▸ List.mem_cons_self)) e
  | zip hz hTI hTO hl h100 hne bs zd nd =>
    rename_i TI TO is os dss
    subst hds
    have hem : [] ∈ dss := by
      generalize hdd : ([] : List D) = dd at zd
      cases zd with
      | stop h => exact hdd ▸ h
      | step _ => cases hdd
    have hT : s.TypeIs (.ref it) "zip" := ⟨_, hz, rfl⟩
    unfold pyNext
    refine wpAny_bind (wpAny_attempt (wpAny_callSpecial?_slot (name := Str.ofString "__next__") hT F.slot_zip_next (wpAny_call_entry F.slot_zip_next hT F.entry_zip_next
      (zip_next_end' hh (hI _ (by simp)) (hI _ (by simp)) (fun i hi => hI i (by simp [hi])) hz hTI hTO hl h100 hne bs hem nd fun h' e tk k' he => ?_) (F.args_zip_next_1 _))))
    obtain ⟨o, ho, hc⟩ := he
    refine wpAny_bind (wpAny_isInstance (T := "StopIteration") (b := true) ⟨o, ho, hc⟩ isSubtype_stop ?_)
    refine wpAny_pure (hQ h' tk fun b o hb e => ?_)
    simp only [List.mem_cons, not_or] at hb
    exact k' b o hb.1 hb.2.2.1 hb.2.2.2 e
  | enum he hi hT hn r ne =>
    rename_i i t k old vs ds'
    cases ds' with
    | cons => cases hds
    | nil =>
      have hdr := r.nil_inv
      have hXe : X it := hI _ (by simp)
      have hXi : X i := hI _ (by simp)
      have hti : t ≠ i := fun e => hn (e ▸ hXi)
      have hT' : s.TypeIs (.ref it) "enumerate" := ⟨_, he, rfl⟩
      unfold pyNext
      refine wpAny_bind (wpAny_attempt (wpAny_callSpecial?_slot (name := Str.ofString "__next__") hT' F.slot_enumerate_next (wpAny_call_entry F.slot_enumerate_next hT' F.entry_enumerate_next ?_ (F.args_enumerate_next_1 _))))
      show wpAny _ _ (field (.ref it) 2 >>= _) _ _ _
      refine wpAny_bind (wpAny_field he rfl (x := .ref i) rfl ?_)
      refine wpAny_bind (nextOf_end (X := X) hh (.tuple hi hT hn (by rw [hdr]; exact .nil)) fun h' e he' ⟨o, ho, hc⟩ => ?_)
      refine wpAny_bind (wpAny_isInstance (T := "StopIteration") (b := true) ⟨o, ho, hc⟩ isSubtype_stop ?_)
      refine wpAny_pure (hQ h' s.toks fun b o hb e => he' b o (fun q => hb (by simp [q])) e)
end
theorem itPl_ne_ns {h : Heap} {b L : Addr} {m : Str → Option Value} (x : ItPl h b) (y : h.Ns L m) : b ≠ L := by
  rintro rfl
  obtain ⟨o, e, _, n, _⟩ := x
  obtain ⟨o', es, ep, e', d', _⟩ := y
  rw [e] at e'; cases e'; exact n _ _ d'
theorem itPl_ne_cell {h : Heap} {b a : Addr} {v : Option Value} (x : ItPl h b) (y : h.IsCell a v) : b ≠ a := by
  rintro rfl
  obtain ⟨o, e, _, _, n⟩ := x
  obtain ⟨o', e', d'⟩ := y
  rw [e] at e'; cases e'; exact n _ d'
theorem itPl_ne_list {h : Heap} {b l : Addr} {items : Array Value} (x : ItPl h b) (y : h.IsList l items) : b ≠ l := by
  rintro rfl
  obtain ⟨o, e, n, _⟩ := x
  obtain ⟨o', e', c', _⟩ := y
  rw [e] at e'; cases e'; exact n c'
noncomputable abbrev ad (Z : Addr → Prop) (I : List Addr) : Addr → Prop := fun b => Z b ∨ b ∈ I
section
variable {c : Cx} {k : Nat} {S : Scope} {ρ ρ' ρ₁ ρ₂ ρ₃ : Vars} {γ γ' γ₁ γ₂ γ₃ : GS} {fn : Bool}
theorem Rel.itw0 {env : Env} {W Z : Addr → Prop} {s : Shared} {I : List Addr} {h' : Heap} {tk : Nat} (R : Rel c γ env W (ad Z I) ρ s) (pl : ∀ b ∈ I, ItPl s.heap b) (hW : ∀ b ∈ I, ¬ W b)
    (k : ∀ b o, b ∉ I → s.heap.get? b = some o → h'.get? b = some o) (Z' : Addr → Prop) (hz : ∀ b, Z' b → ad Z I b) (lv : ∀ b ∈ I, Z' b → ∃ o, h'.get? b = some o) : Rel c γ env W Z' ρ { s with heap := h', toks := tk } := by
  have sub : ∀ b, un Z' W b → un (ad Z I) W b := fun b h => h.imp (hz b) id
  have cy : Carry (un (ad Z I) W) s.heap (un Z' W) h' := ⟨fun b o n e => k b o (fun q => n (.inl (.inr q))) e, fun b _ n _ y => n (sub b y)⟩
  have kn : ∀ L m, s.heap.Ns L m → h'.Ns L m := fun L m n => n.at' fun o e => k L o (fun q => itPl_ne_ns (pl L q) n rfl) e
  have kc : ∀ a v, s.heap.IsCell a v → h'.IsCell a v := fun a v n => let ⟨o, e, d⟩ := n; ⟨o, k a o (fun q => itPl_ne_cell (pl a q) n rfl) e, d⟩
  have kl : ∀ l items, s.heap.IsList l items → ∀ o, s.heap.get? l = some o → h'.get? l = some o := fun l items n o e => k l o (fun q => itPl_ne_list (pl l q) n rfl) e
  have nm : ∀ x v, VarAt env s.heap x v → VarAt env h' x v := fun x v a => by
    unfold VarAt at a ⊢
    split
    · rename_i e; rw [e] at a; obtain ⟨m', n', q⟩ := a; exact ⟨m', kn _ _ n', q⟩
    · rename_i e; rw [e] at a; obtain ⟨b, l, q⟩ := a; exact ⟨b, l, kc _ _ q⟩
    · rename_i e; rw [e] at a; obtain ⟨b, l, q⟩ := a; exact ⟨b, l, kc _ _ q⟩
    · split at a <;> simp_all
  have ne : ∀ b o, c.h0.get? b = some o → b ∉ I := fun b o e q => by have := R.g.xbase b (.inl (.inr q)); rw [e] at this; cases this
  refine ⟨R.ok, ⟨fun b o e => k b o (ne b o e) (R.g.base b o e), fun b h => R.g.xbase b (sub b h), fun b h => ?_, R.g.gens, R.g.os, R.g.drawn, fun b hb => .inr (R.wM b hb), fun b hb => let ⟨i, h⟩ := R.g.mpl b hb; ⟨i, isList_at h (kl _ _ h)⟩, c.invCarry _ _ _ _ _ R.g.inv cy fun b o hb e => let ⟨_, h⟩ := R.g.mpl b hb; kl _ _ h o e⟩, R.kind, R.gl, R.bl, (let ⟨m, n⟩ := R.ns; ⟨m, kn _ _ n⟩), R.wl, R.wM, R.cinj,
    (fun x a q => let ⟨v, n⟩ := R.cell x a q; ⟨v, kc _ _ n⟩), R.cw, fun x u q => ?_, fun x y ds es v q1 q2 a1 a2 => ?_⟩
  · by_cases q : b ∈ I
    · exact h.elim (lv b q) fun w => absurd w (hW b q)
    · obtain ⟨o, ho⟩ := R.g.live b (sub b h); exact ⟨o, k b o q ho⟩
  · obtain ⟨v, a, r⟩ := R.vars x u q
    exact ⟨v, nm _ _ a, r.carry cy (fun _ h => h) (fun b _ z _ z' => z (hz b z')) fun l _ _ _ i => ol_at i (kl _ _ i.isList)⟩
  · obtain ⟨v1, b1, _⟩ := R.vars x _ q1
    obtain ⟨v2, b2, _⟩ := R.vars y _ q2
    have e1 := VarAt.unique (nm _ _ b1) a1
    have e2 := VarAt.unique (nm _ _ b2) a2
    subst e1; subst e2
    exact R.oinj x y ds es _ q1 q2 b1 b2
structure ExtI (I : List Addr) (W : Addr → Prop) (s : Shared) (W' : Addr → Prop) (s' : Shared) : Prop where
  live : ∀ b o, b ∉ I → s.heap.get? b = some o → ∃ o', s'.heap.get? b = some o'
  new : ∀ b, W' b → W b ∨ (s.heap.get? b = none ∧ b ∉ I)
  keep : ∀ b o, ¬ W b → b ∉ I → s.heap.get? b = some o → s'.heap.get? b = some o
theorem ExtI.trans {I : List Addr} {W W' W'' : Addr → Prop} {s s' s'' : Shared} (x : ExtI I W s W' s') (y : ExtI I W' s' W'' s'') : ExtI I W s W'' s'' where
  live := fun b o n e => let ⟨o', e'⟩ := x.live b o n e; y.live b o' n e'
  new := fun b h => by
    rcases y.new b h with q | ⟨q, n⟩
    · exact x.new b q
    · by_cases w : W b
      · exact .inl w
      · refine .inr ⟨?_, n⟩
        cases e : s.heap.get? b with
        | none => rfl
        | some o => rw [x.keep b o w n e] at q; cases q
  keep := fun b o w n e => by
    have e' := x.keep b o w n e
    refine y.keep b o (fun w' => ?_) n e'
    rcases x.new b w' with q | q
    · exact w q
    · rw [q.1] at e; cases e
theorem Ext.toI {I : List Addr} {W W' : Addr → Prop} {s s' : Shared} (x : Ext W s W' s') (lv : ∀ b ∈ I, ∃ o, s.heap.get? b = some o) : ExtI I W s W' s' :=
  ⟨fun b o _ e => x.live b o e, fun b h => (x.new b h).imp id fun q => ⟨q, fun i => by obtain ⟨o, e⟩ := lv b i; rw [q] at e; cases e⟩, fun b o w _ e => x.keep b o w e⟩
theorem ExtI.itw {W : Addr → Prop} {s : Shared} {I : List Addr} {h' : Heap} {tk : Nat} (k : ∀ b o, b ∉ I → s.heap.get? b = some o → h'.get? b = some o) : ExtI I W s W { s with heap := h', toks := tk } :=
  ⟨fun b o n e => ⟨o, k b o n e⟩, fun _ h => .inl h, fun b o _ n e => k b o n e⟩
theorem ExtI.out {W W' : Addr → Prop} {s₀ s s' : Shared} {W₀ : Addr → Prop} {I : List Addr} (x₀ : Ext W₀ s₀ W s) (x : ExtI I W s W' s') (f : ∀ b ∈ I, s₀.heap.get? b = none) : Ext W₀ s₀ W' s' where
  live := fun b o e => let ⟨o', e'⟩ := x₀.live b o e; x.live b o' (fun q => by rw [f b q] at e; cases e) e'
  new := fun b w => by
    rcases x.new b w with q | ⟨q, n⟩
    · exact x₀.new b q
    · by_cases w0 : W₀ b
      · exact .inl w0
      · refine .inr ?_
        cases e : s₀.heap.get? b with
        | none => rfl
        | some o => rw [x₀.keep b o w0 e] at q; cases q
  keep := fun b o n e => by
    have e' := x₀.keep b o n e
    refine x.keep b o (fun w => ?_) (fun q => by rw [f b q] at e; cases e) e'
    rcases x₀.new b w with q | q
    · exact n q
    · rw [q] at e; cases e
end
noncomputable def ExL (c : Cx) (k : Nat) (S : Scope) (ρ : Vars) (γ : GS) (t : Env → Sem Flow) (ρ' : Vars) (γ' : GS) : Prop :=
  ∀ (A : Around) (env : Env) (W Z : Addr → Prop) (s : Shared) (Q : Flow → Shared → Prop) (E : Value → Shared → Prop), env.scope = S → FnEnv env → Room A k → Rel c γ env W Z ρ s →
    (∀ s' W', Ext W s W' s' → Rel c γ' env W' Z ρ' s' → Q .next s' ∧ Q .cont s') → wpAny (model c.prog c.w) A (t env) Q E s
theorem Ex.toL {c : Cx} {k : Nat} {S : Scope} {ρ ρ' : Vars} {γ γ' : GS} {t : Env → Sem Flow} (h : Ex c k S ρ γ t (.next ρ' γ')) : ExL c k S ρ γ t ρ' γ' :=
  fun A env W Z s Q E hs hf rm R q => h A env W Z s Q E hs hf rm R fun s' W' x R' => (q s' W' x R').1
inductive ForR (c : Cx) (k : Nat) (S : Scope) (tgt : Expr) (body : List Stmt) : List D → Vars → GS → Out → Prop
  | nil {ρ : Vars} {γ : GS} : ForR c k S tgt body [] ρ γ (.next ρ γ)
  | cons {d : D} {ds : List D} {ρ ρ₁ ρ₂ : Vars} {γ γ₂ : GS} {o : Out} : As c S true tgt (.d d) ρ ρ₁ → ExL c k S ρ₁ γ (fun env => execs body env) ρ₂ γ₂ → ForR c k S tgt body ds ρ₂ γ₂ o → ForR c k S tgt body (d :: ds) ρ γ o
  | ret {d r : D} {ds : List D} {ρ ρ₁ : Vars} {γ γ₂ : GS} : As c S true tgt (.d d) ρ ρ₁ → ExB c k S ρ₁ γ body (.ret r γ₂) → ForR c k S tgt body (d :: ds) ρ γ (.ret r γ₂)
section
variable {c : Cx} {k : Nat} {S : Scope} {ρ ρ' ρ₁ ρ₂ ρ₃ : Vars} {γ γ' γ₁ γ₂ γ₃ : GS} {fn : Bool}
theorem forTurn_run {prog : Program} {w : World} {A : Around} {tgt : Expr} {it : Value} {body : List Stmt} {env : Env} {R : Result → Shared → Prop} {s : Shared}
    (h : wpAny (model prog w) A (pyNext it) (fun r s₁ => match r with
      | none => R (.ok .next) s₁
      | some v => wpAny (model prog w) A (letOwnedTupleGo tgt it v) (fun _ s₂ => wpAny (model prog w) A (assign tgt env v) (fun _ s₃ => wpAny (model prog w) A (execs body env) (fun f s₄ => match f with
          | .next | .cont => codeAny (model prog w) A (.forLoop tgt it body [] env) R s₄
          | .brk => R (.ok .next) s₄
          | .ret v => R (.ok (.ret v)) s₄) (notedBy (model prog w) A env fun e s' => R (.error e) s') s₃) (notedBy (model prog w) A env fun e s' => R (.error e) s') s₂)
            (notedBy (model prog w) A env fun e s' => R (.error e) s') s₁) (notedBy (model prog w) A env fun e s' => R (.error e) s') s) :
    codeAny (model prog w) A (.forLoop tgt it body [] env) R s := by
  refine codeAny_of_tree ?_
  show wpAny _ _ ((forTurn tgt it body [] env).onRaise (fun x => do noteFrame x env; theTreesLotGoes x)) _ _ s
  refine wpAny_noted ?_
  simp only [forTurn]
  refine wpAny_bind (wpAny_standAt (wpAny_bind (wpAny_onRaise (wpAny_mono h (fun r s₁ h₁ => ?_) fun _ _ h' => wpAny_standAt h'))))
  cases r with
  | none => exact wpAny_pure ⟨rfl, codeAny_block (wpAny_execs_nil h₁)⟩
  | some v =>
    refine wpAny_bind (wpAny_mono h₁ (fun _ s₂ h₂ => ?_) fun _ _ h' => h')
    refine wpAny_bind (wpAny_mono h₂ (fun _ s₃ h₃ => wpAny_bind (wpAny_mono h₃ (fun f s₄ h₄ => ?_) fun _ _ h' => h')) fun _ _ h' => h')
    cases f with
    | next => exact wpAny_pure ⟨rfl, h₄⟩
    | cont => exact wpAny_pure ⟨rfl, h₄⟩
    | brk => exact wpAny_pure h₄
    | ret v => exact wpAny_pure h₄
noncomputable def OutI (c : Cx) (env : Env) (W Z : Addr → Prop) (I : List Addr) (s : Shared) (Q : Flow → Shared → Prop) : Out → Prop
  | .next ρ γ => ∀ s' W', ExtI I W s W' s' → Rel c γ env W' Z ρ s' → Q .next s'
  | .ret d γ => ∀ v s' W', ExtI I W s W' s' → GRel c γ (un Z (ML c)) s' → Rep (un Z (ML c)) s'.heap v d → Q (.ret v) s'
theorem OutI.ext {env : Env} {W W' Z : Addr → Prop} {I : List Addr} {s s' : Shared} {Q : Flow → Shared → Prop} {o : Out} (x : ExtI I W s W' s') (h : OutI c env W Z I s Q o) : OutI c env W' Z I s' Q o := by
  cases o with
  | next ρ γ => exact fun s'' W'' y R => h s'' W'' (x.trans y) R
  | ret d γ => exact fun v s'' W'' y R r => h v s'' W'' (x.trans y) R r
theorem It.ext {X X' : Addr → Prop} {W W' : Addr → Prop} {s s' : Shared} {p : Bool} {it : Addr} {I : List Addr} {ds : List D} (x : Ext W s W' s') (c : Carry X s.heap X' s'.heap) (hW : ∀ b ∈ I, ¬ W b) (b : It X s.heap p it I ds) : It X' s'.heap p it I ds :=
  b.carry c fun a ha o e => x.keep a o (hW a ha) e
theorem Ext.notW {W W' : Addr → Prop} {s s' : Shared} {I : List Addr} (x : Ext W s W' s') (lv : ∀ b ∈ I, ∃ o, s.heap.get? b = some o) (hW : ∀ b ∈ I, ¬ W b) : ∀ b ∈ I, ¬ W' b := fun b hb w =>
  (x.new b w).elim (hW b hb) fun q => by obtain ⟨o, e⟩ := lv b hb; rw [q] at e; cases e
theorem ItPl.live {h : Heap} {b : Addr} (x : ItPl h b) : ∃ o, h.get? b = some o := let ⟨o, e, _⟩ := x; ⟨o, e⟩
theorem forR_run {tgt : Expr} {body : List Stmt} {ds : List D} {o : Out} (h : ForR c k S tgt body ds ρ γ o) :
    ∀ (A : Around) (env : Env) (W Z : Addr → Prop) (I : List Addr) (it : Addr) (p : Bool) (s : Shared) (R : Result → Shared → Prop), env.scope = S → FnEnv env → Room A k → (∀ b ∈ I, ¬ W b) → (∀ b ∈ I, ¬ Z b) → (p = true → isTup tgt = true) → Rel c γ env W (ad Z I) ρ s → It (un (ad Z I) W) s.heap p it I ds →
      OutI c env W Z I s (fun f s' => R (.ok f) s') o → codeAny (model c.prog c.w) A (.forLoop tgt (.ref it) body [] env) R s := by
  induction h with
  | nil =>
    intro A env W Z I it p s R hs hf rm hW hZ hp Rl b q
    refine forTurn_run (It.done rm.1 (fun b hb => .inl (.inr hb)) b fun h' tk kk => ?_)
    exact q _ W (ExtI.itw kk) (Rl.itw0 b.place hW kk Z (fun _ => .inl) fun b hb hz => absurd hz (hZ b hb))
  | cons ha hb _ ih =>
    rename_i d ds ρ ρ₁ ρ₂ γ γ₂ o _
    intro A env W Z I it p s R hs hf rm hW hZ hp Rl b q
    refine forTurn_run (wpAny_mono (It.step (tgt := tgt) (N := notedBy (model c.prog c.w) A env fun e s' => R (.error e) s') (Q := fun v s₂ => wpAny (model c.prog c.w) A (assign tgt env v) (fun _ s₃ => wpAny (model c.prog c.w) A (execs body env) (fun f s₄ => match f with
          | .next | .cont => codeAny (model c.prog c.w) A (.forLoop tgt (.ref it) body [] env) R s₄
          | .brk => R (.ok .next) s₄
          | .ret v => R (.ok (.ret v)) s₄) (notedBy (model c.prog c.w) A env fun e s' => R (.error e) s') s₃) (notedBy (model c.prog c.w) A env fun e s' => R (.error e) s') s₂)
        rm.1 (fun b hb => .inl (.inr hb)) Rl.g.live hp b fun v h' tk kk r b' => ?_) (fun r s₁ h₁ => ?_) fun _ _ e => e)
    · have pl' := b'.place
      have lv' : ∀ b ∈ I, ∃ o, h'.get? b = some o := fun b hb => (pl' b hb).live
      have R₁ : Rel c γ env W (ad Z I) ρ { s with heap := h', toks := tk } := Rl.itw0 b.place hW kk (ad Z I) (fun _ h => h) fun b hb _ => lv' b hb
      refine ha A γ env W (ad Z I) _ v _ _ hs (fun _ => hf) rm.1 R₁ ⟨r, trivial⟩ fun s₂ x₂ R₂ => ?_
      have b₂ := b'.ext x₂ x₂.carry hW
      refine hb A env W (ad Z I) s₂ _ _ hs hf rm R₂ fun s₃ W₃ x₃ R₃ => ?_
      have lv₂ : ∀ b ∈ I, ∃ o, s₂.heap.get? b = some o := fun b hb => (b₂.place b hb).live
      have fin := ih A env W₃ Z I it p s₃ R hs hf rm (x₃.notW lv₂ hW) hZ hp R₃ (b₂.ext x₃ x₃.carry hW) (q.ext ((ExtI.itw kk).trans ((x₂.toI lv').trans (x₃.toI lv₂))))
      exact ⟨fin, fin⟩
    · obtain ⟨v, rfl, h₁⟩ := h₁; exact h₁
  | ret ha hb =>
    rename_i d r ds ρ ρ₁ γ γ₂
    intro A env W Z I it p s R hs hf rm hW hZ hp Rl b q
    refine forTurn_run (wpAny_mono (It.step (tgt := tgt) (N := notedBy (model c.prog c.w) A env fun e s' => R (.error e) s') (Q := fun v s₂ => wpAny (model c.prog c.w) A (assign tgt env v) (fun _ s₃ => wpAny (model c.prog c.w) A (execs body env) (fun f s₄ => match f with
          | .next | .cont => codeAny (model c.prog c.w) A (.forLoop tgt (.ref it) body [] env) R s₄
          | .brk => R (.ok .next) s₄
          | .ret v => R (.ok (.ret v)) s₄) (notedBy (model c.prog c.w) A env fun e s' => R (.error e) s') s₃) (notedBy (model c.prog c.w) A env fun e s' => R (.error e) s') s₂)
        rm.1 (fun b hb => .inl (.inr hb)) Rl.g.live hp b fun v h' tk kk r b' => ?_) (fun r s₁ h₁ => ?_) fun _ _ e => e)
    · have pl' := b'.place
      have lv' : ∀ b ∈ I, ∃ o, h'.get? b = some o := fun b hb => (pl' b hb).live
      have R₁ : Rel c γ env W (ad Z I) ρ { s with heap := h', toks := tk } := Rl.itw0 b.place hW kk (ad Z I) (fun _ h => h) fun b hb _ => lv' b hb
      refine ha A γ env W (ad Z I) _ v _ _ hs (fun _ => hf) rm.1 R₁ ⟨r, trivial⟩ fun s₂ x₂ R₂ => ?_
      have b₂ := b'.ext x₂ x₂.carry hW
      have lv₂ : ∀ b ∈ I, ∃ o, s₂.heap.get? b = some o := fun b hb => (b₂.place b hb).live
      refine hb A env W (ad Z I) s₂ _ _ hs hf rm R₂ fun v₃ s₃ W₃ x₃ g₃ r₃ => ?_
      have sub : ∀ b, un Z (ML c) b → un (ad Z I) (ML c) b := fun b h => h.imp .inl id
      exact q v₃ s₃ W₃ ((ExtI.itw kk).trans ((x₂.toI lv').trans (x₃.toI lv₂))) (g₃.less sub fun b m => .inr m) (Rep.carry (Carry.less sub) r₃)
    · obtain ⟨v, rfl, h₁⟩ := h₁; exact h₁
noncomputable def EvIt (c : Cx) (k : Nat) (S : Scope) (ρ : Vars) (γ : GS) (e : Expr) (p : Bool) (its : List D) (ρ' : Vars) (γ' : GS) : Prop :=
  ∀ (A : Around) (env : Env) (W Z : Addr → Prop) (s : Shared) (Q : Value → Shared → Prop) (E : Value → Shared → Prop), env.scope = S → Room A k → Rel c γ env W Z ρ s →
    (∀ it I s' W', ExtE env W s W' s' → (∀ b ∈ I, s.heap.get? b = none) → (∀ b ∈ I, ¬ W' b) → (∀ b ∈ I, ¬ Z b) → Rel c γ' env W' (ad Z I) ρ' s' → It (un (ad Z I) W') s'.heap p it I its → Q (.ref it) s') →
    wpAny (model c.prog c.w) A (eval e env) (fun x s₁ => wpAny (model c.prog c.w) A (pyIter x) Q E s₁) E s
theorem ex_for {tgt iter : Expr} {body : List Stmt} {pos : Pos} {p : Bool} {its : List D} {o : Out} (h : EvIt c k S ρ γ iter p its ρ₁ γ₁) (hf : ForR c k S tgt body its ρ₁ γ₁ o) (hp : (p = true → isTup tgt = true) := by first | (intro h; cases h; done) | (intro _; rfl))
    (hs : ∀ env x, foldedSetIterable iter env x = pure x := by intro _ _; rfl) : ExS c k S ρ γ (.For tgt iter body [] pos) o := by
  intro A env W Z s Q E hsc hfe rm R q
  refine wpAny_For (h A env W Z s _ E hsc rm R fun it I s' W' x fI nW nZ R' b => ?_) (hs env)
  refine forR_run hf A env W' Z I it p s' _ hsc hfe rm nW nZ hp R' b ?_
  cases o with
  | next ρ' γ' => exact fun s'' W'' y R'' => q s'' W'' (ExtI.out x.toExt y fI) R''
  | ret d γ' => exact fun v s'' W'' y g r => q v s'' W'' (ExtI.out x.toExt y fI) g r
end
inductive Iter : D → List D → Prop
  | tuple (ds : List D) : Iter (.tuple ds) ds
  | list (ds : List D) : Iter (.list ds) ds
  | range (a b : Int) : -1000000 ≤ a → a ≤ 1000000 → -1000000 ≤ b → b ≤ 1000000 → Iter (.range a b) (intsFrom a (b - a).toNat)
theorem rangeSize_one {a b : Int} : Builtin.Range.rangeSize a b 1 = ((b - a).toNat : Int) := by
  unfold Builtin.Range.rangeSize
  simp only [gt_iff_lt, Int.zero_lt_one, if_true, ite_true]
  split <;> omega
theorem range_small {a b : Int} (h1 : -1000000 ≤ a) (h2 : a ≤ 1000000) (h3 : -1000000 ≤ b) (h4 : b ≤ 1000000) : Builtin.Range.small a b 1 = true := by
  have e := rangeSize_one (a := a) (b := b)
  unfold Builtin.Range.small
  rw [e]
  simp only [Builtin.Range.rangeFitsLong, Bool.and_eq_true, Bool.or_eq_true, decide_eq_true_eq]
  simp
  omega
theorem zipD2 : ∀ (as bs : List D), ZipD [as, bs] (List.zipWith (fun a b => D.tuple [a, b]) as bs)
  | [], _ => .stop (by simp)
  | _ :: _, [] => .stop (by simp)
  | a :: as, b :: bs => ZipD.step (ps := [(a, as), (b, bs)]) (zipD2 as bs)
noncomputable def zip3 : List D → List D → List D → List D
  | a :: as, b :: bs, c :: cs => .tuple [a, b, c] :: zip3 as bs cs
  | _, _, _ => []
theorem zipD3 : ∀ (as bs cs : List D), ZipD [as, bs, cs] (zip3 as bs cs)
  | [], _, _ => by simp only [zip3]; exact .stop (by simp)
  | _ :: _, [], _ => by simp only [zip3]; exact .stop (by simp)
  | _ :: _, _ :: _, [] => by simp only [zip3]; exact .stop (by simp)
  | a :: as, b :: bs, c :: cs => ZipD.step (ps := [(a, as), (b, bs), (c, cs)]) (zipD3 as bs cs)
section
variable {prog : Program} {w : World} {A : Around} {E : Value → Shared → Prop} {s : Shared} {X : Addr → Prop}
noncomputable def IterObj (h : Heap) (v : Value) (o : Obj) : Prop :=
  (∃ l items, v = .ref l ∧ h.IsList l items ∧ o = { cls := .type "list_iterator", data := .fields #[.ref l, .int 0 0] }) ∨
  (∃ l items, v = .ref l ∧ h.IsTuple l items ∧ o = { cls := .type "tuple_iterator", data := .fields #[.ref l, .int 0 0] }) ∨
  (∃ r a b t u w, v = .ref r ∧ IsRange h r a b 1 t u w ∧ Builtin.Range.small a b 1 = true ∧ o = { cls := .type "range_iterator", data := .fields #[rawInt a, rawInt (Builtin.Range.rangeSize a b 1), rawInt 1] })
theorem IterObj.push {h : Heap} {v : Value} {o o' : Obj} (x : IterObj h v o) : IterObj (h.push o') v o := by
  rcases x with ⟨l, items, e, i, q⟩ | ⟨l, items, e, i, q⟩ | ⟨r, a, b, t, u, w, e, i, j, q⟩
  · exact .inl ⟨l, items, e, i.push _, q⟩
  · exact .inr (.inl ⟨l, items, e, i.push _, q⟩)
  · exact .inr (.inr ⟨r, a, b, t, u, w, e, Heap.get?_push_of_some _ i, j, q⟩)
theorem IterObj.plain {h : Heap} {v : Value} {o : Obj} (x : IterObj h v o) : o.isFreed = false := by
  rcases x with ⟨l, items, e, i, q⟩ | ⟨l, items, e, i, q⟩ | ⟨r, a, b, t, u, w, e, i, j, q⟩ <;> (subst q; rfl)
theorem pyIter_obj {v : Value} {o : Obj} {Q : Value → Shared → Prop} (x : IterObj s.heap v o) (hQ : Q (.ref s.heap.objs.size) { s with heap := s.heap.push o }) : wpAny (model prog w) A (pyIter v) Q E s := by
  rcases x with ⟨l, items, rfl, i, rfl⟩ | ⟨l, items, rfl, i, rfl⟩ | ⟨r, a, b, t, u, w, rfl, i, j, rfl⟩
  · exact wpAny_pyIter_list i hQ
  · exact wpAny_pyIter_tuple i hQ
  · exact wpAny_pyIter_range i j hQ
theorem rep_iter {v : Value} {d : D} {its : List D} (r : Rep X s.heap v d) (i : Iter d its) : ∃ o, IterObj s.heap v o ∧
    ∀ (X' : Addr → Prop) (h' : Heap) (a : Addr), Carry X s.heap X' h' → h'.get? a = some o → BIt X' h' a its := by
  cases i with
  | tuple ds =>
    obtain ⟨t, vs, rfl, n, ht, rs⟩ := rep_tuple r
    refine ⟨_, .inr (.inl ⟨_, _, rfl, ht, rfl⟩), fun X' h' a cy e => ?_⟩
    obtain ⟨o, ho, q⟩ := ht
    exact .tuple (k := 0) ⟨_, e, rfl, rfl⟩ ⟨o, cy.keep _ _ n ho, q⟩ (cy.new _ _ n ho) (rs.carry cy)
  | list ds =>
    obtain ⟨t, vs, rfl, n, ht, rs⟩ := rep_list r
    refine ⟨_, .inl ⟨_, _, rfl, ht, rfl⟩, fun X' h' a cy e => ?_⟩
    obtain ⟨o, ho, q⟩ := ht
    exact .list (k := 0) ⟨_, e, rfl, rfl⟩ ⟨o, cy.keep _ _ n ho, q⟩ (cy.new _ _ n ho) (rs.carry cy)
  | range a b h1 h2 h3 h4 =>
    cases r with
    | range n hr =>
    refine ⟨_, .inr (.inr ⟨_, _, _, _, _, _, rfl, hr, range_small h1 h2 h3 h4, rfl⟩), fun X' h' i cy e => ?_⟩
    rw [rangeSize_one] at e
    exact .range e
end
section
variable {c : Cx} {k : Nat} {S : Scope} {ρ ρ' ρ₁ ρ₂ ρ₃ : Vars} {γ γ' γ₁ γ₂ γ₃ : GS} {fn : Bool}
theorem evit_data {e : Expr} {d : D} {its : List D} (h : EvE c k S ρ γ e (.d d) ρ₁ γ₁) (hi : Iter d its) : EvIt c k S ρ γ e false its ρ₁ γ₁ := by
  intro A env W Z s Q E hs rm R q
  refine h A env W Z s _ E hs rm R fun v s₁ W₁ x₁ R₁ o₁ f₁ => ?_
  obtain ⟨o, ho, hb⟩ := rep_iter o₁.1 hi
  have G := push_grow s₁ o
  refine pyIter_obj ho (q _ [s₁.heap.objs.size] _ W₁ (x₁.trans (ExtE.grow G)) ?_ ?_ ?_ ?_ ?_)
  · intro b hb'
    rw [List.mem_singleton.mp hb']
    cases e : s.heap.get? s₁.heap.objs.size with
    | none => rfl
    | some o' => obtain ⟨o'', e''⟩ := x₁.toExt.live _ _ e; rw [fresh_size] at e''; cases e''
  · intro b hb' w
    rw [List.mem_singleton.mp hb'] at w
    exact not_live (X := un Z W₁) R₁.g.live (.inr w)
  · intro b hb' w
    rw [List.mem_singleton.mp hb'] at w
    exact not_live (X := un Z W₁) R₁.g.live (.inl w)
  · refine R₁.moreZ G (fun _ h => .inl h) (fun b h => h.imp id fun q => by rw [List.mem_singleton.mp q]; exact fresh_size _) fun b h => h.elim (fun z => (R₁.grow G).g.live b (.inl z)) fun q => by
      rw [List.mem_singleton.mp q]; exact ⟨_, Heap.get?_push_size _ ho.plain⟩
  · refine .basic (hb _ _ _ ⟨fun b o _ e => G.keep b o e, fun b o n e y => ?_⟩ (Heap.get?_push_size _ ho.plain))
    rcases y with (y | y) | y
    · exact n (.inl y)
    · rw [List.mem_singleton.mp y, fresh_size] at e; cases e
    · exact n (.inr y)
end
noncomputable abbrev tupObj (vs : List Value) : Obj := { cls := .type "tuple", data := .seq vs.toArray }
noncomputable abbrev zipObj (TI TO : Addr) : Obj := { cls := .type "zip", data := .fields #[.none, .bool false, .bool false, .ref TI, .ref TO] }
noncomputable abbrev y1 (h : Heap) (o1 : Obj) : Heap := h.push o1
noncomputable abbrev y2 (h : Heap) (o1 o2 : Obj) : Heap := (y1 h o1).push o2
noncomputable abbrev y3 (h : Heap) (o1 o2 : Obj) : Heap := (y2 h o1 o2).push (tupObj [.ref h.objs.size, .ref (y1 h o1).objs.size])
noncomputable abbrev y4 (h : Heap) (o1 o2 : Obj) : Heap := (y3 h o1 o2).push (tupObj [.none, .none])
noncomputable abbrev y5 (h : Heap) (o1 o2 : Obj) : Heap := (y4 h o1 o2).push (zipObj (y2 h o1 o2).objs.size (y3 h o1 o2).objs.size)
theorem meets_zip2 (v1 v2 : Value) (o1 o2 : Obj) :
    Meets (Builtin.«zip.__new__» ⟨[.type "zip", v1, v2], []⟩) (fun _ R s => IterObj s.heap v1 o1 ∧ IterObj s.heap v2 o2 ∧
      R (.ok (.ret (.ref (y4 s.heap o1 o2).objs.size))) { s with heap := y5 s.heap o1 o2 }) :=
  .of_wp fun prog w A R s h => by
    obtain ⟨hp, g, d, tk, os⟩ := s; obtain ⟨h1, h2, h⟩ := h
    have hsub := sub_zip
    have hL1 : IterObj (Shared.heap ⟨hp, g, d, tk, os⟩) v1 o1 := h1
    have hL2 : IterObj (Shared.heap ⟨hp.push o1, g, d, tk, os⟩) v2 o2 := h2.push
    wp_walk using pyIter_obj hL1, pyIter_obj hL2
    exact ⟨_, rfl, h⟩
noncomputable abbrev w3 (h : Heap) (o1 o2 o3 : Obj) : Heap := (y2 h o1 o2).push o3
noncomputable abbrev w4 (h : Heap) (o1 o2 o3 : Obj) : Heap := (w3 h o1 o2 o3).push (tupObj [.ref h.objs.size, .ref (y1 h o1).objs.size, .ref (y2 h o1 o2).objs.size])
noncomputable abbrev w5 (h : Heap) (o1 o2 o3 : Obj) : Heap := (w4 h o1 o2 o3).push (tupObj [.none, .none, .none])
noncomputable abbrev w6 (h : Heap) (o1 o2 o3 : Obj) : Heap := (w5 h o1 o2 o3).push (zipObj (w3 h o1 o2 o3).objs.size (w4 h o1 o2 o3).objs.size)
theorem meets_zip3 (v1 v2 v3 : Value) (o1 o2 o3 : Obj) :
    Meets (Builtin.«zip.__new__» ⟨[.type "zip", v1, v2, v3], []⟩) (fun _ R s => IterObj s.heap v1 o1 ∧ IterObj s.heap v2 o2 ∧ IterObj s.heap v3 o3 ∧
      R (.ok (.ret (.ref (w5 s.heap o1 o2 o3).objs.size))) { s with heap := w6 s.heap o1 o2 o3 }) :=
  .of_wp fun prog w A R s h => by
    obtain ⟨hp, g, d, tk, os⟩ := s; obtain ⟨h1, h2, h3, h⟩ := h
    have hsub := sub_zip
    have hL1 : IterObj (Shared.heap ⟨hp, g, d, tk, os⟩) v1 o1 := h1
    have hL2 : IterObj (Shared.heap ⟨hp.push o1, g, d, tk, os⟩) v2 o2 := h2.push
    have hL3 : IterObj (Shared.heap ⟨(hp.push o1).push o2, g, d, tk, os⟩) v3 o3 := h3.push.push
    wp_walk using pyIter_obj hL1, pyIter_obj hL2, pyIter_obj hL3
    exact ⟨_, rfl, h⟩
theorem typeCall_zip3 (a b c : Value) : checkTypeCall "zip" ⟨[a, b, c], []⟩ = pure () := by kernel_rfl
theorem newCall_zip3 (a b c : Value) : checkBuiltinCall "zip.__new__" ⟨[.type "zip", a, b, c], []⟩ = pure () := by kernel_rfl
theorem args_init4 (a b c d : Value) : argsOk "object.__init__" ⟨[a, b, c, d], []⟩ := by
  unfold argsOk; rw [signature?_of (id := "object.__init__") (n := ['_', '_', 't', 'i', 'n', 'i', '_', '_']) (o := ['t', 'c', 'e', 'j', 'b', 'o']) (by kernel_rfl) F.owner_object]; kernel_rfl
inductive Ats (h : Heap) : List Addr → List Obj → Prop
  | nil : Ats h [] []
  | cons {i : Addr} {is : List Addr} {o : Obj} {os : List Obj} : h.get? i = some o → Ats h is os → Ats h (i :: is) (o :: os)
theorem Ats.length {h : Heap} : ∀ {is : List Addr} {os : List Obj}, Ats h is os → is.length = os.length
  | _, _, .nil => rfl
  | _, _, .cons _ r => by rw [List.length_cons, List.length_cons, r.length]
structure ZipNew (h h' : Heap) (os : List Obj) (z TI TO : Addr) (is : List Addr) : Prop where
  zip : IsZip h' z TI TO .none
  ti : IsTupO h' TI (is.map Value.ref)
  to : ∃ vs, IsTupO h' TO vs ∧ vs.length = is.length
  its : Ats h' is os
  nd : (z :: TI :: TO :: is).Nodup
  fresh : ∀ b ∈ z :: TI :: TO :: is, h.objs.size ≤ b
  keep : ∀ b o, h.get? b = some o → h'.get? b = some o
section
variable {prog : Program} {w : World} {A : Around} {E : Value → Shared → Prop} {s : Shared} {X : Addr → Prop}
theorem call_zip2 {v1 v2 : Value} {o1 o2 : Obj} {Q : Value → Shared → Prop} (h1 : IterObj s.heap v1 o1) (h2 : IterObj s.heap v2 o2)
    (h : ∀ h' z TI TO is, ZipNew s.heap h' [o1, o2] z TI TO is → Q (.ref z) { s with heap := h' }) : wpAny (model prog w) A (call (.type "zip") [v1, v2]) Q E s := by
  refine callType_new F.called_zip (by decide) (F.typeCall_zip_2 _ _) (F.newCall_zip_2 _ _) (fun obj => F.args_object_init_3 obj _ _) F.entry_zip_new (meets_zip2 v1 v2 o1 o2) ⟨h1, h2, ?_⟩
  have z1 : (y1 s.heap o1).objs.size = s.heap.objs.size + 1 := Heap.size_push ..
  have z2 : (y2 s.heap o1 o2).objs.size = s.heap.objs.size + 2 := by rw [Heap.size_push, z1]
  have z3 : (y3 s.heap o1 o2).objs.size = s.heap.objs.size + 3 := by rw [Heap.size_push, z2]
  have z4 : (y4 s.heap o1 o2).objs.size = s.heap.objs.size + 4 := by rw [Heap.size_push, z3]
  have g5 : (y5 s.heap o1 o2).get? (y4 s.heap o1 o2).objs.size = some _ := Heap.get?_push_size _ rfl
  have g4 : (y5 s.heap o1 o2).get? (y3 s.heap o1 o2).objs.size = some _ := Heap.get?_push_of_some _ (Heap.get?_push_size _ rfl)
  have g3 : (y5 s.heap o1 o2).get? (y2 s.heap o1 o2).objs.size = some _ := Heap.get?_push_of_some _ (Heap.get?_push_of_some _ (Heap.get?_push_size _ rfl))
  have g2 : (y5 s.heap o1 o2).get? (y1 s.heap o1).objs.size = some _ := Heap.get?_push_of_some _ (Heap.get?_push_of_some _ (Heap.get?_push_of_some _ (Heap.get?_push_size _ h2.plain)))
  have g1 : (y5 s.heap o1 o2).get? s.heap.objs.size = some _ := Heap.get?_push_of_some _ (Heap.get?_push_of_some _ (Heap.get?_push_of_some _ (Heap.get?_push_of_some _ (Heap.get?_push_size _ h1.plain))))
  refine ⟨⟨_, g5, rfl⟩, h _ _ _ _ [s.heap.objs.size, (y1 s.heap o1).objs.size] ⟨g5, g3, ⟨_, g4, rfl⟩, .cons g1 (.cons g2 .nil), ?_, ?_, fun b o e => Heap.get?_push_of_some _ (Heap.get?_push_of_some _ (Heap.get?_push_of_some _ (Heap.get?_push_of_some _ (Heap.get?_push_of_some _ e))))⟩⟩
  · rw [z1, z2, z3, z4]; simp
  · intro b hb; simp only [List.mem_cons, List.not_mem_nil, or_false] at hb; rcases hb with rfl | rfl | rfl | rfl | rfl <;> omega
theorem call_zip3 {v1 v2 v3 : Value} {o1 o2 o3 : Obj} {Q : Value → Shared → Prop} (h1 : IterObj s.heap v1 o1) (h2 : IterObj s.heap v2 o2) (h3 : IterObj s.heap v3 o3)
    (h : ∀ h' z TI TO is, ZipNew s.heap h' [o1, o2, o3] z TI TO is → Q (.ref z) { s with heap := h' }) : wpAny (model prog w) A (call (.type "zip") [v1, v2, v3]) Q E s := by
  refine callType_new F.called_zip (by decide) (typeCall_zip3 _ _ _) (newCall_zip3 _ _ _) (fun obj => args_init4 obj _ _ _) F.entry_zip_new (meets_zip3 v1 v2 v3 o1 o2 o3) ⟨h1, h2, h3, ?_⟩
  have z1 : (y1 s.heap o1).objs.size = s.heap.objs.size + 1 := Heap.size_push ..
  have z2 : (y2 s.heap o1 o2).objs.size = s.heap.objs.size + 2 := by rw [Heap.size_push, z1]
  have z3 : (w3 s.heap o1 o2 o3).objs.size = s.heap.objs.size + 3 := by rw [Heap.size_push, z2]
  have z4 : (w4 s.heap o1 o2 o3).objs.size = s.heap.objs.size + 4 := by rw [Heap.size_push, z3]
  have z5 : (w5 s.heap o1 o2 o3).objs.size = s.heap.objs.size + 5 := by rw [Heap.size_push, z4]
  have g6 : (w6 s.heap o1 o2 o3).get? (w5 s.heap o1 o2 o3).objs.size = some _ := Heap.get?_push_size _ rfl
  have g5 : (w6 s.heap o1 o2 o3).get? (w4 s.heap o1 o2 o3).objs.size = some _ := Heap.get?_push_of_some _ (Heap.get?_push_size _ rfl)
  have g4 : (w6 s.heap o1 o2 o3).get? (w3 s.heap o1 o2 o3).objs.size = some _ := Heap.get?_push_of_some _ (Heap.get?_push_of_some _ (Heap.get?_push_size _ rfl))
  have g3 : (w6 s.heap o1 o2 o3).get? (y2 s.heap o1 o2).objs.size = some _ := Heap.get?_push_of_some _ (Heap.get?_push_of_some _ (Heap.get?_push_of_some _ (Heap.get?_push_size _ h3.plain)))
  have g2 : (w6 s.heap o1 o2 o3).get? (y1 s.heap o1).objs.size = some _ := Heap.get?_push_of_some _ (Heap.get?_push_of_some _ (Heap.get?_push_of_some _ (Heap.get?_push_of_some _ (Heap.get?_push_size _ h2.plain))))
  have g1 : (w6 s.heap o1 o2 o3).get? s.heap.objs.size = some _ := Heap.get?_push_of_some _ (Heap.get?_push_of_some _ (Heap.get?_push_of_some _ (Heap.get?_push_of_some _ (Heap.get?_push_of_some _ (Heap.get?_push_size _ h1.plain)))))
  refine ⟨⟨_, g6, rfl⟩, h _ _ _ _ [s.heap.objs.size, (y1 s.heap o1).objs.size, (y2 s.heap o1 o2).objs.size] ⟨g6, g4, ⟨_, g5, rfl⟩, .cons g1 (.cons g2 (.cons g3 .nil)), ?_, ?_, fun b o e => Heap.get?_push_of_some _ (Heap.get?_push_of_some _ (Heap.get?_push_of_some _ (Heap.get?_push_of_some _ (Heap.get?_push_of_some _ (Heap.get?_push_of_some _ e)))))⟩⟩
  · rw [z1, z2, z3, z4, z5]; simp
  · intro b hb; simp only [List.mem_cons, List.not_mem_nil, or_false] at hb; rcases hb with rfl | rfl | rfl | rfl | rfl | rfl <;> omega
end
inductive Iters : List D → List (List D) → Prop
  | nil : Iters [] []
  | cons {d : D} {ds : List D} {l : List D} {ls : List (List D)} : Iter d l → Iters ds ls → Iters (d :: ds) (l :: ls)
inductive IterObjs (h : Heap) : List Value → List Obj → Prop
  | nil : IterObjs h [] []
  | cons {v : Value} {vs : List Value} {o : Obj} {os : List Obj} : IterObj h v o → IterObjs h vs os → IterObjs h (v :: vs) (o :: os)
theorem IterObjs.length {h : Heap} : ∀ {vs : List Value} {os : List Obj}, IterObjs h vs os → vs.length = os.length
  | _, _, .nil => rfl
  | _, _, .cons _ r => by rw [List.length_cons, List.length_cons, r.length]
theorem IterObjs.two {h : Heap} {vs : List Value} {os : List Obj} (x : IterObjs h vs os) (hl : vs.length = 2) : ∃ a b o p, vs = [a, b] ∧ os = [o, p] ∧ IterObj h a o ∧ IterObj h b p := by
  cases x with
  | nil => simp at hl
  | cons a x =>
    cases x with
    | nil => simp at hl
    | cons b x =>
      cases x with
      | nil => exact ⟨_, _, _, _, rfl, rfl, a, b⟩
      | cons d x => simp at hl
theorem IterObjs.three {h : Heap} {vs : List Value} {os : List Obj} (x : IterObjs h vs os) (hl : vs.length = 3) : ∃ a b d o p q, vs = [a, b, d] ∧ os = [o, p, q] ∧ IterObj h a o ∧ IterObj h b p ∧ IterObj h d q := by
  cases x with
  | nil => simp at hl
  | cons a x =>
    obtain ⟨b, d, p, q, rfl, rfl, i, j⟩ := x.two (by simpa using hl)
    exact ⟨_, _, _, _, _, _, rfl, rfl, a, i, j⟩
theorem reps_iters {X : Addr → Prop} {s : Shared} : ∀ {vs : List Value} {ds : List D} {ls : List (List D)}, Reps X s.heap vs ds → Iters ds ls → ∃ os, IterObjs s.heap vs os ∧
    ∀ (X' : Addr → Prop) (h' : Heap) (is : List Addr), Carry X s.heap X' h' → Ats h' is os → BIts X' h' is ls
  | _, _, _, .nil, .nil => ⟨[], .nil, fun _ _ _ _ a => by cases a; exact .nil⟩
  | _, _, _, .cons r rs, .cons i is => by
    obtain ⟨o, ho, hb⟩ := rep_iter r i
    obtain ⟨os, hos, hbs⟩ := reps_iters rs is
    exact ⟨o :: os, .cons ho hos, fun X' h' is cy a => by cases a with | cons e a => exact .cons (hb X' h' _ cy e) (hbs X' h' _ cy a)⟩
section
variable {c : Cx} {k : Nat} {S : Scope} {ρ ρ' ρ₁ ρ₂ ρ₃ : Vars} {γ γ' γ₁ γ₂ γ₃ : GS} {fn : Bool}
theorem run_args0 {es : List Expr} {ds : List D} (h1 : Evs c k S ρ γ es ds ρ₁ γ₁) (pos : Pos) (t : List Value → Sem Value)
    (A : Around) (env : Env) (W Z : Addr → Prop) (s : Shared) (Q : Value → Shared → Prop) (E : Value → Shared → Prop) (hs : env.scope = S) (r : Room A k) (R : Rel c γ env W Z ρ s)
    (q : ∀ vs s' W', ExtE env W s W' s' → Rel c γ₁ env W' Z ρ₁ s' → Reps (un Z W') s'.heap vs ds → wpAny (model c.prog c.w) A (t vs) Q E s') : wpAny (model c.prog c.w) A (spliced (backTo pos (starEach es env))) (fun vs s₁ => wpAny (model c.prog c.w) A (t vs) Q E s₁) E s :=
  h1 pos A env W Z s _ E hs r R fun vs s₁ W₁ x₁ R₁ rs => q vs s₁ W₁ x₁ R₁ rs
theorem callWith_ty {fe : Expr} {args : List Expr} {pos : Pos} {T : String} {env : Env} {A : Around} {Q : Value → Shared → Prop} {E : Value → Shared → Prop} {s : Shared}
    (hfe : eval (.Call fe args [] pos) env = (do callWith pos (← eval fe env) [] (backTo pos (starEach args env)) (backToKw pos (keywordEach [] env))))
    (hp : (backTo pos (starEach args env)).any (·.1) = false)
    (h : wpAny (model c.prog c.w) A (eval fe env) (fun v s₁ => v = .type T ∧ wpAny (model c.prog c.w) A (spliced (backTo pos (starEach args env))) (fun vs s₂ => wpAny (model c.prog c.w) A (call (.type T) vs) Q E s₂) E s₁) E s) :
    wpAny (model c.prog c.w) A (eval (.Call fe args [] pos) env) Q E s := by
  rw [hfe]
  refine wpAny_bind (wpAny_mono h (fun v s₁ h₁ => ?_) fun _ _ e => e)
  obtain ⟨rfl, h₁⟩ := h₁
  exact PySem.callWith_type hp (evalArgs_of hp h₁)
theorem evit_zip {fe : Expr} {args : List Expr} {pos : Pos} {ds : List D} {ls : List (List D)} {its : List D}
    (hz : ∀ (A : Around) (s : Shared) (vs : List Value) (os : List Obj) (Q : Value → Shared → Prop) (E : Value → Shared → Prop), vs.length = args.length → IterObjs s.heap vs os → (∀ h' z TI TO is, ZipNew s.heap h' os z TI TO is → Q (.ref z) { s with heap := h' }) → wpAny (model c.prog c.w) A (call (.type "zip") vs) Q E s)
    (h0 : EvE c k S ρ γ fe (.d (.raw (.type "zip"))) ρ₁ γ₁) (h1 : Evs c k S ρ₁ γ₁ args ds ρ₂ γ₂) (hl : ds.length = args.length) (hl' : args.length ≤ 100) (hl0 : args ≠ []) (hi : Iters ds ls) (hd : ZipD ls its)
    (hfe : ∀ env, eval (.Call fe args [] pos) env = (do callWith pos (← eval fe env) [] (backTo pos (starEach args env)) (backToKw pos (keywordEach [] env))) := by intro _; rfl)
    (hp : ∀ env, (backTo pos (starEach args env)).any (·.1) = false := by intro _; rfl) : EvIt c k S ρ γ (.Call fe args [] pos) true its ρ₂ γ₂ := by
  intro A env W Z s Q E hs rm R q
  refine callWith_ty (c := c) (T := "zip") (hfe env) (hp env) (h0 A env W Z s _ E hs rm R fun v s₁ W₁ x₁ R₁ o₁ f₁ => ⟨rep_raw o₁.1, ?_⟩)
  refine run_args0 h1 pos _ A env W₁ Z s₁ _ E hs rm R₁ fun vs s₂ W₂ x₂ R₂ rs => ?_
  obtain ⟨os, hos, hb⟩ := reps_iters rs hi
  refine hz A s₂ vs os _ E (by rw [rs.length, hl]) hos fun h' z TI TO is Zn => wpAny_pyIter_zip Zn.zip ?_
  have G : Grow s₂ { s₂ with heap := h' } := ⟨Zn.keep, rfl, rfl, rfl⟩
  have fresh₂ : ∀ b ∈ z :: TI :: TO :: is, s₂.heap.get? b = none := fun b hb => by
    cases e : s₂.heap.get? b with
    | none => rfl
    | some o => exact absurd (Heap.lt_size e) (Nat.not_lt.mpr (Zn.fresh b hb))
  have nX : ∀ b ∈ z :: TI :: TO :: is, ¬ un Z W₂ b := fun b hb h => by obtain ⟨o, e⟩ := R₂.g.live b h; rw [fresh₂ b hb] at e; cases e
  obtain ⟨to, hto, hlen⟩ := Zn.to
  have hil : is.length = args.length := by rw [Zn.its.length, ← hos.length, rs.length, hl]
  have cy : Carry (un Z W₂) s₂.heap (un (ad Z (z :: TI :: TO :: is)) W₂) h' := ⟨fun b o _ e => Zn.keep b o e, fun b o n e y => by
    rcases y with (y | y) | y
    · exact n (.inl y)
    · rw [fresh₂ b y] at e; cases e
    · exact n (.inr y)⟩
  have hit : It (un (ad Z (z :: TI :: TO :: is)) W₂) h' true z (z :: TI :: TO :: is) its := .zip Zn.zip Zn.ti hto hlen (by rw [hil]; exact hl') (fun e => hl0 (List.eq_nil_of_length_eq_zero (by rw [← hil, e]; rfl))) (hb _ _ _ cy Zn.its) hd Zn.nd
  refine q z (z :: TI :: TO :: is) _ W₂ (x₁.trans (x₂.trans (ExtE.grow G))) (fun b hb => ?_) (fun b hb w => nX b hb (.inr w)) (fun b hb w => nX b hb (.inl w)) ?_ hit
  · cases e : s.heap.get? b with
    | none => rfl
    | some o => obtain ⟨o', e'⟩ := (x₁.trans x₂).toExt.live b o e; rw [fresh₂ b hb] at e'; cases e'
  · exact R₂.moreZ G (fun _ h => .inl h) (fun b h => h.imp id (fresh₂ b)) fun b h => h.elim (fun z => (R₂.grow G).g.live b (.inl z)) fun i => (hit.place b i).live
theorem evit_zip2 {fe : Expr} {a b : Expr} {pos : Pos} {d e : D} {l m : List D}
    (h0 : EvE c k S ρ γ fe (.d (.raw (.type "zip"))) ρ γ) (h1 : Evs c k S ρ γ [a, b] [d, e] ρ₂ γ₂) (i1 : Iter d l) (i2 : Iter e m)
    (hfe : ∀ env, eval (.Call fe [a, b] [] pos) env = (do callWith pos (← eval fe env) [] (backTo pos (starEach [a, b] env)) (backToKw pos (keywordEach [] env))) := by intro _; rfl)
    (hp : ∀ env, (backTo pos (starEach [a, b] env)).any (·.1) = false := by intro _; rfl) : EvIt c k S ρ γ (.Call fe [a, b] [] pos) true (List.zipWith (fun a b => D.tuple [a, b]) l m) ρ₂ γ₂ :=
  evit_zip (fun A s vs os Q E hl hos h => by
    obtain ⟨a, b, x, y, rfl, rfl, i, j⟩ := hos.two hl
    exact call_zip2 i j h) h0 h1 rfl (show 2 ≤ 100 by decide) (by simp) (.cons i1 (.cons i2 .nil)) (zipD2 l m) hfe hp
theorem evit_zip3 {fe : Expr} {a b x : Expr} {pos : Pos} {d e f : D} {l m n : List D}
    (h0 : EvE c k S ρ γ fe (.d (.raw (.type "zip"))) ρ γ) (h1 : Evs c k S ρ γ [a, b, x] [d, e, f] ρ₂ γ₂) (i1 : Iter d l) (i2 : Iter e m) (i3 : Iter f n)
    (hfe : ∀ env, eval (.Call fe [a, b, x] [] pos) env = (do callWith pos (← eval fe env) [] (backTo pos (starEach [a, b, x] env)) (backToKw pos (keywordEach [] env))) := by intro _; rfl)
    (hp : ∀ env, (backTo pos (starEach [a, b, x] env)).any (·.1) = false := by intro _; rfl) : EvIt c k S ρ γ (.Call fe [a, b, x] [] pos) true (zip3 l m n) ρ₂ γ₂ :=
  evit_zip (fun A s vs os Q E hl hos h => by
    obtain ⟨a, b, d, x, y, z, rfl, rfl, i, j, l⟩ := hos.three hl
    exact call_zip3 i j l h) h0 h1 rfl (show 3 ≤ 100 by decide) (by simp) (.cons i1 (.cons i2 (.cons i3 .nil))) (zipD3 l m n) hfe hp
end
theorem meets_enum (v : Value) (o : Obj) :
    Meets (Builtin.«enumerate.__new__» ⟨[.type "enumerate", v], []⟩) (fun _ R s => IterObj s.heap v o ∧
      R (.ok (.ret (.ref (s.heap.push o).objs.size))) { s with heap := (s.heap.push o).push { cls := .type "enumerate", data := .fields #[.none, .bool false, .ref s.heap.objs.size, rawInt 0, .none, .none] } }) :=
  .of_wp fun prog w A R s h => by
    obtain ⟨hp, g, d, tk, os⟩ := s; obtain ⟨h1, h⟩ := h
    have hsub := sub_enumerate
    have hL1 : IterObj (Shared.heap ⟨hp, g, d, tk, os⟩) v o := h1
    wp_walk
    refine wpAny_stack_any fun st => wpAny_pure ?_
    split
    · rename_i c _ _ _ _ _
      cases (c == Value.type "enumerate")
      · wp_walk using pyIter_obj hL1
        exact ⟨_, rfl, h⟩
      · wp_walk using pyIter_obj hL1
        exact ⟨_, rfl, h⟩
    · wp_walk using pyIter_obj hL1
      exact ⟨_, rfl, h⟩
theorem call_enum {prog : Program} {w : World} {A : Around} {E : Value → Shared → Prop} {s : Shared} {v : Value} {o : Obj} {Q : Value → Shared → Prop} (h1 : IterObj s.heap v o)
    (h : ∀ h', IsEnum h' (s.heap.objs.size + 1) s.heap.objs.size 0 .none → h'.get? s.heap.objs.size = some o → (∀ b o, s.heap.get? b = some o → h'.get? b = some o) → Q (.ref (s.heap.objs.size + 1)) { s with heap := h' }) :
    wpAny (model prog w) A (call (.type "enumerate") [v]) Q E s := by
  refine callType_new F.called_enumerate (by decide) (F.typeCall_enumerate_1 _) (F.newCall_enumerate_1 _) (fun obj => F.args_object_init_2 obj _) F.entry_enumerate_new (meets_enum v o) ⟨h1, ?_⟩
  have hz : (s.heap.push o).objs.size = s.heap.objs.size + 1 := Heap.size_push ..
  show _ ∧ _
  rw [hz]
  have he : IsEnum ((s.heap.push o).push { cls := .type "enumerate", data := .fields #[.none, .bool false, .ref s.heap.objs.size, rawInt 0, .none, .none] }) (s.heap.objs.size + 1) s.heap.objs.size 0 .none := by
    have := Heap.get?_push_size (s.heap.push o) (o := { cls := .type "enumerate", data := .fields #[.none, .bool false, .ref s.heap.objs.size, rawInt 0, .none, .none] }) rfl
    rw [hz] at this; exact this
  exact ⟨⟨_, he, rfl⟩, h _ he (Heap.get?_push_of_some _ (Heap.get?_push_size _ h1.plain)) fun b o y => Heap.get?_push_of_some _ (Heap.get?_push_of_some _ y)⟩
section
variable {c : Cx} {k : Nat} {S : Scope} {ρ ρ' ρ₁ ρ₂ ρ₃ : Vars} {γ γ' γ₁ γ₂ γ₃ : GS} {fn : Bool}
theorem evit_enum {fe a : Expr} {pos : Pos} {ds : List D}
    (h0 : EvE c k S ρ γ fe (.d (.raw (.type "enumerate"))) ρ γ) (h1 : Evs c k S ρ γ [a] [.tuple ds] ρ₂ γ₂)
    (hfe : ∀ env, eval (.Call fe [a] [] pos) env = (do callWith pos (← eval fe env) [] (backTo pos (starEach [a] env)) (backToKw pos (keywordEach [] env))) := by intro _; rfl)
    (hp : ∀ env, (backTo pos (starEach [a] env)).any (·.1) = false := by intro _; rfl) : EvIt c k S ρ γ (.Call fe [a] [] pos) true (enumD 0 ds) ρ₂ γ₂ := by
  intro A env W Z s Q E hs rm R q
  refine callWith_ty (c := c) (T := "enumerate") (hfe env) (hp env) (h0 A env W Z s _ E hs rm R fun v s₁ W₁ x₁ R₁ o₁ f₁ => ⟨rep_raw o₁.1, ?_⟩)
  refine run_args0 h1 pos _ A env W₁ Z s₁ _ E hs rm R₁ fun vs s₂ W₂ x₂ R₂ rs => ?_
  obtain ⟨v, ws, rfl, r, rs⟩ := rs.cons_inv
  cases rs
  obtain ⟨t, vs, rfl, nt, ht, rs⟩ := rep_tuple r
  refine call_enum (.inr (.inl ⟨_, _, rfl, ht, rfl⟩)) fun h' he hi kk => wpAny_pyIter_enum he ?_
  have G : Grow s₂ { s₂ with heap := h' } := ⟨kk, rfl, rfl, rfl⟩
  have fresh₂ : ∀ b ∈ [s₂.heap.objs.size + 1, s₂.heap.objs.size], s₂.heap.get? b = none := fun b hb => by
    cases e : s₂.heap.get? b with
    | none => rfl
    | some o =>
      have := Heap.lt_size e
      rcases List.mem_cons.mp hb with rfl | hb
      · exact absurd this (Nat.not_lt.mpr (Nat.le_succ _))
      · rw [List.mem_singleton.mp hb] at this; exact absurd this (Nat.lt_irrefl _)
  have nX : ∀ b ∈ [s₂.heap.objs.size + 1, s₂.heap.objs.size], ¬ un Z W₂ b := fun b hb h => by obtain ⟨o, e⟩ := R₂.g.live b h; rw [fresh₂ b hb] at e; cases e
  have cy : Carry (un Z W₂) s₂.heap (un (ad Z [s₂.heap.objs.size + 1, s₂.heap.objs.size]) W₂) h' := ⟨fun b o _ e => kk b o e, fun b o n e y => by
    rcases y with (y | y) | y
    · exact n (.inl y)
    · rw [fresh₂ b y] at e; cases e
    · exact n (.inr y)⟩
  have hit : It (un (ad Z [s₂.heap.objs.size + 1, s₂.heap.objs.size]) W₂) h' true (s₂.heap.objs.size + 1) [s₂.heap.objs.size + 1, s₂.heap.objs.size] (enumD 0 ds) := by
    obtain ⟨o, ho, q⟩ := ht
    exact .enum (k := 0) he ⟨_, hi, rfl, rfl⟩ ⟨o, kk _ _ ho, q⟩ (cy.new _ _ nt ho) (rs.carry cy) (Nat.succ_ne_self _)
  refine q _ _ _ W₂ (x₁.trans (x₂.trans (ExtE.grow G))) (fun b hb => ?_) (fun b hb w => nX b hb (.inr w)) (fun b hb w => nX b hb (.inl w)) ?_ hit
  · cases e : s.heap.get? b with
    | none => rfl
    | some o => obtain ⟨o', e'⟩ := (x₁.trans x₂).toExt.live b o e; rw [fresh₂ b hb] at e'; cases e'
  · exact R₂.moreZ G (fun _ h => .inl h) (fun b h => h.imp id (fresh₂ b)) fun b h => h.elim (fun z => (R₂.grow G).g.live b (.inl z)) fun i => (hit.place b i).live
end
noncomputable def Hid (c : Cx) (h : Heap) (b : Addr) : Prop := (∃ o, h.get? b = some o ∧ (∀ es n, o.data ≠ .dict es n) ∧ (∀ v, o.data ≠ .cell v)) ∧ ¬ c.M b
theorem Hid.live {c : Cx} {h : Heap} {b : Addr} (x : Hid c h b) : ∃ o, h.get? b = some o := let ⟨⟨o, e, _⟩, _⟩ := x; ⟨o, e⟩
theorem ItPl.hid {c : Cx} {γ : GS} {X : Addr → Prop} {s : Shared} {b : Addr} (x : ItPl s.heap b) (g : GRel c γ X s) : Hid c s.heap b := by
  have nM : ¬ c.M b := fun m => by obtain ⟨i, h⟩ := g.mpl b m; exact itPl_ne_list x h rfl
  obtain ⟨o, e, _, a, d⟩ := x
  exact ⟨⟨o, e, a, d⟩, nM⟩
theorem list_hid {c : Cx} {h : Heap} {b : Addr} {items : Array Value} (x : h.IsList b items) (nM : ¬ c.M b) : Hid c h b := by
  obtain ⟨o, e, _, n, d⟩ := x
  exact ⟨⟨o, e, (fun _ _ q => by rw [d] at q; cases q), (fun _ q => by rw [d] at q; cases q)⟩, nM⟩
section
variable {c : Cx} {k : Nat} {S : Scope} {ρ ρ' ρ₁ ρ₂ ρ₃ : Vars} {γ γ' γ₁ γ₂ γ₃ : GS} {fn : Bool}
theorem hid_ns {h : Heap} {b L : Addr} {m : Str → Option Value} (x : Hid c h b) (y : h.Ns L m) : b ≠ L := by
  rintro rfl
  obtain ⟨⟨o, e, n, _⟩, _⟩ := x
  obtain ⟨o', es, ep, e', d', _⟩ := y
  rw [e] at e'; cases e'; exact n _ _ d'
theorem hid_cell {h : Heap} {b a : Addr} {v : Option Value} (x : Hid c h b) (y : h.IsCell a v) : b ≠ a := by
  rintro rfl
  obtain ⟨⟨o, e, _, n⟩, _⟩ := x
  obtain ⟨o', e', d'⟩ := y
  rw [e] at e'; cases e'; exact n _ d'
theorem Rel.behind {env : Env} {W W' Z Z' : Addr → Prop} {K : Addr → Prop} {s s' : Shared} (R : Rel c γ env W Z ρ s) (hK : ∀ b, K b → Hid c s.heap b) (hKZ : ∀ b, K b → Z b)
    (kp : ∀ b o, ¬ ML c b → ¬ K b → s.heap.get? b = some o → s'.heap.get? b = some o) (g : GRel c γ' (un Z' W') s')
    (hW : ∀ b, W b → W' b) (hn : ∀ b, un Z' W' b → un Z W b ∨ s.heap.get? b = none) (hz : ∀ b, Z' b → Z b ∨ s.heap.get? b = none) : Rel c γ' env W' Z' ρ s' := by
  obtain ⟨m, hns⟩ := R.ns
  have nK : ∀ b o, ¬ un Z W b → K b → s.heap.get? b = some o → False := fun b o n k _ => n (.inl (hKZ b k))
  have cy : Carry (un Z W) s.heap (un Z' W') s'.heap := ⟨fun b o n e => kp b o (R.g.nml n) (fun q => nK b o n q e) e, fun b o n e y => (hn b y).elim n fun q => by rw [q] at e; cases e⟩
  have kn : ∀ L m, s.heap.Ns L m → ¬ ML c L → s'.heap.Ns L m := fun L m n nl => n.at' fun o e => kp L o nl (fun q => hid_ns (hK L q) n rfl) e
  have nlc : ∀ a v, s.heap.IsCell a v → ¬ ML c a := fun a v h => R.g.Mc h
  have nll : ¬ ML c env.locals := R.nML
  have kc : ∀ a v, s.heap.IsCell a v → s'.heap.IsCell a v := fun a v n => let ⟨o, e, d⟩ := n; ⟨o, kp a o (nlc a v n) (fun q => hid_cell (hK a q) n rfl) e, d⟩
  have nm : ∀ x v, VarAt env s.heap x v → VarAt env s'.heap x v := fun x v a => by
    unfold VarAt at a ⊢
    split
    · rename_i e; rw [e] at a; obtain ⟨m', n', q⟩ := a; exact ⟨m', kn _ _ n' nll, q⟩
    · rename_i e; rw [e] at a; obtain ⟨b, l, q⟩ := a; exact ⟨b, l, kc _ _ q⟩
    · rename_i e; rw [e] at a; obtain ⟨b, l, q⟩ := a; exact ⟨b, l, kc _ _ q⟩
    · split at a <;> simp_all
  refine ⟨R.ok, g, R.kind, R.gl, R.bl, ⟨m, kn _ _ hns nll⟩, hW _ R.wl, (fun b m => hW _ (R.wM b m)), R.cinj, (fun x a q => let ⟨v, n⟩ := R.cell x a q; ⟨v, kc _ _ n⟩), (fun h x a q => hW _ (R.cw h x a q)), fun x u q => ?_, fun x y ds es v q1 q2 a1 a2 => ?_⟩
  · obtain ⟨v, a, r⟩ := R.vars x u q
    refine ⟨v, nm _ _ a, ?_⟩
    cases u with
    | d d => exact Rep.carry cy r
    | own ds =>
      obtain ⟨l, vs, e, w, z, nM, i, rs⟩ := r
      obtain ⟨n, ho⟩ := i
      refine ⟨l, vs, e, hW l w, (fun z' => (hz l z').elim z fun q => by rw [ho] at q; cases q), nM, ⟨n, ?_⟩, rs.carry cy⟩
      exact kp l _ nM (fun q => z (hKZ l q)) ho
  · obtain ⟨v1, b1, _⟩ := R.vars x _ q1
    obtain ⟨v2, b2, _⟩ := R.vars y _ q2
    have e1 := VarAt.unique (nm _ _ b1) a1
    have e2 := VarAt.unique (nm _ _ b2) a2
    subst e1; subst e2
    exact R.oinj x y ds es _ q1 q2 b1 b2
theorem Rel.behind_names {env : Env} {W Z : Addr → Prop} {K : Addr → Prop} {s s' : Shared} (R : Rel c γ env W Z ρ s) (hK : ∀ b, K b → Hid c s.heap b)
    (kp : ∀ b o, ¬ ML c b → ¬ K b → s.heap.get? b = some o → s'.heap.get? b = some o) : ∀ x v, VarAt env s.heap x v → VarAt env s'.heap x v := fun x v a => by
  have kn : ∀ L m, s.heap.Ns L m → ¬ ML c L → s'.heap.Ns L m := fun L m n nl => n.at' fun o e => kp L o nl (fun q => hid_ns (hK L q) n rfl) e
  have nlc : ∀ a v, s.heap.IsCell a v → ¬ ML c a := fun a v h => R.g.Mc h
  have nll : ¬ ML c env.locals := R.nML
  have kc : ∀ a v, s.heap.IsCell a v → s'.heap.IsCell a v := fun a v n => let ⟨o, e, d⟩ := n; ⟨o, kp a o (nlc a v n) (fun q => hid_cell (hK a q) n rfl) e, d⟩
  unfold VarAt at a ⊢
  split
  · rename_i e; rw [e] at a; obtain ⟨m', n', q⟩ := a; exact ⟨m', kn _ _ n' nll, q⟩
  · rename_i e; rw [e] at a; obtain ⟨b, l, q⟩ := a; exact ⟨b, l, kc _ _ q⟩
  · rename_i e; rw [e] at a; obtain ⟨b, l, q⟩ := a; exact ⟨b, l, kc _ _ q⟩
  · split at a <;> simp_all
theorem GRel.hidden {X X' : Addr → Prop} {K : Addr → Prop} {s : Shared} {h' : Heap} {tk : Nat} (g : GRel c γ X s) (hK : ∀ b, K b → Hid c s.heap b) (hKX : ∀ b, K b → X b)
    (kp : ∀ b o, ¬ K b → s.heap.get? b = some o → h'.get? b = some o) (hX : ∀ b, X' b → X b) (hM : ∀ b, c.M b → X' b) (lv : ∀ b, K b → X' b → ∃ o, h'.get? b = some o) : GRel c γ X' { s with heap := h', toks := tk } := by
  have cy : Carry X s.heap X' h' := ⟨fun b o n e => kp b o (fun q => n (hKX b q)) e, fun b o n _ y => n (hX b y)⟩
  have ne : ∀ b o, c.h0.get? b = some o → ¬ K b := fun b o e q => by have := g.xbase b (hKX b q); rw [e] at this; cases this
  have kM : ∀ b o, c.M b → s.heap.get? b = some o → h'.get? b = some o := fun b o m e => kp b o (fun q => (hK b q).2 m) e
  refine ⟨fun b o e => kp b o (ne b o e) (g.base b o e), fun b h => g.xbase b (hX b h), fun b h => ?_, g.gens, g.os, g.drawn, hM, fun b hb => let ⟨i, h⟩ := g.mpl b hb; ⟨i, isList_at h fun o e => kM b o hb e⟩, c.invCarry _ _ _ _ _ g.inv cy kM⟩
  by_cases q : K b
  · exact lv b q h
  · obtain ⟨o, ho⟩ := g.live b (hX b h); exact ⟨o, kp b o q ho⟩
structure ExtK (K : Addr → Prop) (W : Addr → Prop) (s : Shared) (W' : Addr → Prop) (s' : Shared) : Prop where
  live : ∀ b o, ¬ K b → s.heap.get? b = some o → ∃ o', s'.heap.get? b = some o'
  new : ∀ b, W' b → W b ∨ (s.heap.get? b = none ∧ ¬ K b)
  keep : ∀ b o, ¬ W b → ¬ K b → s.heap.get? b = some o → s'.heap.get? b = some o
theorem ExtK.trans {K : Addr → Prop} {W W' W'' : Addr → Prop} {s s' s'' : Shared} (x : ExtK K W s W' s') (y : ExtK K W' s' W'' s'') : ExtK K W s W'' s'' where
  live := fun b o n e => let ⟨o', e'⟩ := x.live b o n e; y.live b o' n e'
  new := fun b h => by
    rcases y.new b h with q | ⟨q, n⟩
    · exact x.new b q
    · by_cases w : W b
      · exact .inl w
      · refine .inr ⟨?_, n⟩
        cases e : s.heap.get? b with
        | none => rfl
        | some o => rw [x.keep b o w n e] at q; cases q
  keep := fun b o w n e => by
    have e' := x.keep b o w n e
    refine y.keep b o (fun w' => ?_) n e'
    rcases x.new b w' with q | q
    · exact w q
    · rw [q.1] at e; cases e
theorem Ext.toK {K : Addr → Prop} {W W' : Addr → Prop} {s s' : Shared} (x : Ext W s W' s') (lv : ∀ b, K b → ∃ o, s.heap.get? b = some o) : ExtK K W s W' s' :=
  ⟨fun b o _ e => x.live b o e, fun b h => (x.new b h).imp id fun q => ⟨q, fun i => by obtain ⟨o, e⟩ := lv b i; rw [q] at e; cases e⟩, fun b o w _ e => x.keep b o w e⟩
theorem ExtK.hidden {K : Addr → Prop} {W : Addr → Prop} {s : Shared} {h' : Heap} {tk : Nat} (k : ∀ b o, ¬ K b → s.heap.get? b = some o → h'.get? b = some o) : ExtK K W s W { s with heap := h', toks := tk } :=
  ⟨fun b o n e => ⟨o, k b o n e⟩, fun _ h => .inl h, fun b o _ n e => k b o n e⟩
theorem ExtK.out {K K' : Addr → Prop} {W W' : Addr → Prop} {s₀ s s' : Shared} {W₀ : Addr → Prop} (x₀ : Ext W₀ s₀ W s) (x : ExtK K W s W' s') (f : ∀ b, K b → K' b ∨ s₀.heap.get? b = none) (lv : ∀ b, K' b → ∃ o, s₀.heap.get? b = some o) : ExtK K' W₀ s₀ W' s' where
  live := fun b o n e => let ⟨o', e'⟩ := x₀.live b o e; x.live b o' (fun q => (f b q).elim n fun q => by rw [q] at e; cases e) e'
  new := fun b w => by
    have nk : s₀.heap.get? b = none → ¬ K' b := fun q k => by obtain ⟨o, e⟩ := lv b k; rw [q] at e; cases e
    rcases x.new b w with q | ⟨q, n⟩
    · exact (x₀.new b q).imp id fun q => ⟨q, nk q⟩
    · by_cases w0 : W₀ b
      · exact .inl w0
      · have : s₀.heap.get? b = none := by
          cases e : s₀.heap.get? b with
          | none => rfl
          | some o => rw [x₀.keep b o w0 e] at q; cases q
        exact .inr ⟨this, nk this⟩
  keep := fun b o n nk e => by
    have e' := x₀.keep b o n e
    refine x.keep b o (fun w => ?_) (fun q => (f b q).elim nk fun q => by rw [q] at e; cases e) e'
    rcases x₀.new b w with q | q
    · exact n q
    · rw [q] at e; cases e
theorem It.self {prog : Program} {w : World} {A : Around} {E : Value → Shared → Prop} {s : Shared} {X : Addr → Prop} {p : Bool} {it : Addr} {I : List Addr} {ds : List D} (b : It X s.heap p it I ds) {Q : Value → Shared → Prop} (h : Q (.ref it) s) :
    wpAny (model prog w) A (pyIter (.ref it)) Q E s := by
  cases b with
  | basic b =>
    cases b with
    | list a _ _ _ => exact wpAny_pyIter_listiter a h
    | tuple a _ _ _ => exact wpAny_pyIter_tupleiter a h
    | range a => exact wpAny_pyIter_rangeiter a h
  | zip hz => exact wpAny_pyIter_zip hz h
  | enum he => exact wpAny_pyIter_enum he h
end
noncomputable def testsOf (ifs : List Expr) (env : Env) : Sem Bool := forIn ifs true fun c r => if r = true then do let ok ← isTrue c env (eval c env); pure (ForInStep.yield ok) else pure (ForInStep.yield r)
section
variable {prog : Program} {w : World} {A : Around} {R : Result → Shared → Prop} {s : Shared}
theorem compTurn_run {elt tgt iter : Expr} {ifs : List Expr} {gens : List Comprehension} {scope : Scope} {pos : Pos} {depth : Nat} {it acc : Value} {env : Env} (hg : gens[depth]? = some ⟨tgt, iter, ifs, 0⟩)
    (hg' : gens[depth + 1]? = none ∨ ∃ t i f, gens[depth + 1]? = some ⟨t, i, f, 0⟩) (hs : ∀ t i f, gens[depth + 1]? = some ⟨t, i, f, 0⟩ → ∀ x, foldedSetIterable i env x = pure x)
    (h : wpAny (model prog w) A (pyNext it) (fun r s₁ => match r with
      | none => R (.ok .next) s₁
      | some v => wpAny (model prog w) A (letOwnedTupleGo tgt it v) (fun _ s₂ => wpAny (model prog w) A (assign tgt env v) (fun _ s₃ => wpAny (model prog w) A (testsOf ifs env) (fun ok s₄ =>
          (ok = false → codeAny (model prog w) A (.compLoop (.ListComp elt gens scope pos) depth it acc env) R s₄) ∧
          (ok = true → (∀ g, gens[depth + 1]? = some g → wpAny (model prog w) A (eval g.iter env) (fun x s₅ => wpAny (model prog w) A (pyIter x) (fun it' s₆ =>
              codeAny (model prog w) A (.compStart (.ListComp elt gens scope pos) (depth + 1) it' acc env) (fun r s' => match r with | .ok _ => codeAny (model prog w) A (.compLoop (.ListComp elt gens scope pos) depth it acc env) R s' | .error e => cameBackBy (model prog w) A env (notedBy (model prog w) A env fun e s' => R (.error e) s') e s') s₆)
                (notedBy (model prog w) A env fun e s' => R (.error e) s') s₅) (notedBy (model prog w) A env fun e s' => R (.error e) s') s₄) ∧
            (gens[depth + 1]? = none → wpAny (model prog w) A (eval elt env) (fun x s₅ => wpAny (model prog w) A (call (.builtin "list.append") [acc, x]) (fun _ s₆ => codeAny (model prog w) A (.compLoop (.ListComp elt gens scope pos) depth it acc env) R s₆)
                (notedBy (model prog w) A env fun e s' => R (.error e) s') s₅) (notedBy (model prog w) A env fun e s' => R (.error e) s') s₄)))
          (notedBy (model prog w) A env fun e s' => R (.error e) s') s₃) (notedBy (model prog w) A env fun e s' => R (.error e) s') s₂) (notedBy (model prog w) A env fun e s' => R (.error e) s') s₁)
        (notedBy (model prog w) A env fun e s' => R (.error e) s') s) :
    codeAny (model prog w) A (.compLoop (.ListComp elt gens scope pos) depth it acc env) R s := by
  refine codeAny_of_tree ?_
  show wpAny _ A ((compTurn (.ListComp elt gens scope pos) depth it acc env).onRaise (fun x => do noteFrame x env; theTreesLotGoes x)) _ _ s
  refine wpAny_noted ?_
  unfold compTurn
  simp only [hg]
  refine wpAny_bind (wpAny_standAt ?_)
  show wpAny _ A (pyNext it >>= _) _ _ s
  refine wpAny_bind (wpAny_mono h (fun r s₁ h₁ => ?_) fun _ _ h' => h')
  cases r with
  | none => exact wpAny_pure h₁
  | some v =>
    refine wpAny_bind (wpAny_mono h₁ (fun _ s₂ h₂ => ?_) fun _ _ h' => h')
    refine wpAny_bind (wpAny_mono h₂ (fun _ s₃ h₃ => ?_) fun _ _ h' => h')
    refine wpAny_bind (wpAny_mono h₃ (fun ok s₄ h₄ => ?_) fun _ _ h' => h')
    cases ok with
    | false => exact wpAny_pure ⟨rfl, h₄.1 rfl⟩
    | true =>
      obtain ⟨h5, h6⟩ := h₄.2 rfl
      rcases hg' with e | ⟨t, i, f, e⟩
      · have h6 := h6 e
        simp only [e]
        exact wpAny_bind (wpAny_bind (wpAny_mono h6 (fun x s₅ h₅ => wpAny_bind (wpAny_mono h₅ (fun _ s₆ h₆ => wpAny_pure (wpAny_pure ⟨rfl, h₆⟩)) fun _ _ h' => h')) fun _ _ h' => h'))
      · have h5 := h5 _ e
        have hs := hs t i f e
        simp only [e]
        refine wpAny_bind (wpAny_mono h5 (fun x s₅ h₅ => ?_) fun _ _ h' => h')
        refine wpAny_bind (wpAny_standAt ?_)
        show wpAny _ A (foldedSetIterable i env x >>= _) _ _ s₅
        refine wpAny_bind (wpAny_of_eq (hs x) ?_)
        refine wpAny_bind (wpAny_holding ?_)
        show wpAny _ A (pyIter x) _ _ s₅
        refine wpAny_mono h₅ (fun it' s₆ h₆ => ?_) fun _ _ h' => h'
        refine wpAny_bind (wpAny_runOwn (codeAny_mono h₆ fun r s' hr => ?_))
        cases r with
        | ok f => exact wpAny_pure ⟨rfl, hr⟩
        | error e => exact hr
theorem compStart_run {elt tgt iter : Expr} {ifs : List Expr} {gens : List Comprehension} {scope : Scope} {pos : Pos} {depth : Nat} {it acc : Value} {env : Env} (hg : gens[depth]? = some ⟨tgt, iter, ifs, 0⟩)
    (h : codeAny (model prog w) A (.compLoop (.ListComp elt gens scope pos) depth it acc env) R s)
    (hi : wpAny (model prog w) A (pyIter it) (fun it' s' => codeAny (model prog w) A (.compLoop (.ListComp elt gens scope pos) depth it' acc env) R s') (notedBy (model prog w) A env fun x s' => R (.error x) s') s) :
    codeAny (model prog w) A (.compStart (.ListComp elt gens scope pos) depth it acc env) R s := by
  refine codeAny_of_tree ?_
  show wpAny _ _ ((compStart (.ListComp elt gens scope pos) depth it acc env).onRaise (fun x => do noteFrame x env; standAt theWindowsPlace)) _ _ s
  refine wpAny_notedAt ?_
  unfold compStart
  have e : (clausesOf (.ListComp elt gens scope pos))[depth]? = some ⟨tgt, iter, ifs, 0⟩ := hg
  simp only [e]
  show wpAny _ _ (ask >>= _) _ _ s
  refine wpAny_bind (wpAny_askSetting (wpAny_ite ?_))
  split
  · exact wpAny_bind (wpAny_pure (wpAny_pure ⟨rfl, h⟩))
  · refine wpAny_bind (wpAny_rule ?_)
    refine wpAny_bind (wpAny_standAt ?_)
    exact wpAny_bind (wpAny_mono hi (fun it' s' h' => wpAny_pure ⟨rfl, h'⟩) fun _ _ e => e)
end
inductive Tests (c : Cx) (k : Nat) (S : Scope) (ρ : Vars) (γ : GS) : List Expr → Bool → Prop
  | nil : Tests c k S ρ γ [] true
  | one {e : Expr} {b : Bool} : TstE c k S ρ γ e b ρ γ → Tests c k S ρ γ [e] b
inductive CompR (c : Cx) (k : Nat) (S : Scope) (elt : Expr) (gens : List Comprehension) : Nat → List D → Vars → GS → List D → Vars → GS → Prop
  | nil {n : Nat} {ρ : Vars} {γ : GS} : CompR c k S elt gens n [] ρ γ [] ρ γ
  | skip {n : Nat} {d : D} {ds out : List D} {ρ ρ₁ ρ₂ ρ' : Vars} {γ γ' : GS} {tgt iter : Expr} {ifs : List Expr} : gens[n]? = some ⟨tgt, iter, ifs, 0⟩ → As c S false tgt (.d d) ρ ρ₁ → Tests c k S ρ₁ γ ifs false → (∀ x u, ρ₂ x = some u → ρ₁ x = some u) →
      CompR c k S elt gens n ds ρ₂ γ out ρ' γ' → CompR c k S elt gens n (d :: ds) ρ γ out ρ' γ'
  | emit {n : Nat} {d r : D} {ds out : List D} {ρ ρ₁ ρ₂ ρ' : Vars} {γ γ₂ γ' : GS} {tgt iter : Expr} {ifs : List Expr} : gens[n]? = some ⟨tgt, iter, ifs, 0⟩ → As c S false tgt (.d d) ρ ρ₁ → Tests c k S ρ₁ γ ifs true → gens[n + 1]? = none →
      EvE c k S ρ₁ γ elt (.d r) ρ₂ γ₂ → CompR c k S elt gens n ds ρ₂ γ₂ out ρ' γ' → CompR c k S elt gens n (d :: ds) ρ γ (r :: out) ρ' γ'
  | inner {n : Nat} {d : D} {ds its out out' : List D} {ρ ρ₁ ρ₂ ρ₃ ρ' : Vars} {γ γ₂ γ₃ γ' : GS} {tgt iter t i : Expr} {ifs f : List Expr} {p : Bool} : gens[n]? = some ⟨tgt, iter, ifs, 0⟩ → As c S false tgt (.d d) ρ ρ₁ → Tests c k S ρ₁ γ ifs true →
      gens[n + 1]? = some ⟨t, i, f, 0⟩ → gens[n + 1 + 1]? = none → (p = true → isTup t = true) → (∀ env x, foldedSetIterable i env x = pure x) → EvIt c k S ρ₁ γ i p its ρ₂ γ₂ → CompR c k S elt gens (n + 1) its ρ₂ γ₂ out ρ₃ γ₃ → CompR c k S elt gens n ds ρ₃ γ₃ out' ρ' γ' → CompR c k S elt gens n (d :: ds) ρ γ (out ++ out') ρ' γ'
section
variable {c : Cx} {k : Nat} {S : Scope} {ρ ρ' ρ₁ ρ₂ ρ₃ : Vars} {γ γ' γ₁ γ₂ γ₃ : GS} {fn : Bool}
theorem tests_run {ifs : List Expr} {b : Bool} (h : Tests c k S ρ γ ifs b) {A : Around} {env : Env} {W Z : Addr → Prop} {s : Shared} {Q : Bool → Shared → Prop} {E : Value → Shared → Prop} (hs : env.scope = S) (rm : Room A k) (R : Rel c γ env W Z ρ s)
    (q : ∀ s' W', ExtE env W s W' s' → Rel c γ env W' Z ρ s' → Q b s') : wpAny (model c.prog c.w) A (testsOf ifs env) Q E s := by
  cases h with
  | nil => exact wpAny_pure (q s W (ExtE.refl env W s) R)
  | one h =>
    show wpAny _ A (forIn [_] true _) Q E s
    rw [List.forIn_cons]
    simp only [if_true]
    refine wpAny_bind (wpAny_bind (h A env W Z s _ E hs rm R fun s' W' x R' => wpAny_pure ?_))
    exact wpAny_pure (q s' W' x R')
structure AccAt (c : Cx) (W Z : Addr → Prop) (h : Heap) (acc : Addr) (ds : List D) : Prop where
  z : Z acc
  w : ¬ W acc
  m : ¬ c.M acc
  at_ : ∃ vs, OL h acc vs.toArray ∧ Reps (un Z W) h vs ds
theorem AccAt.hid {W Z : Addr → Prop} {h : Heap} {acc : Addr} {ds : List D} (a : AccAt c W Z h acc ds) : Hid c h acc := let ⟨_, i, _⟩ := a.at_; list_hid i.isList a.m
theorem AccAt.carry {W W' Z Z' : Addr → Prop} {h h' : Heap} {acc : Addr} {ds : List D} (a : AccAt c W Z h acc ds) (cy : Carry (un Z W) h (un Z' W') h') (k : ∀ o, h.get? acc = some o → h'.get? acc = some o) (hz : Z' acc) (hw : ¬ W' acc) : AccAt c W' Z' h' acc ds :=
  ⟨hz, hw, a.m, let ⟨vs, i, r⟩ := a.at_; ⟨vs, ol_at i k, r.carry cy⟩⟩
theorem AccAt.ext {W W' Z : Addr → Prop} {s s' : Shared} {acc : Addr} {ds : List D} (a : AccAt c W Z s.heap acc ds) (x : Ext W s W' s') : AccAt c W' Z s'.heap acc ds :=
  a.carry x.carry (fun o e => x.keep acc o a.w e) a.z fun w => (x.new acc w).elim a.w fun q => by obtain ⟨o, e⟩ := a.hid.live; rw [q] at e; cases e
theorem acc_push {W Z : Addr → Prop} {s : Shared} {env : Env} {acc : Addr} {ds : List D} {d : D} {v : Value} {A : Around} {Q : Value → Shared → Prop} {E : Value → Shared → Prop} (R : Rel c γ env W Z ρ s) (a : AccAt c W Z s.heap acc ds) (r : Rep (un Z W) s.heap v d) (hl : ds.length ≤ 16777216)
    (q : ∀ h', Heap.SameBut acc s.heap h' → Rel c γ env W Z ρ { s with heap := h' } → AccAt c W Z h' acc (ds ++ [d]) → Q .none { s with heap := h' }) : wpAny (model c.prog c.w) A (call (.builtin "list.append") [.ref acc, v]) Q E s := by
  obtain ⟨vs, ⟨n, i⟩, rs⟩ := a.at_
  have i0 : OL s.heap acc vs.toArray := ⟨n, i⟩
  have hid := a.hid
  obtain ⟨o, ho, hc, n', hd⟩ := id i0.isList
  obtain ⟨n'', hd'⟩ := Obj.data_mapSeq hd (·.push v)
  refine wpAny_call_entry slot_list_append i0.isList.typeIs entry_list_append ?_ (args_list_append _ _)
  show wpAny _ _ (updateSeq acc (·.push v) >>= fun _ => ret .none) _ _ s
  refine wpAny_bind ?_
  refine wpAny_updateSeq ho hd (wpAny_pure ⟨.none, rfl, ?_⟩) (by rw [List.size_toArray, rs.length]; exact hl) (by rw [Array.size_push, List.size_toArray, rs.length]; exact Nat.succ_le_succ hl)
  have hs := Heap.SameBut.update s.heap acc (Obj.mapSeq (·.push v))
  have hK : ∀ b, b = acc → Hid c s.heap b := fun b e => e ▸ hid
  have kk : ∀ b o, ¬ b = acc → s.heap.get? b = some o → (s.heap.update acc (Obj.mapSeq (·.push v))).get? b = some o := fun b o n e => (hs.2 b n).trans e
  have hi' : OL (s.heap.update acc (Obj.mapSeq (·.push v))) acc (vs ++ [v]).toArray := by have := i.update (fun xs => xs.push v); exact ⟨_, by simpa using this⟩
  have g := R.g.hidden (tk := s.toks) (X' := un Z W) hK (fun b e => .inl (e ▸ a.z)) kk (fun _ h => h) (fun b m => .inr (R.wM b m)) fun b e _ => (by subst e; exact list_live hi'.isList)
  refine q _ hs (R.behind hK (fun b e => e ▸ a.z) (fun b o _ n e => kk b o n e) g (fun _ h => h) (fun _ h => .inl h) fun _ h => .inl h) ⟨a.z, a.w, a.m, vs ++ [v], hi', ?_⟩
  exact (Reps.append (.one r) rs).carry (carry_sameBut (.inl a.z) hs)
theorem comp_item {elt tgt iter : Expr} {ifs : List Expr} {gens : List Comprehension} {scope : Scope} {pos : Pos} {n : Nat} {d : D} {ds acs : List D} {b : Bool} {A : Around} {env : Env} {W Z : Addr → Prop} {I : List Addr} {it acc : Addr} {p : Bool} {s : Shared} {R : Result → Shared → Prop}
    (hg : gens[n]? = some ⟨tgt, iter, ifs, 0⟩) (hg' : gens[n + 1]? = none ∨ ∃ t i f, gens[n + 1]? = some ⟨t, i, f, 0⟩) (hfs : ∀ t i f, gens[n + 1]? = some ⟨t, i, f, 0⟩ → ∀ x, foldedSetIterable i env x = pure x)
    (ha : As c S false tgt (.d d) ρ ρ₁) (ht : Tests c k S ρ₁ γ ifs b) (hs : env.scope = S) (rm : Room A k) (hp : p = true → isTup tgt = true) (hW : ∀ b ∈ I, ¬ W b) (Rl : Rel c γ env W (ad Z I) ρ s) (hit : It (un (ad Z I) W) s.heap p it I (d :: ds)) (hacc : AccAt c W (ad Z I) s.heap acc acs) (hna : acc ∉ I)
    (next : ∀ s₄ W', ExtK (fun b => b = acc ∨ b ∈ I) W s W' s₄ → (∀ b ∈ I, ¬ W' b) → Rel c γ env W' (ad Z I) ρ₁ s₄ → It (un (ad Z I) W') s₄.heap p it I ds → AccAt c W' (ad Z I) s₄.heap acc acs →
          (b = false → codeAny (model c.prog c.w) A (.compLoop (.ListComp elt gens scope pos) n (.ref it) (.ref acc) env) R s₄) ∧
          (b = true → (∀ g, gens[n + 1]? = some g → wpAny (model c.prog c.w) A (eval g.iter env) (fun x s₅ => wpAny (model c.prog c.w) A (pyIter x) (fun it' s₆ =>
              codeAny (model c.prog c.w) A (.compStart (.ListComp elt gens scope pos) (n + 1) it' (.ref acc) env) (fun r s' => match r with | .ok _ => codeAny (model c.prog c.w) A (.compLoop (.ListComp elt gens scope pos) n (.ref it) (.ref acc) env) R s' | .error e => cameBackBy (model c.prog c.w) A env (notedBy (model c.prog c.w) A env fun e s' => R (.error e) s') e s') s₆)
                (notedBy (model c.prog c.w) A env fun e s' => R (.error e) s') s₅) (notedBy (model c.prog c.w) A env fun e s' => R (.error e) s') s₄) ∧
            (gens[n + 1]? = none → wpAny (model c.prog c.w) A (eval elt env) (fun x s₅ => wpAny (model c.prog c.w) A (call (.builtin "list.append") [.ref acc, x]) (fun _ s₆ => codeAny (model c.prog c.w) A (.compLoop (.ListComp elt gens scope pos) n (.ref it) (.ref acc) env) R s₆)
                (notedBy (model c.prog c.w) A env fun e s' => R (.error e) s') s₅) (notedBy (model c.prog c.w) A env fun e s' => R (.error e) s') s₄))) :
    codeAny (model c.prog c.w) A (.compLoop (.ListComp elt gens scope pos) n (.ref it) (.ref acc) env) R s := by
  refine compTurn_run hg hg' hfs (wpAny_mono (It.step (tgt := tgt) (N := notedBy (model c.prog c.w) A env fun e s' => R (.error e) s') (Q := fun v s₂ => wpAny (model c.prog c.w) A (assign tgt env v) (fun _ s₃ => wpAny (model c.prog c.w) A (testsOf ifs env) (fun ok s₄ =>
          (ok = false → codeAny (model c.prog c.w) A (.compLoop (.ListComp elt gens scope pos) n (.ref it) (.ref acc) env) R s₄) ∧
          (ok = true → (∀ g, gens[n + 1]? = some g → wpAny (model c.prog c.w) A (eval g.iter env) (fun x s₅ => wpAny (model c.prog c.w) A (pyIter x) (fun it' s₆ =>
              codeAny (model c.prog c.w) A (.compStart (.ListComp elt gens scope pos) (n + 1) it' (.ref acc) env) (fun r s' => match r with | .ok _ => codeAny (model c.prog c.w) A (.compLoop (.ListComp elt gens scope pos) n (.ref it) (.ref acc) env) R s' | .error e => cameBackBy (model c.prog c.w) A env (notedBy (model c.prog c.w) A env fun e s' => R (.error e) s') e s') s₆)
                (notedBy (model c.prog c.w) A env fun e s' => R (.error e) s') s₅) (notedBy (model c.prog c.w) A env fun e s' => R (.error e) s') s₄) ∧
            (gens[n + 1]? = none → wpAny (model c.prog c.w) A (eval elt env) (fun x s₅ => wpAny (model c.prog c.w) A (call (.builtin "list.append") [.ref acc, x]) (fun _ s₆ => codeAny (model c.prog c.w) A (.compLoop (.ListComp elt gens scope pos) n (.ref it) (.ref acc) env) R s₆)
                (notedBy (model c.prog c.w) A env fun e s' => R (.error e) s') s₅) (notedBy (model c.prog c.w) A env fun e s' => R (.error e) s') s₄)))
          (notedBy (model c.prog c.w) A env fun e s' => R (.error e) s') s₃) (notedBy (model c.prog c.w) A env fun e s' => R (.error e) s') s₂)
      rm.1 (fun b hb => .inl (.inr hb)) Rl.g.live hp hit fun v h' tk kk r b' => ?_) (fun r s₁ h₁ => ?_) fun _ _ e => e)
  · have pl' := b'.place
    have lv' : ∀ b ∈ I, ∃ o, h'.get? b = some o := fun b hb => (pl' b hb).live
    have hK : ∀ b, b ∈ I → Hid c s.heap b := fun b hb => (hit.place b hb).hid Rl.g
    have g₁ := Rl.g.hidden (tk := tk) (X' := un (ad Z I) W) hK (fun b hb => .inl (.inr hb)) kk (fun _ h => h) (fun b m => .inr (Rl.wM b m)) fun b hb _ => lv' b hb
    have R₁ : Rel c γ env W (ad Z I) ρ { s with heap := h', toks := tk } := Rl.behind hK (fun b hb => .inr hb) (fun b o _ n e => kk b o n e) g₁ (fun _ h => h) (fun _ h => .inl h) fun _ h => .inl h
    have a₁ : AccAt c W (ad Z I) h' acc acs := hacc.carry ⟨fun b o n e => kk b o (fun q => n (.inl (.inr q))) e, fun _ _ n _ => n⟩ (fun o e => kk acc o hna e) hacc.z hacc.w
    refine ha A γ env W (ad Z I) _ v _ _ hs (fun e => by cases e) rm.1 R₁ ⟨r, trivial⟩ fun s₂ x₂ R₂ => ?_
    have b₂ := b'.ext x₂ x₂.carry hW
    have a₂ := a₁.ext (s := { s with heap := h', toks := tk }) x₂
    refine tests_run ht hs rm R₂ fun s₃ W₃ x₃ R₃ => ?_
    have lv₂ : ∀ b ∈ I, ∃ o, s₂.heap.get? b = some o := fun b hb => (b₂.place b hb).live
    have hW₃ := x₃.toExt.notW lv₂ hW
    refine next s₃ W₃ (((ExtK.hidden fun b o n e => kk b o (fun q => n (.inr q)) e).trans (x₂.toK fun b hb => hb.elim (fun e => e ▸ a₁.hid.live) (lv' b))).trans (x₃.toExt.toK fun b hb => hb.elim (fun e => e ▸ a₂.hid.live) (lv₂ b))) hW₃ R₃ (b₂.ext x₃.toExt x₃.toExt.carry hW) (a₂.ext x₃.toExt)
  · obtain ⟨v, rfl, h₁⟩ := h₁; exact h₁
theorem compR_run {elt : Expr} {gens : List Comprehension} {scope : Scope} {pos : Pos} {n : Nat} {ds out : List D} (h : CompR c k S elt gens n ds ρ γ out ρ' γ') :
    ∀ (A : Around) (env : Env) (W Z : Addr → Prop) (I : List Addr) (it acc : Addr) (p : Bool) (s : Shared) (acs : List D) (R : Result → Shared → Prop) (t0 i0 : Expr) (f0 : List Expr), env.scope = S → Room A k → gens[n]? = some ⟨t0, i0, f0, 0⟩ → (gens[n + 1]? = none ∨ ∃ t i f, gens[n + 1]? = some ⟨t, i, f, 0⟩ ∧ ∀ env x, foldedSetIterable i env x = pure x) → (p = true → isTup t0 = true) →
      (∀ b ∈ I, ¬ W b) → (∀ b ∈ I, ¬ Z b) → Rel c γ env W (ad Z I) ρ s → It (un (ad Z I) W) s.heap p it I ds → AccAt c W (ad Z I) s.heap acc acs → Z acc → acs.length + out.length ≤ 16777216 →
      (∀ s' W', ExtK (fun b => b = acc ∨ b ∈ I) W s W' s' → Rel c γ' env W' Z ρ' s' → AccAt c W' Z s'.heap acc (acs ++ out) → R (.ok .next) s') →
      codeAny (model c.prog c.w) A (.compLoop (.ListComp elt gens scope pos) n (.ref it) (.ref acc) env) R s := by
  induction h with
  | nil =>
    intro A env W Z I it acc p s acs R t0 i0 f0 hs rm hg hg' hp hW hZ Rl hit hacc hZa hl q
    have hna : acc ∉ I := fun e => hZ acc e hZa
    refine compTurn_run hg (hg'.imp id fun ⟨t, i, f, e, _⟩ => ⟨t, i, f, e⟩) (fun t i f e x => by
      rcases hg' with e' | ⟨t', i', f', e', hh⟩
      · rw [e'] at e; cases e
      · rw [e'] at e; cases e; exact hh env x) (It.done rm.1 (fun b hb => .inl (.inr hb)) hit fun h' tk kk => ?_)
    have hK : ∀ b, b ∈ I → Hid c s.heap b := fun b hb => (hit.place b hb).hid Rl.g
    have sub : ∀ b, un Z W b → un (ad Z I) W b := fun b h => h.imp .inl id
    have g₁ := Rl.g.hidden (tk := tk) (X' := un Z W) hK (fun b hb => .inl (.inr hb)) kk sub (fun b m => .inr (Rl.wM b m)) fun b hb h => h.elim (fun z => absurd z (hZ b hb)) fun w => absurd w (hW b hb)
    refine q _ W (ExtK.hidden fun b o n e => kk b o (fun q => n (.inr q)) e) (Rl.behind hK (fun b hb => .inr hb) (fun b o _ n e => kk b o n e) g₁ (fun _ h => h) (fun b h => .inl (sub b h)) fun _ h => .inl (.inl h)) ?_
    rw [List.append_nil]
    exact hacc.carry ⟨fun b o n e => kk b o (fun q => n (.inl (.inr q))) e, fun b o n _ y => n (sub b y)⟩ (fun o e => kk acc o hna e) hZa hacc.w
  | skip hg1 ha ht hsub _ ih =>
    intro A env W Z I it acc p s acs R t0 i0 f0 hs rm hg hg' hp hW hZ Rl hit hacc hZa hl q
    rw [hg1] at hg; cases hg
    have hna : acc ∉ I := fun e => hZ acc e hZa
    refine comp_item hg1 (hg'.imp id fun ⟨t, i, f, e, _⟩ => ⟨t, i, f, e⟩) (fun t i f e x => by
      rcases hg' with e' | ⟨t', i', f', e', hh⟩
      · rw [e'] at e; cases e
      · rw [e'] at e; cases e; exact hh env x) ha ht hs rm hp hW Rl hit hacc hna fun s₄ W₄ x₄ hW₄ R₄ it₄ a₄ => ⟨fun _ => ?_, fun e => by cases e⟩
    exact ih A env W₄ Z I it acc p s₄ acs R _ _ _ hs rm hg1 hg' hp hW₄ hZ (R₄.forget hsub) it₄ a₄ hZa hl fun s' W' x R' a' => q s' W' (x₄.trans x) R' a'
  | emit hg1 ha ht hn he _ ih =>
    intro A env W Z I it acc p s acs R t0 i0 f0 hs rm hg hg' hp hW hZ Rl hit hacc hZa hl q
    rw [hg1] at hg; cases hg
    have hna : acc ∉ I := fun e => hZ acc e hZa
    refine comp_item hg1 (.inl hn) (fun t i f e x => by rw [hn] at e; cases e) ha ht hs rm hp hW Rl hit hacc hna fun s₄ W₄ x₄ hW₄ R₄ it₄ a₄ => ⟨fun e => (by cases e), fun _ => ⟨(fun g e => by rw [hn] at e; cases e), fun _ => ?_⟩⟩
    refine he A env W₄ (ad Z I) s₄ _ _ hs rm R₄ fun v s₅ W₅ x₅ R₅ o₅ f₅ => ?_
    have a₅ := a₄.ext x₅.toExt
    have it₅ := it₄.ext x₅.toExt x₅.toExt.carry hW₄
    have lv₄ : ∀ b ∈ I, ∃ o, s₄.heap.get? b = some o := fun b hb => (it₄.place b hb).live
    have lv₅ : ∀ b ∈ I, ∃ o, s₅.heap.get? b = some o := fun b hb => (it₅.place b hb).live
    refine acc_push R₅ a₅ o₅.1 (by simp at hl; omega) fun h' hs' R₆ a₆ => ?_
    have it₆ : It (un (ad Z I) W₅) h' _ it I _ := it₅.carry (carry_sameBut (.inl a₅.z) hs') fun b hb o e => (hs'.2 b fun q => hna (q ▸ hb)).trans e
    refine ih A env W₅ Z I it acc p _ _ R _ _ _ hs rm hg1 hg' hp (x₅.toExt.notW lv₄ hW₄) hZ R₆ it₆ a₆ hZa (by simp at hl ⊢; omega) fun s' W' x R' a' => q s' W' ?_ R' (by rwa [List.append_assoc] at a')
    exact ((x₄.trans (x₅.toExt.toK fun b hb => hb.elim (fun e => e ▸ a₄.hid.live) (lv₄ b))).trans (ExtK.hidden fun b o n e => (hs'.2 b fun q => n (.inl q)).trans e)).trans x
  | @inner n d ds its out out' ρ ρ₁ ρ₂ ρ₃ ρ' γ γ₂ γ₃ γ' tgt iter t i ifs f p' hg1 ha ht hn hn2 hp' hfs hi h1 h2 ih1 ih2 =>
    intro A env W Z I it acc p s acs R t0 i0 f0 hs rm hg hg' hp hW hZ Rl hit hacc hZa hl q
    rw [hg1] at hg; cases hg
    have hna : acc ∉ I := fun e => hZ acc e hZa
    refine comp_item hg1 (.inr ⟨_, _, _, hn⟩) (fun t i f e x => by rw [hn] at e; cases e; exact hfs env x) ha ht hs rm hp hW Rl hit hacc hna fun s₄ W₄ x₄ hW₄ R₄ it₄ a₄ => ⟨fun e => (by cases e), fun _ => ⟨fun g e => ?_, fun e => by rw [hn] at e; cases e⟩⟩
    rw [hn] at e; cases e
    refine hi A env W₄ (ad Z I) s₄ _ _ hs rm R₄ fun it' I' s₅ W₅ x₅ fI' nW' nZ' R₅ it₅ => ?_
    have lv₄ : ∀ b ∈ I, ∃ o, s₄.heap.get? b = some o := fun b hb => (it₄.place b hb).live
    have la₄ := a₄.hid.live
    have nI' : ∀ b, b ∈ I' → ∀ o, s₄.heap.get? b ≠ some o := fun b hb o e => by rw [fI' b hb] at e; cases e
    have haI' : acc ∉ I' := fun e => by obtain ⟨o, q⟩ := la₄; exact nI' acc e o q
    have cy₅ : Carry (un (ad Z I) W₄) s₄.heap (un (ad (ad Z I) I') W₅) s₅.heap := ⟨fun b o n e => x₅.keep b o (fun w => n (.inr w)) e, fun b o n e y => by
      rcases y with (y | y) | y
      · exact n (.inl y)
      · exact nI' b y o e
      · exact (x₅.new b y).elim (fun w => n (.inr w)) fun q => by rw [q] at e; cases e⟩
    have a₅ : AccAt c W₅ (ad (ad Z I) I') s₅.heap acc acs := a₄.carry cy₅ (fun o e => x₅.keep acc o a₄.w e) (.inl a₄.z) fun w => (x₅.new acc w).elim a₄.w fun q => by obtain ⟨o, e⟩ := la₄; rw [q] at e; cases e
    have hl' : acs.length + out.length ≤ 16777216 ∧ acs.length + out.length + out'.length ≤ 16777216 := by rw [List.length_append] at hl; omega
    have loop := ih1 A env W₅ (ad Z I) I' it' acc p' s₅ acs (fun r s' => match r with | .ok _ => codeAny (model c.prog c.w) A (.compLoop (.ListComp elt gens scope pos) n (.ref it) (.ref acc) env) R s' | .error e => cameBackBy (model c.prog c.w) A env (notedBy (model c.prog c.w) A env fun e s' => R (.error e) s') e s') _ _ _ hs rm hn (.inl hn2) hp' nW' nZ' R₅ it₅ a₅ a₄.z hl'.1 ?_
    · exact compStart_run hn loop (it₅.self loop)
    · intro s₆ W₆ x₆ R₆ a₆
      show codeAny _ _ _ _ _
      have y₁ : ExtK (fun b => b = acc) W₄ s₄ W₆ s₆ := ExtK.out x₅.toExt x₆ (fun b h => h.imp id (fI' b)) fun b e => e ▸ la₄
      have y₂ : ExtK (fun b => b = acc ∨ b ∈ I) W₄ s₄ W₆ s₆ := ExtK.out x₅.toExt x₆ (fun b h => h.elim (fun e => .inl (.inl e)) fun h => .inr (fI' b h)) fun b h => h.elim (fun e => e ▸ la₄) (lv₄ b)
      have hW₆ : ∀ b ∈ I, ¬ W₆ b := fun b hb w => (y₁.new b w).elim (hW₄ b hb) fun q => by obtain ⟨o, e⟩ := lv₄ b hb; rw [q.1] at e; cases e
      have it₆ : It (un (ad Z I) W₆) s₆.heap p it I ds := it₄.carry ⟨fun b o n e => y₁.keep b o (fun w => n (.inr w)) (fun q => n (.inl (q ▸ a₄.z))) e, fun b o n e y => y.elim (fun z => n (.inl z)) fun w => (y₁.new b w).elim (fun w => n (.inr w)) fun q => by rw [q.1] at e; cases e⟩
        fun b hb o e => y₁.keep b o (hW₄ b hb) (fun q => hna (q ▸ hb)) e
      refine ih2 A env W₆ Z I it acc p s₆ (acs ++ out) R _ _ _ hs rm hg1 hg' hp hW₆ hZ R₆ it₆ a₆ hZa (by rw [List.length_append]; exact hl'.2) fun s' W' x R' a' => q s' W' ((x₄.trans y₂).trans x) R' (by rwa [List.append_assoc] at a')
end
noncomputable def clL (cells : List (Str × Addr)) : List (Str × NameKind) → List (Str × Addr) → List (Str × Addr)
  | [], cs => cs
  | (n, k) :: r, cs => if (k == NameKind.free) = true then clL cells r ((n, (cells.lookup n).getD 0) :: cs) else clL cells r cs
theorem forIn_fold {α β : Type} {g : α → β → β} {f : α → β → Sem (ForInStep β)} : ∀ (l : List α) (c : β), (∀ x ∈ l, ∀ c, f x c = pure (.yield (g x c))) → forIn l c f = pure (l.foldl (fun c x => g x c) c)
  | [], c, _ => rfl
  | x :: l, c, h => by
    rw [List.forIn_cons, h x List.mem_cons_self, pure_bind]
    exact forIn_fold l (g x c) fun y hy => h y (List.mem_cons_of_mem _ hy)
theorem clL_fold (cells : List (Str × Addr)) : ∀ (names : List (Str × NameKind)) (cs : List (Str × Addr)), names.foldl (fun cs x => if (x.2 == NameKind.free) = true then (x.1, (cells.lookup x.1).getD 0) :: cs else cs) cs = clL cells names cs
  | [], cs => rfl
  | (n, k) :: r, cs => by
    rw [List.foldl_cons, clL_fold cells r, clL]
    split <;> rfl
theorem closureFor_pure {scope : Scope} {env : Env} (h : ∀ n, (n, NameKind.free) ∈ scope.names → (env.cells.lookup n).isSome = true) : closureFor scope env = pure (clL env.cells scope.names []) := by
  rw [← clL_fold]
  simp only [closureFor]
  rw [forIn_fold (g := fun x cs => if (x.2 == NameKind.free) = true then (x.1, (env.cells.lookup x.1).getD 0) :: cs else cs) scope.names [] (fun x hx cs => by
    obtain ⟨n, k⟩ := x
    by_cases hk : (k == NameKind.free) = true
    · have e : k = .free := by simpa using hk
      subst e
      obtain ⟨a, ha⟩ := Option.isSome_iff_exists.mp (h n hx)
      have hc : PySem.cellOf env n = pure a := by delta PySem.cellOf; rw [ha]
      simp only [hk, if_true, hc, ha, Option.getD_some]
      rfl
    · simp only [hk, if_false]
      rfl)]
  rfl
theorem clL_sound {cells : List (Str × Addr)} : ∀ {names : List (Str × NameKind)} {cs : List (Str × Addr)}, (∀ n, (n, NameKind.free) ∈ names → (cells.lookup n).isSome = true) → (∀ x a, cs.lookup x = some a → cells.lookup x = some a) → ∀ x a, (clL cells names cs).lookup x = some a → cells.lookup x = some a
  | [], cs, _, h, x, a, e => h x a e
  | (n, k) :: r, cs, hf, h, x, a, e => by
    unfold clL at e
    split at e
    · rename_i hk
      have ek : k = .free := by simpa using hk
      subst ek
      refine clL_sound (fun m hm => hf m (List.mem_cons_of_mem _ hm)) (fun y b q => ?_) x a e
      rw [List.lookup_cons] at q
      split at q
      · rename_i hb
        have : y = n := by simpa using hb
        subst this
        obtain ⟨a', ha⟩ := Option.isSome_iff_exists.mp (hf y List.mem_cons_self)
        rw [ha] at q ⊢; simpa using q
      · exact h y b q
    · exact clL_sound (fun m hm => hf m (List.mem_cons_of_mem _ hm)) h x a e
theorem clL_keep {cells : List (Str × Addr)} : ∀ {names : List (Str × NameKind)} {cs : List (Str × Addr)} {x : Str}, (cs.lookup x).isSome = true → ((clL cells names cs).lookup x).isSome = true
  | [], cs, x, h => h
  | (n, k) :: r, cs, x, h => by
    unfold clL
    split
    · refine clL_keep ?_
      rw [List.lookup_cons]
      split
      · rfl
      · exact h
    · exact clL_keep h
theorem clL_has {cells : List (Str × Addr)} : ∀ {names : List (Str × NameKind)} {cs : List (Str × Addr)} {x : Str}, (x, NameKind.free) ∈ names → ((clL cells names cs).lookup x).isSome = true
  | (n, k) :: r, cs, x, h => by
    unfold clL
    rcases List.mem_cons.mp h with e | e
    · cases e
      rw [if_pos (by rfl)]
      exact clL_keep (by rw [List.lookup_cons]; simp)
    · split <;> exact clL_has e
noncomputable def relS (scope S : Scope) : Scope := { scope with names := scope.names.map fun (n, k) => if (k == .free && S.kind == .function && S.names.lookup n == some .cell) then (n, .cell) else (n, k) }
theorem relabel_eq (scope : Scope) (env : Env) : relabel scope env = relS scope env.scope := rfl
noncomputable def compOk (scope S : Scope) : Bool := scope.kind == .function && S.kind == .function && scope.names.all fun x => x.2 != .cell && (x.2 != .free || (S.names.lookup x.1 == some .cell && scope.names.lookup x.1 == some .free)) && (x.2 != .local || scope.names.lookup x.1 == some .local)
theorem lookup_relS_cell {S : Scope} (hS : S.kind = .function) : ∀ {names : List (Str × NameKind)} {x : Str}, names.lookup x = some .free → S.names.lookup x = some .cell →
    (names.map fun (n, k) => if (k == NameKind.free && S.kind == .function && S.names.lookup n == some .cell) then (n, NameKind.cell) else (n, k)).lookup x = some .cell
  | [], _, h, _ => by simp at h
  | (n, k) :: r, x, h, hc => by
    have ih := @lookup_relS_cell S hS r x
    show List.lookup x ((if (k == NameKind.free && S.kind == .function && S.names.lookup n == some .cell) = true then (n, NameKind.cell) else (n, k)) :: _) = _
    cases hx : x == n with
    | true =>
      simp only [List.lookup_cons, hx] at h
      cases h
      have : x = n := by simpa using hx
      subst this
      simp [hS, hc]
    | false =>
      simp only [List.lookup_cons, hx] at h
      by_cases hc' : (k == NameKind.free && S.kind == .function && S.names.lookup n == some .cell) = true
      · rw [if_pos hc']; simp only [List.lookup_cons, hx]; exact ih h hc
      · rw [if_neg hc']; simp only [List.lookup_cons, hx]; exact ih h hc
noncomputable def capV (scope : Scope) (ρ : Vars) : Vars := fun x => if scope.names.lookup x = some .free then (match ρ x with | some (.d d) => some (.d d) | _ => none) else none
section
variable {c : Cx} {k : Nat} {S : Scope} {ρ ρ' ρ₁ ρ₂ ρ₃ : Vars} {γ γ' γ₁ γ₂ γ₃ : GS} {fn : Bool}
theorem GRel.drop {X X' : Addr → Prop} {s : Shared} {b₀ : Addr} {h' : Heap} (g : GRel c γ X s) (hs : Heap.SameBut b₀ s.heap h') (hX₀ : X b₀) (nM : ¬ c.M b₀) (hX : ∀ b, X' b → X b) (nX : ¬ X' b₀) (hM : ∀ b, c.M b → X' b) : GRel c γ X' { s with heap := h' } := by
  have cy : Carry X s.heap X' h' := ⟨fun b o n e => (hs.2 b fun q => n (q ▸ hX₀)).trans e, fun b o n _ y => n (hX b y)⟩
  have kM : ∀ b o, c.M b → s.heap.get? b = some o → h'.get? b = some o := fun b o m e => (hs.2 b fun q => nM (q ▸ m)).trans e
  refine ⟨fun b o e => ?_, fun b h => g.xbase b (hX b h), fun b h => ?_, g.gens, g.os, g.drawn, hM, fun b hb => let ⟨i, h⟩ := g.mpl b hb; ⟨i, isList_at h fun o e => kM b o hb e⟩, c.invCarry _ _ _ _ _ g.inv cy kM⟩
  · exact (hs.2 b fun q => by have := g.xbase b₀ hX₀; rw [← q, e] at this; cases this).trans (g.base b o e)
  · obtain ⟨o, ho⟩ := g.live b (hX b h); exact ⟨o, (hs.2 b fun q => nX (q ▸ h)).trans ho⟩
theorem mem_of_lookupN {α : Type} : ∀ {l : List (Str × α)} {x : Str} {a : α}, l.lookup x = some a → (x, a) ∈ l
  | [], _, _, h => by simp at h
  | (n, k) :: r, x, a, h => by
    rw [List.lookup_cons] at h
    split at h
    · rename_i hb
      have : x = n := by simpa using hb
      subst this
      cases h; exact List.mem_cons_self
    · exact List.mem_cons_of_mem _ (mem_of_lookupN h)
theorem capV_inv {scope : Scope} {x : Str} {u : V} (h : capV scope ρ x = some u) : ∃ d, u = .d d ∧ scope.names.lookup x = some .free ∧ ρ x = some (.d d) := by
  unfold capV at h
  split at h
  · rename_i e
    split at h
    · rename_i d hd; cases h; exact ⟨d, rfl, e, hd⟩
    · cases h
  · cases h
theorem listcomp_core {elt tgt iter : Expr} {ifs : List Expr} {rest : List Comprehension} {scope : Scope} {pos ipos : Pos} {p : Bool} {its out : List D} (hi : EvIt c k S ρ γ iter p its ρ₁ γ₁) (hok : compOk scope S = true)
    (hfr : ∀ n, (n, NameKind.free) ∈ scope.names → ∃ u, ρ n = some u) (hp : p = true → isTup tgt = true) (hr : rest = [] ∨ ∃ t i f, rest = [⟨t, i, f, 0⟩] ∧ ∀ env x, foldedSetIterable i env x = pure x) (hs : ∀ env x, foldedSetIterable iter env x = pure x)
    (hl : out.length ≤ 16777216) (h : CompR c k (relS scope S) elt (⟨tgt, iter, ifs, 0⟩ :: rest) 0 its (capV scope ρ₁) γ₁ out ρ₂ γ₂)
    (A : Around) (env : Env) (W Z : Addr → Prop) (s : Shared) (use : Option (Value → Sem Unit)) (Q : Value → Shared → Prop) (E : Value → Shared → Prop) (hsc : env.scope = S) (rm : Room A k) (R : Rel c γ env W Z ρ s)
    (q : ∀ acc C s₅ W', ExtE env W s W' s₅ → Rel c γ₂ env W' (fun b => Z b ∨ b = C) ρ₁ s₅ → VOk c env W' (fun b => Z b ∨ b = C) ρ₁ s₅ (.ref acc) (.own out) → s.heap.get? acc = none → s.heap.get? C = none → ¬ W' C → ¬ Z C → (∃ m, s₅.heap.Ns C m) → compPost (model c.prog c.w) A E use Q (.ref acc) C (.ok .next) s₅) :
    wpAny (model c.prog c.w) A (comprehension (.ListComp elt (⟨tgt, iter, ifs, 0⟩ :: rest) scope pos) scope env ipos (newList []) false (eval iter env) use) Q E s := by
  simp only [compOk, Bool.and_eq_true, beq_iff_eq, List.all_eq_true, bne_iff_ne, Bool.or_eq_true, ne_eq] at hok
  obtain ⟨⟨hk, hSk⟩, hn⟩ := hok
  have kcell : ∀ n, (n, NameKind.free) ∈ scope.names → env.kindOf n = some .cell := fun n hm => by
    rcases (hn _ hm).1.2 with e | e
    · exact absurd rfl e
    · unfold Env.kindOf; rw [hsc]; exact e.1
  have hlk : ∀ n, (n, NameKind.free) ∈ scope.names → (env.cells.lookup n).isSome = true := fun n hm => by
    obtain ⟨u, hu⟩ := hfr n hm
    obtain ⟨v, a, _⟩ := R.vars n u hu
    unfold VarAt at a
    rw [kcell n hm] at a
    obtain ⟨b, l, _⟩ := a
    rw [l]; rfl
  refine wpAny_comprehension_free (use := use) rfl (hs env) (closureFor_pure hlk) hk (fun x hx e => ?_) ?_
  · rcases (hn x hx).2 with e' | e'
    · exact absurd e e'
    · exact e'
  refine hi A env W Z s _ E hsc rm R fun it I s₂ W₂ x₂ fI nW nZ R₂ it₂ => ?_
  refine wpAny_newObj_type (wpAny_newFunctionEnv (fun y hy => (hn y hy).1.1) (by intro y hy; simp at hy) (fun h₄ hns hsb => ?_) hk)
  dsimp only at hns hsb ⊢
  generalize hcl : clL env.cells scope.names [] = cl at hns hsb ⊢
  generalize hH : s₂.heap.push { cls := .type "list", data := .seq ([] : List Value).toArray } = h₃ at hns hsb ⊢
  have hacc : ∃ acc, acc = s₂.heap.objs.size := ⟨_, rfl⟩
  obtain ⟨acc, eacc⟩ := hacc
  have hC : ∃ C, C = h₃.objs.size := ⟨_, rfl⟩
  obtain ⟨C, eC⟩ := hC
  rw [← eC] at hns hsb ⊢
  rw [← eacc]
  have facc : s₂.heap.get? acc = none := eacc ▸ fresh_size _
  have hCs : C = s₂.heap.objs.size + 1 := by rw [eC, ← hH, Heap.size_push]
  have fC : s₂.heap.get? C = none := by
    cases e : s₂.heap.get? C with
    | none => rfl
    | some o => exact absurd (Heap.lt_size e) (by rw [hCs]; exact Nat.not_lt.mpr (Nat.le_succ _))
  have nCa : acc ≠ C := by rw [eacc, hCs]; exact Nat.ne_of_lt (Nat.lt_succ_self _)
  have keep : ∀ b o, s₂.heap.get? b = some o → h₄.get? b = some o := fun b o e => hsb.extBut b o (fun q => by rw [q, fC] at e; cases e) (Heap.get?_push_of_some _ (hH ▸ Heap.get?_push_of_some _ e))
  have iacc : OL h₄ acc ([] : List Value).toArray := ⟨_, hsb.extBut _ _ nCa (Heap.get?_push_of_some _ (by rw [← hH, eacc]; exact Heap.get?_push_size _ rfl))⟩
  have lv₂ : ∀ b, un (ad Z I) W₂ b → ∃ o, s₂.heap.get? b = some o := R₂.g.live
  have lvI : ∀ b ∈ I, ∃ o, s₂.heap.get? b = some o := fun b hb => lv₂ b (.inl (.inr hb))
  have nacc : ∀ b, un (ad Z I) W₂ b → b ≠ acc := fun b h e => by obtain ⟨o, q⟩ := lv₂ b h; rw [e, facc] at q; cases q
  have nC : ∀ b, un (ad Z I) W₂ b → b ≠ C := fun b h e => by obtain ⟨o, q⟩ := lv₂ b h; rw [e, fC] at q; cases q
  let Zc : Addr → Prop := fun b => (Z b ∨ W₂ b) ∨ b = acc
  let Wc : Addr → Prop := fun b => b = C ∨ ML c b
  have hML : ∀ b, ML c b → W₂ b := R₂.wM
  have nZI : ∀ b ∈ I, ¬ Zc b := fun b hb z => by
    rcases z with (z | z) | z
    · exact nZ b hb z
    · exact nW b hb z
    · exact nacc b (.inl (.inr hb)) z
  have nWI : ∀ b ∈ I, ¬ Wc b := fun b hb w => w.elim (nC b (.inl (.inr hb))) fun m => nW b hb (hML b m)
  let s₄ : Shared := { s₂ with heap := h₄, toks := s₂.toks + ([] : List (Str × Value)).length }
  have G₄ : Grow s₂ s₄ := ⟨keep, rfl, rfl, rfl⟩
  have up : ∀ b, un (ad Z I) W₂ b → un (ad Zc I) Wc b := fun b h => by
    rcases h with (z | i) | w
    · exact .inl (.inl (.inl (.inl z)))
    · exact .inl (.inr i)
    · exact .inl (.inl (.inl (.inr w)))
  have down : ∀ b, un (ad Zc I) Wc b → un (ad Z I) W₂ b ∨ s₂.heap.get? b = none := fun b h => by
    rcases h with (((z | w) | e) | i) | (e | m)
    · exact .inl (.inl (.inl z))
    · exact .inl (.inr w)
    · exact .inr (e ▸ facc)
    · exact .inl (.inl (.inr i))
    · exact .inr (e ▸ fC)
    · exact .inl (.inr (hML b m))
  have lv₄ : ∀ b, un (ad Zc I) Wc b → ∃ o, s₄.heap.get? b = some o := fun b h => by
    rcases h with (((z | w) | e) | i) | (e | m)
    · obtain ⟨o, q⟩ := lv₂ b (.inl (.inl z)); exact ⟨o, keep b o q⟩
    · obtain ⟨o, q⟩ := lv₂ b (.inr w); exact ⟨o, keep b o q⟩
    · exact e ▸ list_live iacc.isList
    · obtain ⟨o, q⟩ := lvI b i; exact ⟨o, keep b o q⟩
    · exact e ▸ ns_live hns
    · obtain ⟨o, q⟩ := lv₂ b (.inr (hML b m)); exact ⟨o, keep b o q⟩
  have g₄ : GRel c γ₁ (un (ad Zc I) Wc) s₄ := R₂.g.more G₄ up down lv₄
  have cy₄ : Carry (un (ad Z I) W₂) s₂.heap (un (ad Zc I) Wc) h₄ := ⟨fun b o _ e => keep b o e, fun b o n e y => (down b y).elim n fun q => by rw [q] at e; cases e⟩
  let env' : Env := { newEnv scope C env.globals cl env.qual none .none (some env) env.builtins with scope := relabel scope env }
  have henv' : env'.scope = relS scope S := by rw [← hsc]; rfl
  have hlc : env'.locals = C := rfl
  have hsound : ∀ x a, cl.lookup x = some a → env.cells.lookup x = some a := fun x a e => by rw [← hcl] at e; exact clL_sound hlk (fun _ _ e => by simp at e) x a e
  have R₄ : Rel c γ₁ env' Wc (ad Zc I) (capV scope ρ₁) s₄ := by
    refine ⟨R.ok, g₄, hk, R.gl, R.bl, ⟨_, hns⟩, .inl rfl, fun b m => .inr m, fun x y a e1 e2 => R.cinj x y a (hsound x a e1) (hsound y a e2), fun x a e => ?_, fun e => (by cases e), fun x u e => ?_, fun x y ds es v e => ?_⟩
    · obtain ⟨v, q⟩ := R₂.cell x a (hsound x a e); exact ⟨v, q.keeps keep⟩
    · obtain ⟨d, rfl, hx, hd⟩ := capV_inv e
      obtain ⟨v, a, r⟩ := R₂.vars x _ hd
      have hm := mem_of_lookupN hx
      refine ⟨v, ?_, Rep.carry cy₄ r⟩
      unfold VarAt at a
      rw [kcell x hm] at a
      obtain ⟨b, l, q⟩ := a
      have hkx : env'.kindOf x = some .cell := by
        unfold Env.kindOf; rw [henv']
        refine lookup_relS_cell hSk hx ?_
        have := kcell x hm
        unfold Env.kindOf at this; rwa [hsc] at this
      have hb : env'.cells.lookup x = some b := by
        show cl.lookup x = some b
        have h1 : (cl.lookup x).isSome = true := by rw [← hcl]; exact clL_has hm
        obtain ⟨b', hb'⟩ := Option.isSome_iff_exists.mp h1
        rw [hb', ← hsound x b' hb', l]
      unfold VarAt
      rw [hkx]
      exact ⟨b, hb, q.keeps keep⟩
    · obtain ⟨d, h, _⟩ := capV_inv e; cases h
  have a₄ : AccAt c Wc (ad Zc I) h₄ acc [] := ⟨.inl (.inr rfl), fun w => w.elim nCa fun m => nacc acc (.inr (hML acc m)) rfl, fun m => nacc acc (.inr (hML acc m)) rfl, [], iacc, .nil⟩
  have it₄ : It (un (ad Zc I) Wc) h₄ p it I its := it₂.carry cy₄ fun b _ o e => keep b o e
  have loop : codeAny (model c.prog c.w) A (.compLoop (.ListComp elt (⟨tgt, iter, ifs, 0⟩ :: rest) scope pos) 0 (.ref it) (.ref acc) env') (compPost (model c.prog c.w) A E use Q (.ref acc) C) s₄ := by
    refine compR_run h A env' Wc Zc I it acc p s₄ [] _ tgt iter ifs henv' rm rfl ?_ hp nWI nZI R₄ it₄ a₄ (.inr rfl) (by simpa using hl) fun s₅ W₅ x₅ R₅ a₅ => ?_
    · rcases hr with rfl | ⟨t, i, f, rfl, hh⟩
      · exact .inl rfl
      · exact .inr ⟨t, i, f, rfl, hh⟩
    · rw [List.nil_append] at a₅
      let W' : Addr → Prop := fun b => W₂ b ∨ b = acc
      have subX : ∀ b, un (fun b => Z b ∨ b = C) W' b → un Zc W₅ b := fun b h => by
        rcases h with (z | e) | (w | e)
        · exact .inl (.inl (.inl z))
        · exact .inr (e ▸ R₅.wl)
        · exact .inl (.inl (.inr w))
        · exact .inl (.inr e)
      have g₆ : GRel c γ₂ (un (fun b => Z b ∨ b = C) W') s₅ := R₅.g.less subX fun b m => .inr (.inl (hML b m))
      have kp : ∀ b o, ¬ ML c b → ¬ b ∈ I → s₂.heap.get? b = some o → s₅.heap.get? b = some o := fun b o n ni e => by
        have nbC : b ≠ C := fun q => by rw [q, fC] at e; cases e
        have nba : b ≠ acc := fun q => by rw [q, facc] at e; cases e
        exact x₅.keep b o (fun w => w.elim nbC n) (fun q => q.elim nba ni) (keep b o e)
      have hK : ∀ b, b ∈ I → Hid c s₂.heap b := fun b hb => (it₂.place b hb).hid R₂.g
      have R₆ : Rel c γ₂ env W' (fun b => Z b ∨ b = C) ρ₁ s₅ := R₂.behind hK (fun b hb => .inr hb) kp g₆ (fun _ h => .inl h) (fun b h => by
        rcases h with (z | e) | (w | e)
        · exact .inl (.inl (.inl z))
        · exact .inr (e ▸ fC)
        · exact .inl (.inr w)
        · exact .inr (e ▸ facc)) fun b h => h.elim (fun z => .inl (.inl z)) fun e => .inr (e ▸ fC)
      have nm : ∀ x v, VarAt env s₂.heap x v → VarAt env s₅.heap x v := R₂.behind_names hK kp
      have fs : ∀ b, s₂.heap.get? b = none → s.heap.get? b = none := fun b e => by
        cases q : s.heap.get? b with
        | none => rfl
        | some o => obtain ⟨o', e'⟩ := x₂.toExt.live b o q; rw [e] at e'; cases e'
      refine q acc C s₅ W' ⟨⟨fun b o e => ?_, fun b w => ?_, fun b o n e => ?_⟩, fun x v a => nm x v (x₂.names x v a)⟩ R₆ ⟨?_, fun x es v' hx hv e => ?_⟩ (fs acc facc) (fs C fC) (fun w => w.elim (fun w => nC C (.inr w) rfl) fun e => nCa e.symm) (fun z => nC C (.inl (.inl z)) rfl) R₅.ns
      · obtain ⟨o', e'⟩ := x₂.toExt.live b o e
        by_cases hm : ML c b
        · exact g₆.live b (.inr (.inl (hML b hm)))
        · exact ⟨o', kp b o' hm (fun q => by rw [fI b q] at e; cases e) e'⟩
      · rcases w with w | e
        · exact x₂.new b w
        · exact .inr (fs b (e ▸ facc))
      · refine kp b o (fun m => n ?_) (fun q => by rw [fI b q] at e; cases e) (x₂.keep b o n e)
        exact R.wM b m
      · obtain ⟨vs, i, rs⟩ := a₅.at_
        exact ⟨acc, vs, rfl, .inr rfl, fun z => z.elim (fun z => nacc acc (.inl (.inl z)) rfl) nCa, a₅.m, i, rs.carry (Carry.less subX)⟩
      · obtain ⟨v, a, l, vs, rfl, w, _⟩ := R₂.vars x _ hx
        have := VarAt.unique (nm _ _ a) hv
        subst this
        cases e
        exact nacc acc (.inr w) rfl
  exact compStart_run rfl loop (it₄.self (s := s₄) loop)
end
section
variable {c : Cx} {k : Nat} {S : Scope} {ρ ρ' ρ₁ ρ₂ ρ₃ : Vars} {γ γ' γ₁ γ₂ γ₃ : GS} {fn : Bool}
theorem Rel.dropC {env : Env} {W Z : Addr → Prop} {s : Shared} {C : Addr} {h' : Heap} (R : Rel c γ env W (fun b => Z b ∨ b = C) ρ s) (hs : Heap.SameBut C s.heap h') (nZ : ¬ Z C) (nW : ¬ W C) (hns : ∃ m, s.heap.Ns C m) :
    Rel c γ env W Z ρ { s with heap := h' } ∧ (∀ x v, VarAt env s.heap x v → VarAt env h' x v) ∧ (∀ v u, VRep c (fun b => Z b ∨ b = C) W s.heap v u → VRep c Z W h' v u) := by
  have nL : env.locals ≠ C := fun e => nW (e ▸ R.wl)
  have nM : ¬ c.M C := fun m => nW (R.wM C m)
  have sub : ∀ b, un Z W b → un (fun b => Z b ∨ b = C) W b := fun b h => h.imp .inl id
  have nX : ¬ un Z W C := fun h => h.elim nZ nW
  have cy : Carry (un (fun b => Z b ∨ b = C) W) s.heap (un Z W) h' := ⟨fun b o n e => (hs.2 b fun q => n (.inl (.inr q))).trans e, fun b o n _ y => n (sub b y)⟩
  have g := R.g.drop hs (.inl (.inr rfl)) nM sub nX fun b m => .inr (R.wM b m)
  have kc : ∀ a v, s.heap.IsCell a v → h'.IsCell a v := fun a v n => n.sameBut hs fun e => by obtain ⟨m, hm⟩ := hns; exact cell_ne_ns n hm e
  have kl : ∀ l items, W l → OL s.heap l items → OL h' l items := fun l items w i => ol_at i fun o e => (hs.2 l fun q => nW (q ▸ w)).trans e
  have nm : ∀ x v, VarAt env s.heap x v → VarAt env h' x v := fun x v a => by
    unfold VarAt at a ⊢
    split
    · rename_i e; rw [e] at a; obtain ⟨m', n', q⟩ := a; exact ⟨m', n'.sameBut hs nL, q⟩
    · rename_i e; rw [e] at a; obtain ⟨b, l, q⟩ := a; exact ⟨b, l, kc _ _ q⟩
    · rename_i e; rw [e] at a; obtain ⟨b, l, q⟩ := a; exact ⟨b, l, kc _ _ q⟩
    · split at a <;> simp_all
  have vr : ∀ v u, VRep c (fun b => Z b ∨ b = C) W s.heap v u → VRep c Z W h' v u := fun v u r => r.carry cy (fun _ h => h) (fun l _ n _ z => n (.inl z)) fun l w _ items i => kl l items w i
  refine ⟨⟨R.ok, g, R.kind, R.gl, R.bl, let ⟨m, n⟩ := R.ns; ⟨m, n.sameBut hs nL⟩, R.wl, R.wM, R.cinj, fun x a q => let ⟨v, n⟩ := R.cell x a q; ⟨v, kc _ _ n⟩, R.cw, fun x u q => let ⟨v, a, r⟩ := R.vars x u q; ⟨v, nm _ _ a, vr v u r⟩, fun x y ds es v q1 q2 a1 a2 => ?_⟩, nm, vr⟩
  obtain ⟨v1, b1, _⟩ := R.vars x _ q1
  obtain ⟨v2, b2, _⟩ := R.vars y _ q2
  have e1 := VarAt.unique (nm _ _ b1) a1
  have e2 := VarAt.unique (nm _ _ b2) a2
  subst e1; subst e2
  exact R.oinj x y ds es _ q1 q2 b1 b2
theorem ext_dropC {W W' W₀ : Addr → Prop} {s₀ s s' : Shared} {C : Addr} {h' : Heap} (x : Ext W₀ s₀ W s') (hs : Heap.SameBut C s'.heap h') (f : s₀.heap.get? C = none) : Ext W₀ s₀ W { s' with heap := h' } :=
  ⟨fun b o e => by
    obtain ⟨o', e'⟩ := x.live b o e
    exact ⟨o', (hs.2 b fun q => by rw [q, f] at e; cases e).trans e'⟩, x.new, fun b o n e => (hs.2 b fun q => by rw [q, f] at e; cases e).trans (x.keep b o n e)⟩
noncomputable def RestOk (rest : List Comprehension) : Prop := rest = [] ∨ ∃ t i f, rest = [⟨t, i, f, 0⟩] ∧ ∀ env x, foldedSetIterable i env x = pure x
theorem restOk0 : RestOk [] := .inl rfl
theorem restOk1 {t i : Expr} {f : List Expr} (h : ∀ env x, foldedSetIterable i env x = pure x := by intro _ _; rfl) : RestOk [⟨t, i, f, 0⟩] := .inr ⟨t, i, f, rfl, h⟩
theorem ev_listcomp {elt tgt iter : Expr} {ifs : List Expr} {rest : List Comprehension} {scope : Scope} {pos : Pos} {p : Bool} {its out : List D} (hi : EvIt c k S ρ γ iter p its ρ₁ γ₁) (hok : compOk scope S = true)
    (hfr : ∀ n, (n, NameKind.free) ∈ scope.names → ∃ u, ρ n = some u) (hl : out.length ≤ 16777216) (h : CompR c k (relS scope S) elt (⟨tgt, iter, ifs, 0⟩ :: rest) 0 its (capV scope ρ₁) γ₁ out ρ₂ γ₂)
    (hr : RestOk rest) (hp : (p = true → isTup tgt = true) := by first | (intro h; cases h; done) | (intro _; rfl)) (hs : ∀ env x, foldedSetIterable iter env x = pure x := by intro _ _; rfl) : EvE c k S ρ γ (.ListComp elt (⟨tgt, iter, ifs, 0⟩ :: rest) scope pos) (.own out) ρ₁ γ₂ := by
  intro A env W Z s Q E hsc rm R q
  show wpAny _ A (eval (.ListComp elt (⟨tgt, iter, ifs, 0⟩ :: rest) scope pos) env) Q E s
  rw [eval_ListComp]
  refine listcomp_core hi hok hfr hp hr hs hl h A env W Z s none Q E hsc rm R fun acc C s₅ W' x R₅ ok fa fC nW nZ hns => ?_
  obtain ⟨m, hm⟩ := hns
  refine ⟨m, hm, fun h' hs' => ?_⟩
  obtain ⟨R₆, nm, vr⟩ := R₅.dropC hs' nZ nW ⟨m, hm⟩
  refine q (.ref acc) _ W' ⟨ext_dropC (W' := W) (s := s) x.toExt hs' fC, fun y v a => nm y v (x.names y v a)⟩ R₆ ⟨vr _ _ ok.1, fun y es v' hy hv e => ?_⟩ fun l e => by cases e; exact fa
  obtain ⟨v, a, _⟩ := R₅.vars y _ hy
  have := VarAt.unique (nm _ _ a) hv
  subst this
  exact ok.2 y es v hy a e
theorem ex_assign_comp {y : Str} {py : Pos} {elt tgt iter : Expr} {ifs : List Expr} {rest : List Comprehension} {scope : Scope} {pos spos : Pos} {p : Bool} {its out : List D} (hi : EvIt c k S ρ γ iter p its ρ₁ γ₁) (hok : compOk scope S = true)
    (hfr : ∀ n, (n, NameKind.free) ∈ scope.names → ∃ u, ρ n = some u) (hl : out.length ≤ 16777216) (h : CompR c k (relS scope S) elt (⟨tgt, iter, ifs, 0⟩ :: rest) 0 its (capV scope ρ₁) γ₁ out ρ₂ γ₂) (hr : RestOk rest)
    (hsw : ∀ env, env.scope = S → swapsWith (.ListComp elt (⟨tgt, iter, ifs, 0⟩ :: rest) scope pos) (some (.Name y py)) spos.line env = pure true)
    (ht : As c S true (.Name y py) (.own out) ρ₁ ρ₃) (hp : (p = true → isTup tgt = true) := by first | (intro h; cases h; done) | (intro _; rfl)) (hs : ∀ env x, foldedSetIterable iter env x = pure x := by intro _ _; rfl) :
    ExS c k S ρ γ (.Assign [.Name y py] (.ListComp elt (⟨tgt, iter, ifs, 0⟩ :: rest) scope pos) spos) (.next ρ₃ γ₂) := by
  intro A env W Z s Q E hsc hf rm R q
  show wpAny _ A (exec (.Assign [.Name y py] (.ListComp elt (⟨tgt, iter, ifs, 0⟩ :: rest) scope pos) spos) env) Q E s
  rw [exec_Assign_Name_used _ _ _ _ (hsw env hsc)]
  refine wpAny_bind (wpAny_standAt (wpAny_bind ?_))
  show wpAny _ A (do let _ ← comprehension (.ListComp elt (⟨tgt, iter, ifs, 0⟩ :: rest) scope pos) scope env _ (newList []) false (eval iter env) (some (assign (.Name y py) env))) _ _ s
  refine wpAny_bind (wpAny_mono (listcomp_core hi hok hfr hp hr hs hl h A env W Z s (some (assign (.Name y py) env)) (fun _ s' => Q .next s') E hsc rm R fun acc C s₅ W' x R₅ ok fa fC nW nZ hns => ?_) (fun _ s' hq => wpAny_pure (wpAny_pure hq)) fun _ _ e => e)
  show wpAny _ A (assign (.Name y py) env (.ref acc)) _ _ _
  refine ht A γ₂ env W' _ s₅ _ _ _ hsc (fun _ => hf) rm.1 R₅ ok fun s₆ x₆ R₆ => ?_
  obtain ⟨m, hm⟩ := hns
  have hm₆ : s₆.heap.Ns C m := hm.at' fun o e => x₆.keep C o nW e
  refine ⟨m, hm₆, fun h' hs' => ?_⟩
  obtain ⟨R₇, _, _⟩ := R₆.dropC hs' nZ nW ⟨m, hm₆⟩
  exact q _ W' (ext_dropC (W' := W) (s := s) (x.toExt.trans x₆) hs' fC) R₇
end
theorem Room.hu {A : Around} {k : Nat} (r : Room A k) : A.units + 100 < cLine := by have := r.2.2; omega
section
variable {c : Cx} {k : Nat} {X : Addr → Prop} {s : Shared}
theorem tokG (s : Shared) (t : Nat) : Grow s { s with toks := t } := ⟨fun _ _ e => e, rfl, rfl, rfl⟩
theorem op_int2 {op : Value → Value → Sem Value} {a b r : Int} (h : ∀ (A : Around) (s : Shared) (t u : Tok) (Q : Value → Shared → Prop) (E : Value → Shared → Prop), A.handled = none → Q (.int r s.toks) { s with toks := s.toks + 1 } → wpAny (model c.prog c.w) A (op (.int a t) (.int b u)) Q E s) : Op c k (op2 op) [.int a, .int b] (.d (.int r)) := by
  intro A s X vs Q E rm ok base lv rs q
  obtain ⟨v, vs, rfl, r1, rs⟩ := rs.cons_inv
  obtain ⟨w, vs, rfl, r2, rs⟩ := rs.cons_inv
  cases rs
  obtain ⟨t, rfl⟩ := rep_int r1
  obtain ⟨u, rfl⟩ := rep_int r2
  exact h A s t u Q E rm.1 (q _ _ (tokG s _) (.int _ _))
theorem op_bool2 {op : Value → Value → Sem Value} {a b : Int} {r : Bool} (h : ∀ (A : Around) (s : Shared) (t u : Tok) (Q : Value → Shared → Prop) (E : Value → Shared → Prop), A.handled = none → Q (.bool r) s → wpAny (model c.prog c.w) A (op (.int a t) (.int b u)) Q E s) : Op c k (op2 op) [.int a, .int b] (.d (.bool r)) := by
  intro A s X vs Q E rm ok base lv rs q
  obtain ⟨v, vs, rfl, r1, rs⟩ := rs.cons_inv
  obtain ⟨w, vs, rfl, r2, rs⟩ := rs.cons_inv
  cases rs
  obtain ⟨t, rfl⟩ := rep_int r1
  obtain ⟨u, rfl⟩ := rep_int r2
  exact h A s t u Q E rm.1 (q _ _ (Grow.refl s) (.bool _))
theorem op_add {a b : Int} : Op c k (op2 (binaryOp .Add)) [.int a, .int b] (.d (.int (a + b))) := op_int2 fun A s t u Q E hh q => P.add_int q
theorem op_sub {a b : Int} : Op c k (op2 (binaryOp .Sub)) [.int a, .int b] (.d (.int (a - b))) := op_int2 fun A s t u Q E hh q => P.sub_int q
theorem op_mul {a b : Int} (h : IntMulOk a b) : Op c k (op2 (binaryOp .Mult)) [.int a, .int b] (.d (.int (a * b))) := op_int2 fun A s t u Q E hh q => P.mul_int q h
theorem op_div {a b : Int} (hb : 0 < b) (hb' : b < 1073741824) : Op c k (op2 (binaryOp .FloorDiv)) [.int a, .int b] (.d (.int (a / b))) := op_int2 fun A s t u Q E hh q => floordiv_int (by omega) (by rw [Int.fdiv_eq_ediv_of_nonneg a (by omega)]; exact q) (.inl (PyProof.noPylong_small (by omega)))
theorem op_mod {a b : Int} (hb : 0 < b) : Op c k (op2 (binaryOp .Mod)) [.int a, .int b] (.d (.int (a % b))) := op_int2 fun A s t u Q E hh q => mod_int' (by omega) (by rw [Int.fmod_eq_emod_of_nonneg a (by omega)]; exact q)
theorem op_pow {a n : Int} (hn : 0 ≤ n) (hsz : (Builtin.Int.intBits a : Int) * n ≤ 2 ^ 27) : Op c k (op2 (binaryOp .Pow)) [.int a, .int n] (.d (.int (a ^ n.toNat))) := op_int2 fun A s t u Q E hh q => pow_int hn hsz q
theorem op_lt {a b : Int} : Op c k (op2 (compareOp .Lt)) [.int a, .int b] (.d (.bool (decide (a < b)))) := op_bool2 fun A s t u Q E hh q => P.lt_int q
theorem op_le {a b : Int} : Op c k (op2 (compareOp .LtE)) [.int a, .int b] (.d (.bool (decide (a ≤ b)))) := op_bool2 fun A s t u Q E hh q => P.le_int q
theorem op_gt {a b : Int} : Op c k (op2 (compareOp .Gt)) [.int a, .int b] (.d (.bool (decide (a > b)))) := op_bool2 fun A s t u Q E hh q => P.gt_int q
theorem op_ge {a b : Int} : Op c k (op2 (compareOp .GtE)) [.int a, .int b] (.d (.bool (decide (a ≥ b)))) := op_bool2 fun A s t u Q E hh q => P.ge_int q
theorem op_eqi {a b : Int} : Op c k (op2 (compareOp .Eq)) [.int a, .int b] (.d (.bool (decide (a = b)))) := op_bool2 fun A s t u Q E hh q => P.eq_int (by rw [show (a == b) = decide (a = b) from rfl]; exact q)
theorem op_nei {a b : Int} : Op c k (op2 (compareOp .NotEq)) [.int a, .int b] (.d (.bool (decide (a ≠ b)))) := op_bool2 fun A s t u Q E hh q => P.ne_int (by rw [show (a != b) = decide (a ≠ b) by by_cases h : a = b <;> simp [h]]; exact q)
theorem op_neg {a : Int} : Op c k (op1 (unaryOp .USub)) [.int a] (.d (.int (-a))) := by
  intro A s X vs Q E rm ok base lv rs q
  obtain ⟨v, vs, rfl, r1, rs⟩ := rs.cons_inv
  cases rs
  obtain ⟨t, rfl⟩ := rep_int r1
  exact P.neg_int (q _ _ (tokG s _) (.int _ _))
theorem mulOk_small {a b : Int} (h : (-1000000000 ≤ a ∧ a ≤ 1000000000) ∨ (-1000000000 ≤ b ∧ b ≤ 1000000000)) : IntMulOk a b := by
  rcases h with ⟨h1, h2⟩ | ⟨h1, h2⟩
  · exact .of_left (intBits_le_64 (by omega) (by omega))
  · exact .of_right (intBits_le_64 (by omega) (by omega))
end
mutual
/-- data as the library reads it -/
noncomputable def D.py : D → PyData
  | .none => .none
  | .bool b => .bool b
  | .int i => .int i
  | .str x => .str x
  | .tuple ds => .tuple (pys ds)
  | .list ds => .list (pys ds)
  | _ => .none
noncomputable def pys : List D → List PyData
  | [] => []
  | d :: ds => d.py :: pys ds
end
mutual
/-- plain data, and not too deep -/
noncomputable def D.pure : Nat → D → Bool
  | _, .none => true
  | _, .bool _ => true
  | _, .int _ => true
  | _, .str x => (D.str x).py.canLay0
  | n + 1, .tuple ds => pures n ds
  | n + 1, .list ds => pures n ds
  | _, _ => false
noncomputable def pures : Nat → List D → Bool
  | _, [] => true
  | n, d :: ds => d.pure n && pures n ds
end
mutual
theorem rep_reads {X : Addr → Prop} {h : Heap} : ∀ {v : Value} {d : D} {n : Nat}, Rep X h v d → d.pure n = true → ∃ as, Reads h v d.py as
  | _, _, _, .none, _ => ⟨_, .none⟩
  | _, _, _, .bool b, _ => ⟨_, .bool b⟩
  | _, _, _, .int i t, _ => ⟨_, .int i t⟩
  | _, _, _, .str x t, _ => ⟨_, .str x t⟩
  | _, _, n, .tuple _ ⟨_, e⟩ rs, hp => by
    cases n with
    | zero => simp [D.pure] at hp
    | succ n =>
      obtain ⟨as, r⟩ := reps_reads rs (n := n) (by simpa [D.pure] using hp)
      exact ⟨_, by unfold D.py; exact .tuple e rfl rfl r⟩
  | _, _, n, .list _ ⟨_, e⟩ rs, hp => by
    cases n with
    | zero => simp [D.pure] at hp
    | succ n =>
      obtain ⟨as, r⟩ := reps_reads rs (n := n) (by simpa [D.pure] using hp)
      exact ⟨_, by unfold D.py; exact .list e rfl rfl r⟩
  | _, _, n, .wlist _ _ _, hp => by cases n <;> simp [D.pure] at hp
  | _, _, n, .range _ _, hp => by cases n <;> simp [D.pure] at hp
  | _, _, n, .raw _, hp => by cases n <;> simp [D.pure] at hp
  | _, _, n, .obj _ _, hp => by cases n <;> simp [D.pure] at hp
  | _, _, n, .inst _ _ _ _ _ _ _, hp => by cases n <;> simp [D.pure] at hp
  | _, _, n, .exc _ _ _ _ _ _, hp => by cases n <;> simp [D.pure] at hp
theorem reps_reads {X : Addr → Prop} {h : Heap} : ∀ {vs : List Value} {ds : List D} {n : Nat}, Reps X h vs ds → pures n ds = true → ∃ as, ReadsAll h vs (pys ds) as
  | _, _, _, .nil, _ => ⟨_, .nil⟩
  | _, _, n, .cons (d := d) (ds := ds) r rs, hp => by
    have hp' : d.pure n = true ∧ pures n ds = true := by simpa [pures] using hp
    obtain ⟨as, q⟩ := rep_reads r hp'.1
    obtain ⟨bs, q'⟩ := reps_reads rs hp'.2
    exact ⟨_, .cons q q'⟩
end
mutual
theorem pure_lay : ∀ {d : D} {n : Nat}, d.pure n = true → d.py.canLay0 = true ∧ d.py.depth ≤ n
  | .none, _, _ => ⟨rfl, Nat.zero_le _⟩
  | .bool _, _, _ => ⟨rfl, Nat.zero_le _⟩
  | .int _, _, _ => ⟨rfl, Nat.zero_le _⟩
  | .str x, n, h => ⟨by cases n <;> exact h, Nat.zero_le _⟩
  | .tuple ds, 0, h => by simp [D.pure] at h
  | .tuple ds, n + 1, h => by
    obtain ⟨a, b⟩ := pures_lay (ds := ds) (n := n) (by simpa [D.pure] using h)
    exact ⟨a, Nat.succ_le_succ b⟩
  | .list ds, 0, h => by simp [D.pure] at h
  | .list ds, n + 1, h => by
    obtain ⟨a, b⟩ := pures_lay (ds := ds) (n := n) (by simpa [D.pure] using h)
    exact ⟨a, Nat.succ_le_succ b⟩
  | .wlist _, n, h => by cases n <;> simp [D.pure] at h
  | .range _ _, n, h => by cases n <;> simp [D.pure] at h
  | .raw _, n, h => by cases n <;> simp [D.pure] at h
  | .obj _ _, n, h => by cases n <;> simp [D.pure] at h
  | .inst _ _ _, n, h => by cases n <;> simp [D.pure] at h
  | .exc _ _, n, h => by cases n <;> simp [D.pure] at h
theorem pures_lay : ∀ {ds : List D} {n : Nat}, pures n ds = true → PyData.canLayAll0 (pys ds) = true ∧ PyData.depthAll (pys ds) ≤ n
  | [], _, _ => ⟨rfl, Nat.zero_le _⟩
  | d :: ds, n, h => by
    have h' : d.pure n = true ∧ pures n ds = true := by simpa [pures] using h
    obtain ⟨a, b⟩ := pure_lay h'.1
    obtain ⟨a', b'⟩ := pures_lay h'.2
    refine ⟨?_, ?_⟩
    · show (PyData.canLay0 d.py && PyData.canLayAll0 (pys ds)) = true
      rw [a, a']; rfl
    · exact Nat.max_le.mpr ⟨b, b'⟩
end
theorem pure_shaped {d : D} {n : Nat} (h : d.pure n = true) (hn : n ≤ 64) : SeqAt.shaped d.py = true := by
  obtain ⟨a, b⟩ := pure_lay h
  unfold SeqAt.shaped
  rw [a, Bool.true_and, decide_eq_true_eq]
  omega
mutual
theorem eqv_refl : ∀ {d : D} {n : Nat}, d.pure n = true → PyData.eqv d.py d.py = true
  | .none, _, _ => rfl
  | .bool b, _, _ => by cases b <;> rfl
  | .int i, _, _ => by show (i == i) = true; simp
  | .str x, n, h => by show (x == x) = true; simp
  | .tuple ds, 0, h => by simp [D.pure] at h
  | .tuple ds, n + 1, h => eqvs_refl (ds := ds) (n := n) (by simpa [D.pure] using h)
  | .list ds, 0, h => by simp [D.pure] at h
  | .list ds, n + 1, h => eqvs_refl (ds := ds) (n := n) (by simpa [D.pure] using h)
  | .wlist _, n, h => by cases n <;> simp [D.pure] at h
  | .range _ _, n, h => by cases n <;> simp [D.pure] at h
  | .raw _, n, h => by cases n <;> simp [D.pure] at h
  | .obj _ _, n, h => by cases n <;> simp [D.pure] at h
  | .inst _ _ _, n, h => by cases n <;> simp [D.pure] at h
  | .exc _ _, n, h => by cases n <;> simp [D.pure] at h
theorem eqvs_refl : ∀ {ds : List D} {n : Nat}, pures n ds = true → PyData.eqvAll (pys ds) (pys ds) = true
  | [], _, _ => rfl
  | d :: ds, n, h => by
    have h' : d.pure n = true ∧ pures n ds = true := by simpa [pures] using h
    show (PyData.eqv d.py d.py && PyData.eqvAll (pys ds) (pys ds)) = true
    rw [eqv_refl h'.1, eqvs_refl h'.2]; rfl
end
section
variable {c : Cx} {k : Nat}
theorem op_eq {d e : D} {n : Nat} (hd : d.pure n = true) (he : e.pure n = true) (hn : n ≤ 64 := by decide) : Op c k (op2 (compareOp .Eq)) [d, e] (.d (.bool (PyData.eqv d.py e.py))) := by
  intro A s X vs Q E rm ok base lv rs q
  obtain ⟨v, vs, rfl, r1, rs⟩ := rs.cons_inv
  obtain ⟨w, vs, rfl, r2, rs⟩ := rs.cons_inv
  cases rs
  obtain ⟨as, x⟩ := rep_reads r1 hd
  obtain ⟨bs, y⟩ := rep_reads r2 he
  exact eq_dataH x y (pure_shaped hd hn) (pure_shaped he hn) (by have := rm.hu; omega) (q _ _ (Grow.refl s) (.bool _))
theorem op_ne {d e : D} {n : Nat} (hd : d.pure n = true) (he : e.pure n = true) (hn : n ≤ 64 := by decide) : Op c k (op2 (compareOp .NotEq)) [d, e] (.d (.bool (!PyData.eqv d.py e.py))) := by
  intro A s X vs Q E rm ok base lv rs q
  obtain ⟨v, vs, rfl, r1, rs⟩ := rs.cons_inv
  obtain ⟨w, vs, rfl, r2, rs⟩ := rs.cons_inv
  cases rs
  obtain ⟨as, x⟩ := rep_reads r1 hd
  obtain ⟨bs, y⟩ := rep_reads r2 he
  exact ne_dataH x y (pure_shaped hd hn) (pure_shaped he hn) (by have := rm.hu; omega) (q _ _ (Grow.refl s) (.bool _))
theorem op_eq_refl {d : D} {n : Nat} (hd : d.pure n = true) (hn : n ≤ 64 := by decide) : Op c k (op2 (compareOp .Eq)) [d, d] (.d (.bool true)) := by
  have := op_eq (c := c) (k := k) hd hd hn; rwa [eqv_refl hd] at this
theorem op_ne_refl {d : D} {n : Nat} (hd : d.pure n = true) (hn : n ≤ 64 := by decide) : Op c k (op2 (compareOp .NotEq)) [d, d] (.d (.bool false)) := by
  have := op_ne (c := c) (k := k) hd hd hn; rwa [eqv_refl hd] at this
theorem op_in_list {d : D} {es : List D} {n : Nat} (hd : d.pure n = true) (he : pures n es = true) (hn : n ≤ 60 := by decide) : Op c k (op2 (compareOp .In)) [d, .list es] (.d (.bool ((pys es).any fun y => PyData.eqv y d.py))) := by
  intro A s X vs Q E rm ok base lv rs q
  obtain ⟨v, vs, rfl, r1, rs⟩ := rs.cons_inv
  obtain ⟨w, vs, rfl, r2, rs⟩ := rs.cons_inv
  cases rs
  obtain ⟨as, x⟩ := rep_reads r1 hd
  obtain ⟨bs, y⟩ := rep_reads (n := n + 1) r2 (by simpa [D.pure] using he)
  exact SeqAt.in_list_reads y x (pures_lay he).1 (pure_lay hd).1 (by have := rm.hu; have := (pure_lay hd).2; omega) (q _ _ (Grow.refl s) (.bool _))
theorem op_in_tuple {d : D} {es : List D} {n : Nat} (hd : d.pure n = true) (he : pures n es = true) (hn : n ≤ 60 := by decide) : Op c k (op2 (compareOp .In)) [d, .tuple es] (.d (.bool ((pys es).any fun y => PyData.eqv y d.py))) := by
  intro A s X vs Q E rm ok base lv rs q
  obtain ⟨v, vs, rfl, r1, rs⟩ := rs.cons_inv
  obtain ⟨w, vs, rfl, r2, rs⟩ := rs.cons_inv
  cases rs
  obtain ⟨as, x⟩ := rep_reads r1 hd
  obtain ⟨bs, y⟩ := rep_reads (n := n + 1) r2 (by simpa [D.pure] using he)
  exact SeqAt.in_tuple_reads y x (pures_lay he).1 (pure_lay hd).1 (by have := rm.hu; have := (pure_lay hd).2; omega) (q _ _ (Grow.refl s) (.bool _))
theorem op_isNone {d : D} {b : Bool} (h : ∀ X h v, Rep X h v d → plainIs v .none = true ∧ (v == .none) = b) : Op c k (op2 (compareOp .Is)) [d, .none] (.d (.bool b)) := by
  intro A s X vs Q E rm ok base lv rs q
  obtain ⟨v, vs, rfl, r1, rs⟩ := rs.cons_inv
  obtain ⟨w, vs, rfl, r2, rs⟩ := rs.cons_inv
  cases rs
  have := rep_none r2; subst this
  obtain ⟨h1, h2⟩ := h X s.heap v r1
  exact wpAny_is_plain h1 (by rw [h2]; exact q _ _ (Grow.refl s) (.bool _))
theorem op_isNotNone {d : D} {b : Bool} (h : ∀ X h v, Rep X h v d → plainIs v .none = true ∧ (v == .none) = b) : Op c k (op2 (compareOp .IsNot)) [d, .none] (.d (.bool (!b))) := by
  intro A s X vs Q E rm ok base lv rs q
  obtain ⟨v, vs, rfl, r1, rs⟩ := rs.cons_inv
  obtain ⟨w, vs, rfl, r2, rs⟩ := rs.cons_inv
  cases rs
  have := rep_none r2; subst this
  obtain ⟨h1, h2⟩ := h X s.heap v r1
  exact wpAny_isNot_plain h1 (by rw [h2]; exact q _ _ (Grow.refl s) (.bool _))
theorem none_isNone : ∀ (X : Addr → Prop) (h : Heap) (v : Value), Rep X h v .none → plainIs v .none = true ∧ (v == .none) = true := fun X h v r => by rw [rep_none r]; exact ⟨rfl, rfl⟩
theorem int_isNone {i : Int} : ∀ (X : Addr → Prop) (h : Heap) (v : Value), Rep X h v (.int i) → plainIs v .none = true ∧ (v == .none) = false := fun X h v r => by obtain ⟨t, rfl⟩ := rep_int r; exact ⟨rfl, rfl⟩
theorem tuple_isNone {ds : List D} : ∀ (X : Addr → Prop) (h : Heap) (v : Value), Rep X h v (.tuple ds) → plainIs v .none = true ∧ (v == .none) = false := fun X h v r => by obtain ⟨t, vs, rfl, _⟩ := rep_tuple r; exact ⟨rfl, rfl⟩
end
noncomputable def callOp (f : Value) : List Value → Sem Value := fun vs => call f vs
theorem IntsAre.exists {X : Addr → Prop} {h : Heap} : ∀ {vs : List Value} {ns : List Int}, Reps X h vs (ns.map D.int) → IntsAre vs ns
  | _, [], r => by cases r; exact .nil
  | _, n :: ns, r => by
    cases r with
    | cons a b => obtain ⟨t, rfl⟩ := rep_int a; exact .cons n t (IntsAre.exists b)
theorem seqIdx {k : Int} {n : Nat} (h0 : 0 ≤ k) (h1 : k < n) : seqIndex? k n = some k.toNat := by
  unfold seqIndex?
  rw [if_neg (by omega : ¬ k < 0)]
  show (if (decide (0 ≤ k) && decide (k < n)) = true then some k.toNat else none) = some k.toNat
  rw [if_pos (by simp [h0, h1])]
section
variable {c : Cx} {k : Nat} {S : Scope} {ρ ρ' ρ₁ ρ₂ ρ₃ : Vars} {γ γ' γ₁ γ₂ γ₃ : GS}
theorem op_len_tuple {ds : List D} (hl : ds.length < 9000000000000000000) : Op c k (callOp (.builtin "len")) [.tuple ds] (.d (.int ds.length)) := by
  intro A s X vs Q E rm ok base lv rs q
  obtain ⟨v, vs, rfl, r1, rs⟩ := rs.cons_inv
  cases rs
  obtain ⟨a, ws, rfl, n, ⟨m, h⟩, rs⟩ := rep_tupleT r1
  refine P.len_tuple h (by rw [List.size_toArray, rs.length]; omega) ?_
  rw [List.size_toArray, rs.length]
  exact q _ _ (tokG s _) (.int _ _)
theorem op_len_list {ds : List D} (hl : ds.length < 9000000000000000000) : Op c k (callOp (.builtin "len")) [.list ds] (.d (.int ds.length)) := by
  intro A s X vs Q E rm ok base lv rs q
  obtain ⟨v, vs, rfl, r1, rs⟩ := rs.cons_inv
  cases rs
  obtain ⟨a, ws, rfl, n, h, rs⟩ := rep_list r1
  refine call_len_list h (by rw [List.size_toArray, rs.length]; omega) ?_
  rw [List.size_toArray, rs.length]
  exact q _ _ (tokG s _) (.int _ _)
theorem op_len_wlist {ds : List D} (hl : ds.length < 9000000000000000000) : Op c k (callOp (.builtin "len")) [.wlist ds] (.d (.int ds.length)) := by
  intro A s X vs Q E rm ok base lv rs q
  obtain ⟨v, vs, rfl, r1, rs⟩ := rs.cons_inv
  cases rs
  obtain ⟨a, ws, rfl, n, h, rs⟩ := rep_wlist r1
  refine call_len_list h (by rw [List.size_toArray, rs.length]; omega) ?_
  rw [List.size_toArray, rs.length]
  exact q _ _ (tokG s _) (.int _ _)
theorem op_int {i : Int} : Op c k (callOp (.type "int")) [.int i] (.d (.int i)) := by
  intro A s X vs Q E rm ok base lv rs q
  obtain ⟨v, vs, rfl, r1, rs⟩ := rs.cons_inv
  cases rs
  obtain ⟨t, rfl⟩ := rep_int r1
  exact call_int_int (q _ _ (Grow.refl s) (.int _ _))
theorem op_tuple_list {ds : List D} (hl : ds.length ≤ 16777216) : Op c k (callOp (.type "tuple")) [.list ds] (.d (.tuple ds)) := by
  intro A s X vs Q E rm ok base lv rs q
  obtain ⟨v, vs, rfl, r1, rs⟩ := rs.cons_inv
  cases rs
  obtain ⟨a, ws, rfl, n, h, rs⟩ := rep_list r1
  refine call_tuple_list h (fun h' hk => ?_) (by rw [List.size_toArray, rs.length]; exact hl)
  have G : Grow s { s with heap := h'.push { cls := .type "tuple", data := .seq ws.toArray } } := ⟨fun b o e => Heap.get?_push_of_some _ (hk b o e), rfl, rfl, rfl⟩
  refine q _ _ G (.tuple (fun x => ?_) ⟨_, Heap.get?_push_size _ rfl⟩ (rs.carry G.carry))
  obtain ⟨o, e⟩ := lv _ x
  have := hk _ _ e
  rw [fresh_size] at this; cases this
theorem op_list_seq {d : D} {ds : List D} (hd : d = .list ds ∨ d = .tuple ds) (hl : ds.length ≤ 16777216) : Op c k (callOp (.type "list")) [d] (.own ds) := by
  intro A s X vs Q E rm ok base lv rs q
  obtain ⟨v, vs, rfl, r1, rs⟩ := rs.cons_inv
  cases rs
  have main : ∀ (a : Addr) (ws : List Value) (T : String) (o : Obj) (m : Nat), (T = "list" ∨ T = "tuple") → s.heap.get? a = some o → o.cls = .type T → o.data = .seq ws.toArray m → Reps X s.heap ws ds → wpAny (model c.prog c.w) A (call (.type "list") [.ref a]) Q E s := by
    intro a ws T o m hT ho hc hdd rs
    refine call_list_seq a hT ho hc hdd (fun h' c' hk hn => ?_) (by rw [List.size_toArray, rs.length]; exact hl)
    have G : Grow s { s with heap := h' } := ⟨hk, rfl, rfl, rfl⟩
    exact q _ _ G ⟨_, ws, rfl, fresh_size _, ⟨c', hn⟩, rs.carry ⟨fun b o _ e => hk b o e, fun b o n e y => y.elim n fun q => by rw [q, fresh_size] at e; cases e⟩⟩
  rcases hd with rfl | rfl
  · obtain ⟨a, ws, rfl, n, ⟨m, h⟩, rs⟩ := rep_listO r1
    exact main a ws "list" _ m (.inl rfl) h rfl rfl rs
  · obtain ⟨a, ws, rfl, n, ⟨m, h⟩, rs⟩ := rep_tupleT r1
    exact main a ws "tuple" _ m (.inr rfl) h rfl rfl rs
theorem op_range1 {n : Int} : Op c k (callOp (.type "range")) [.int n] (.d (.range 0 n)) := by
  intro A s X vs Q E rm ok base lv rs q
  obtain ⟨v, vs, rfl, r1, rs⟩ := rs.cons_inv
  cases rs
  obtain ⟨t, rfl⟩ := rep_int r1
  exact call_range_1 (q _ _ ⟨fun _ _ e => Heap.get?_push_of_some _ e, rfl, rfl, rfl⟩ (.range (not_live lv) (IsRange.new ..)))
theorem op_range2 {a b : Int} : Op c k (callOp (.type "range")) [.int a, .int b] (.d (.range a b)) := by
  intro A s X vs Q E rm ok base lv rs q
  obtain ⟨v, vs, rfl, r1, rs⟩ := rs.cons_inv
  obtain ⟨v, vs, rfl, r2, rs⟩ := rs.cons_inv
  cases rs
  obtain ⟨t, rfl⟩ := rep_int r1
  obtain ⟨t, rfl⟩ := rep_int r2
  exact call_range_2 (q _ _ ⟨fun _ _ e => Heap.get?_push_of_some _ e, rfl, rfl, rfl⟩ (.range (not_live lv) (IsRange.new ..)))
theorem reps_intsFrom {X : Addr → Prop} {h : Heap} : ∀ (n : Nat) (x : Int) (vs : List Value), vs.length = n → (∀ (j : Nat) (v : Value), vs[j]? = some v → ∃ t, v = .int (x + j) t) → Reps X h vs (intsFrom x n)
  | 0, x, [], _, _ => .nil
  | n + 1, x, v :: vs, hl, hv => by
    obtain ⟨t, rfl⟩ := hv 0 v rfl
    refine .cons (by simpa using Rep.int x t) (reps_intsFrom n (x + 1) vs (Nat.succ.inj hl) fun j w hw => ?_)
    obtain ⟨t, e⟩ := hv (j + 1) w (by simpa using hw)
    exact ⟨t, by rw [e]; congr 1; push_cast; omega⟩
theorem op_list_range {a b : Int} (h1 : -1000000 ≤ a) (h2 : a ≤ 1000000) (h3 : -1000000 ≤ b) (h4 : b ≤ 1000000) : Op c k (callOp (.type "list")) [.range a b] (.own (intsFrom a (b - a).toNat)) := by
  intro A s X vs Q E rm ok base lv rs q
  obtain ⟨v, vs, rfl, r1, rs⟩ := rs.cons_inv
  cases rs
  cases r1 with
  | range nx hr =>
  refine call_list_range (n := (b - a).toNat) rm.1 hr (small_one (by omega) (by omega) (by omega) (by omega)) (by rw [PySem.rangeSize_one]; split <;> omega) (by omega) fun h' tk acc' c' hk hn hi => ?_
  have G : Grow s { s with heap := h', toks := tk } := ⟨hk, rfl, rfl, rfl⟩
  refine q _ _ G ⟨_, acc'.toList, rfl, fresh_size _, ⟨c', by simpa using hn⟩, reps_intsFrom _ _ _ (by rw [Array.length_toList]; exact hi.1) fun j v hv => ?_⟩
  obtain ⟨t, e⟩ := hi.2 j v (by simpa using hv)
  exact ⟨t, by rw [e, Int.mul_one]⟩
theorem op_sum {ns : List Int} : Op c k (callOp (.builtin "sum")) [.list (ns.map D.int)] (.d (.int ns.sum)) := by
  intro A s X vs Q E rm ok base lv rs q
  obtain ⟨v, vs, rfl, r1, rs⟩ := rs.cons_inv
  cases rs
  obtain ⟨a, ws, rfl, n, h, rs⟩ := rep_list r1
  have hi := IntsAre.exists rs
  obtain ⟨xs, hx⟩ := hi.allInts.items
  have hn : numsOf (intItems xs).toList = ns := by rw [← hx]; exact hi.numsOf
  rw [hx] at h
  refine sum_intListG rm.1 h fun h' tk t' hk => ?_
  rw [show preSum (numAt xs) xs.size = ns.sum by rw [preSum_eq, List.take_of_length_le (by simp), ← hn, nums_intItems]]
  exact q _ _ ⟨hk, rfl, rfl, rfl⟩ (.int _ _)
theorem op_max {a b : Int} : Op c k (callOp (.builtin "max")) [.int a, .int b] (.d (.int (max a b))) := by
  intro A s X vs Q E rm ok base lv rs q
  obtain ⟨v, vs, rfl, r1, rs⟩ := rs.cons_inv
  obtain ⟨v, vs, rfl, r2, rs⟩ := rs.cons_inv
  cases rs
  obtain ⟨t, rfl⟩ := rep_int r1
  obtain ⟨u, rfl⟩ := rep_int r2
  refine max_two_ints rm.1 fun h' tk hk => q _ _ ⟨hk, rfl, rfl, rfl⟩ ?_
  by_cases h : b > a
  · rw [if_pos h, show max a b = b by omega]; exact .int _ _
  · rw [if_neg h, show max a b = a by omega]; exact .int _ _
theorem op_isi {d : D} {T : String} {b : Bool} (h : ∀ (A : Around) (s : Shared) (X : Addr → Prop) (v : Value) (Q : Value → Shared → Prop) (E : Value → Shared → Prop), Rep X s.heap v d → (∀ t, Q (.bool b) { s with toks := t }) → wpAny (model c.prog c.w) A (call (.builtin "isinstance") [v, .type T]) Q E s) : Op c k (callOp (.builtin "isinstance")) [d, .raw (.type T)] (.d (.bool b)) := by
  intro A s X vs Q E rm ok base lv rs q
  obtain ⟨v, vs, rfl, r1, rs⟩ := rs.cons_inv
  obtain ⟨v, vs, rfl, r2, rs⟩ := rs.cons_inv
  cases rs
  have := rep_raw r2; subst this
  exact h A s X _ Q E r1 fun t => q _ _ (tokG s t) (.bool _)
theorem isi_int_int {i : Int} : Op c k (callOp (.builtin "isinstance")) [.int i, .raw (.type "int")] (.d (.bool true)) := op_isi fun A s X v Q E r q => by obtain ⟨t, rfl⟩ := rep_int r; exact IsiPair.int_int (q _)
theorem isi_none_int : Op c k (callOp (.builtin "isinstance")) [.none, .raw (.type "int")] (.d (.bool false)) := op_isi fun A s X v Q E r q => by rw [rep_none r]; exact IsiPair.NoneType_int (q _)
theorem isi_tuple_int {ds : List D} : Op c k (callOp (.builtin "isinstance")) [.tuple ds, .raw (.type "int")] (.d (.bool false)) := op_isi fun A s X v Q E r q => by obtain ⟨a, vs, rfl, _, ⟨m, h⟩, _⟩ := rep_tupleT r; exact IsiPair.tuple_int h rfl (q _)
theorem isi_int_tuple {i : Int} : Op c k (callOp (.builtin "isinstance")) [.int i, .raw (.type "tuple")] (.d (.bool false)) := op_isi fun A s X v Q E r q => by obtain ⟨t, rfl⟩ := rep_int r; exact IsiPair.int_tuple (q _)
theorem isi_none_tuple : Op c k (callOp (.builtin "isinstance")) [.none, .raw (.type "tuple")] (.d (.bool false)) := op_isi fun A s X v Q E r q => by rw [rep_none r]; exact IsiPair.NoneType_tuple (q _)
theorem isi_tuple_tuple {ds : List D} : Op c k (callOp (.builtin "isinstance")) [.tuple ds, .raw (.type "tuple")] (.d (.bool true)) := op_isi fun A s X v Q E r q => by obtain ⟨a, vs, rfl, _, ⟨m, h⟩, _⟩ := rep_tupleT r; exact IsiPair.tuple_tuple h rfl (q _)
theorem op_cat_list {ds es : List D} (hl : ds.length + es.length ≤ 16777216) : Op c k (op2 (binaryOp .Add)) [.list ds, .list es] (.own (ds ++ es)) := by
  intro A s X vs Q E rm ok base lv rs q
  obtain ⟨v, vs, rfl, r1, rs⟩ := rs.cons_inv
  obtain ⟨v, vs, rfl, r2, rs⟩ := rs.cons_inv
  cases rs
  obtain ⟨a, ws, rfl, n1, ⟨m1, h1⟩, rs1⟩ := rep_listO r1
  obtain ⟨b, us, rfl, n2, ⟨m2, h2⟩, rs2⟩ := rep_listO r2
  refine P.add_list h1 h2 (hsz := by rw [List.size_toArray, List.size_toArray, rs1.length, rs2.length]; exact hl) ?_
  rw [show ws.toArray ++ us.toArray = (ws ++ us).toArray by simp]
  exact q _ _ (push_grow s _) ⟨_, ws ++ us, rfl, fresh_size _, isList_push _ _, (Reps.append rs2 rs1).carry ⟨fun b o _ e => Heap.get?_push_of_some _ e, fun b o n e y => y.elim n fun q => by rw [q, fresh_size] at e; cases e⟩⟩
theorem op_cat_tuple {ds es : List D} (hl : ds.length + es.length ≤ 16777216) : Op c k (op2 (binaryOp .Add)) [.tuple ds, .tuple es] (.d (.tuple (ds ++ es))) := by
  intro A s X vs Q E rm ok base lv rs q
  obtain ⟨v, vs, rfl, r1, rs⟩ := rs.cons_inv
  obtain ⟨v, vs, rfl, r2, rs⟩ := rs.cons_inv
  cases rs
  obtain ⟨a, ws, rfl, n1, ⟨m1, h1⟩, rs1⟩ := rep_tupleT r1
  obtain ⟨b, us, rfl, n2, ⟨m2, h2⟩, rs2⟩ := rep_tupleT r2
  cases hws : ws with
  | nil =>
    subst hws
    cases rs1
    exact concat_meets ⟨_, h1, rfl⟩ ⟨_, h2, rfl⟩ noFill_tuple_add seq_tuple_add PySem.F.slot_tuple_add PySem.F.entry_tuple_add (PySem.F.args_tuple_add_2 _ _) (tuple_addW0 a b _ _ _ _ _ _ _ _ rfl) ⟨h1, h2, q _ _ (Grow.refl s) r2⟩
  | cons w ws' =>
    cases hus : us with
    | nil =>
      subst hus
      cases rs2
      rw [List.append_nil] at q
      exact concat_meets ⟨_, h1, rfl⟩ ⟨_, h2, rfl⟩ noFill_tuple_add seq_tuple_add PySem.F.slot_tuple_add PySem.F.entry_tuple_add (PySem.F.args_tuple_add_2 _ _) (tuple_addW1 a b _ _ _ _ _ _ _ _ (by simp [hws]) rfl) ⟨h1, h2, q _ _ (Grow.refl s) r1⟩
    | cons u us' =>
      refine P.add_tuple h1 h2 (by simp [hws]) (by simp [hus]) (hsz := by rw [List.size_toArray, List.size_toArray, rs1.length, rs2.length]; exact hl) ?_
      rw [show ws.toArray ++ us.toArray = (ws ++ us).toArray by simp]
      exact q _ _ (push_grow s _) (.tuple (not_live lv) (isTuple_push _ _) ((Reps.append rs2 rs1).carry (push_grow s _).carry))
end
section
variable {c : Cx} {k : Nat} {S : Scope} {ρ ρ' ρ₁ ρ₂ ρ₃ : Vars} {γ γ' γ₁ γ₂ γ₃ : GS}
theorem ev_sub {value slice : Expr} {pos : Pos} {a b : D} {u : V} (h1 : EvE c k S ρ γ value (.d a) ρ₁ γ₁) (h2 : EvE c k S ρ₁ γ₁ slice (.d b) ρ₂ γ₂) (h3 : Op c k (op2 (subscriptTail value slice)) [a, b] u) : EvE c k S ρ γ (.Subscript value slice pos) u ρ₂ γ₂ :=
  fun A env W Z s Q E hs rm R q => Subscript_ (run2 h1 h2 h3 A env W Z s Q E hs rm R q)
theorem op_item_tuple {value slice : Expr} {ds : List D} {n : Int} {d : D} (h0 : 0 ≤ n) (hd : ds[n.toNat]? = some d) (hs : ∀ o i, subscripted slice false o i = operate [o, i] (getItem o i)) (hl : ds.length ≤ 16777216) : Op c k (op2 (subscriptTail value slice)) [.tuple ds, .int n] (.d d) := by
  intro A s X vs Q E rm ok base lv rs q
  obtain ⟨v, vs, rfl, r1, rs⟩ := rs.cons_inv
  obtain ⟨v, vs, rfl, r2, rs⟩ := rs.cons_inv
  cases rs
  obtain ⟨a, ws, rfl, n1, h, rs1⟩ := rep_tuple r1
  obtain ⟨t, rfl⟩ := rep_int r2
  obtain ⟨w, hw, r⟩ := rs1.get hd
  have hlt : n.toNat < ws.length := by
    rcases Nat.lt_or_ge n.toNat ws.length with h | h
    · exact h
    · rw [List.getElem?_eq_none h] at hw; cases hw
  exact item_tupleT h (by omega) (by have := rs1.length; omega) (seqIdx h0 (by omega)) hw (q _ _ (Grow.refl s) r) (hs _ _)
theorem getItem_list_any {A : Around} {s : Shared} {X : Addr → Prop} {Q : Value → Shared → Prop} {E : Value → Shared → Prop} {value slice : Expr} {a : Addr} {ws : List Value} {ds : List D} {n : Int} {t : Tok} {d : D} (h : s.heap.IsList a ws.toArray) (rs1 : Reps X s.heap ws ds) (h0 : 0 ≤ n) (hd : ds[n.toNat]? = some d) (hl : ds.length ≤ 16777216)
    (hs : ∀ o i, subscripted slice false o i = operate [o, i] (getItem o i)) (q : ∀ v, Rep X s.heap v d → Q v s) : wpAny (model c.prog c.w) A (subscriptTail value slice (.ref a) (.int n t)) Q E s := by
  obtain ⟨w, hw, r⟩ := rs1.get hd
  have hlt : n.toNat < ws.length := by
    rcases Nat.lt_or_ge n.toNat ws.length with h | h
    · exact h
    · rw [List.getElem?_eq_none h] at hw; cases hw
  exact tail_any h.typeIs list_getitem_lookup (wpAny_getItem_list h h0 (by have := rs1.length; omega) (by simpa using hw) (q _ r)) (hs _ _)
theorem op_item_list {value slice : Expr} {ds : List D} {n : Int} {d : D} (h0 : 0 ≤ n) (hd : ds[n.toNat]? = some d) (hs : ∀ o i, subscripted slice false o i = operate [o, i] (getItem o i)) (hl : ds.length ≤ 16777216) : Op c k (op2 (subscriptTail value slice)) [.list ds, .int n] (.d d) := by
  intro A s X vs Q E rm ok base lv rs q
  obtain ⟨v, vs, rfl, r1, rs⟩ := rs.cons_inv
  obtain ⟨v, vs, rfl, r2, rs⟩ := rs.cons_inv
  cases rs
  obtain ⟨a, ws, rfl, n1, h, rs1⟩ := rep_list r1
  obtain ⟨t, rfl⟩ := rep_int r2
  exact getItem_list_any h rs1 h0 hd hl hs fun v r => q _ _ (Grow.refl s) r
theorem op_item_wlist {value slice : Expr} {ds : List D} {n : Int} {d : D} (h0 : 0 ≤ n) (hd : ds[n.toNat]? = some d) (hs : ∀ o i, subscripted slice false o i = operate [o, i] (getItem o i)) (hl : ds.length ≤ 16777216) : Op c k (op2 (subscriptTail value slice)) [.wlist ds, .int n] (.d d) := by
  intro A s X vs Q E rm ok base lv rs q
  obtain ⟨v, vs, rfl, r1, rs⟩ := rs.cons_inv
  obtain ⟨v, vs, rfl, r2, rs⟩ := rs.cons_inv
  cases rs
  obtain ⟨a, ws, rfl, n1, h, rs1⟩ := rep_wlist r1
  obtain ⟨t, rfl⟩ := rep_int r2
  exact getItem_list_any h rs1 h0 hd hl hs fun v r => q _ _ (Grow.refl s) r
theorem sliceApplied_rev {A : Around} {s : Shared} {E : Value → Shared → Prop} {sl : Addr} {n : Nat} {u : Tok} {Q : Int × Int × Nat → Shared → Prop} (hs : s.heap.IsSliceOf sl .none .none (.int (-1) u)) (h : Q ((n : Int) - 1, -1, n) s) :
    wpAny (model c.prog c.w) A (Builtin.Slice.sliceApplied (.ref sl) (pure (n : Int))) Q E s := by
  obtain ⟨os, hos, hcs, hds⟩ := id hs
  unfold Builtin.Slice.sliceApplied Builtin.Slice.sliceFields
  refine wpAny_bind (wpAny_bind (wpAny_field hos hds (x := .none) rfl (wpAny_bind (wpAny_field hos hds (x := .none) rfl (wpAny_bind (wpAny_field hos hds (x := .int (-1) u) rfl (wpAny_pure ?_)))))))
  refine wpAny_bind (slicePart_int ?_)
  show wpAny _ _ (if ((-1 : Int) == 0) = true then _ else _) _ _ s
  rw [if_neg (by decide)]
  refine wpAny_bind (slicePart_none (wpAny_bind (slicePart_none (wpAny_bind (wpAny_pure ?_)))))
  have e : Builtin.Slice.sliceAdjust none none (-1) (n : Int) = ((n : Int) - 1, -1) := by
    unfold Builtin.Slice.sliceAdjust
    simp
  show wpAny _ _ (match Builtin.Slice.sliceAdjust none none (-1) (n : Int) with | (lo, hi) => pure (lo, (-1 : Int), Builtin.Slice.slicePlaces lo hi (-1))) _ _ s
  rw [e]
  show wpAny _ _ (pure ((n : Int) - 1, (-1 : Int), Builtin.Slice.slicePlaces ((n : Int) - 1) (-1) (-1))) _ _ s
  have e2 : Builtin.Slice.slicePlaces ((n : Int) - 1) (-1) (-1) = n := by
    unfold Builtin.Slice.slicePlaces
    simp
    omega
  rw [e2]
  exact wpAny_pure h
theorem pick_rev (xs : Array Value) : ((List.range xs.size).filterMap fun (k : Nat) => xs[(((xs.size : Int) - 1) + (k : Int) * (-1)).toNat]?).toArray = xs.toList.reverse.toArray := by
  have h1 : (List.range xs.size).filterMap (fun (k : Nat) => xs[(((xs.size : Int) - 1) + (k : Int) * (-1)).toNat]?) = (List.range xs.size).filterMap (fun k => xs[xs.size - 1 - k]?) := by
    congr 1
    funext k
    congr 1
    omega
  have h2 : (List.range xs.size).filterMap (fun k => xs[xs.size - 1 - k]?) = ((List.range xs.size).map fun k => xs.size - 1 - k).filterMap (xs[·]?) := by
    rw [List.filterMap_map]; rfl
  rw [h1, h2, krv_range, List.filterMap_reverse, krv_all]
theorem getItem_tuple_rev {A : Around} {s : Shared} {E : Value → Shared → Prop} {t sl : Addr} {items : Array Value} {u : Tok} {Q : Value → Shared → Prop} (ht : IsTup s.heap t items) (hs : s.heap.IsSliceOf sl .none .none (.int (-1) u))
    (h : Q (.ref s.heap.objs.size) { s with heap := s.heap.push { cls := .type "tuple", data := .seq items.toList.reverse.toArray } })
    (hsz : items.size ≤ 16777216) : wpAny (model c.prog c.w) A (getItem (.ref t) (.ref sl)) Q E s := by
  have hdrop : sizeOk (.seq items.toList.reverse.toArray) := by
    show items.toList.reverse.toArray.size ≤ sizeLine
    rw [List.size_toArray, List.length_reverse, Array.length_toList]; exact hsz
  obtain ⟨os, hos, hcs, hds⟩ := id hs
  have hTs : s.TypeIs (.ref sl) "slice" := ⟨os, hos, hcs⟩
  unfold getItem
  try with_reducible refine wpAny_holding ?_
  first | refine wpAny_bind (wpAny_pure ?_) | skip
  refine wpAny_bind (wpAny_sequenceKey ht.typeIs (by decide) ?_)
  refine wpAny_bind (wpAny_callSpecial?_slot (name := Str.ofString "__getitem__") ht.typeIs slot_tuple_getitem
    (wpAny_call_entry slot_tuple_getitem ht.typeIs entry_tuple_getitem ?_ (args_tuple_getitem _ _)))
  show wpAny _ _ (Builtin.Tuple.tupleItemsOf (.ref t) >>= _) _ _ s
  refine wpAny_bind (tupleItemsOf_ ht ?_)
  refine wpAny_bind (wpAny_typeOf hTs ?_)
  rw [if_pos (by decide)]
  refine wpAny_bind (sliceApplied_rev hs ?_)
  show wpAny _ _ (if ((items.size : Int) - 1 == 0 && (-1 : Int) == 1 && (items.size) == items.size) = true then _ else _) _ _ s
  rw [if_neg (by simp), pick_rev items]
  first
    | exact wpAny_bind (m := Builtin.Tuple.tupleExact _) (wpAny_newObj_type (wpAny_pure ⟨_, rfl, wpAny_pure h⟩) hdrop)
    | exact wpAny_bind (m := Builtin.Tuple.tupleExact _) (wpAny_newObj_type (wpAny_bind (wpAny_pure (wpAny_pure ⟨_, rfl, wpAny_pure h⟩))) hdrop)
    | exact wpAny_bind (wpAny_bind (m := Builtin.Tuple.tupleExact _) (wpAny_newObj_type (wpAny_pure (wpAny_pure ⟨_, rfl, wpAny_pure h⟩)) hdrop))
    | exact wpAny_bind (wpAny_bind (m := Builtin.Tuple.tupleExact _) (wpAny_newObj_type (wpAny_pure ⟨_, rfl, wpAny_pure h⟩) hdrop))
theorem reps_reverse {X : Addr → Prop} {h : Heap} : ∀ {vs : List Value} {ds : List D}, Reps X h vs ds → Reps X h vs.reverse ds.reverse
  | _, _, .nil => .nil
  | _, _, .cons r rs => by rw [List.reverse_cons, List.reverse_cons]; exact Reps.append (.one r) (reps_reverse rs)
theorem ev_rev {value st : Expr} {pos p : Pos} {ds : List D} (h1 : EvE c k S ρ γ value (.d (.tuple ds)) ρ₁ γ₁) (h2 : EvE c k S ρ₁ γ₁ st (.d (.int (-1))) ρ₂ γ₂) (hl : ds.length ≤ 16777216)
    : EvE c k S ρ γ (.Subscript value (.Slice none none (some st) p) pos) (.d (.tuple ds.reverse)) ρ₂ γ₂ := by
  intro A env W Z s Q E hs rm R q
  refine Subscript_ (h1 A env W Z s _ E hs rm R fun v s₁ W₁ x₁ R₁ o₁ f₁ => ?_)
  refine wpAny_Slice ?_
  rw [evalPart_none]
  refine wpAny_pure (wpAny_pure ?_)
  rw [evalPart_some]
  refine h2 A env W₁ Z s₁ _ E hs rm R₁ fun w s₂ W₂ x₂ R₂ o₂ f₂ => ?_
  obtain ⟨u, rfl⟩ := rep_int o₂.1
  have r := Rep.carry x₂.carry o₁.1
  obtain ⟨a, ws, rfl, n, ht, rs⟩ := rep_tuple r
  have ht' : IsTup s₂.heap a ws.toArray := ht
  let s₃ : Shared := { s₂ with heap := s₂.heap.push { cls := .type "slice", data := .fields #[.none, .none, .int (-1) u] } }
  have G₁ : Grow s₂ s₃ := ⟨fun _ _ e => Heap.get?_push_of_some _ e, rfl, rfl, rfl⟩
  refine tail_any (s := s₃) (ht'.push _).typeIs slot_tuple_getitem.lookup (getItem_tuple_rev (s := s₃) (ht'.push _) (Heap.IsSliceOf.new ..) ?_ (by rw [List.size_toArray, rs.length]; exact hl)) rfl
  have e : ws.toArray.toList.reverse.toArray = ws.reverse.toArray := rfl
  rw [e]
  have G₂ : Grow s₃ { s₃ with heap := s₃.heap.push { cls := .type "tuple", data := .seq ws.reverse.toArray } } := ⟨fun _ _ e => Heap.get?_push_of_some _ e, rfl, rfl, rfl⟩
  have lv₃ : Live (un Z W₂) s₃ := fun b hb => let ⟨o, e⟩ := R₂.g.live b hb; ⟨o, G₁.keep b o e⟩
  exact q _ _ W₂ (x₁.trans (x₂.trans (ExtE.grow (G₁.trans G₂)))) (R₂.grow (G₁.trans G₂)) ⟨.tuple (not_live lv₃) ⟨_, Heap.get?_push_size _ rfl⟩ ((reps_reverse rs).carry (G₁.trans G₂).carry), trivial⟩ trivial
end
noncomputable abbrev pw : Program := PySem.Challenge.pw_pc0204_01
noncomputable def nthSt (l : List Stmt) (i : Nat) : Stmt := (l[i]?).getD (.Pass ⟨0,0,0,0⟩)
noncomputable def recOf : Stmt → DefRec
  | .FunctionDef name args body _ _ _ scope _ _ pos => ⟨name, args, body, scope, pos⟩
  | _ => ⟨Str.empty, ⟨[],[],none,[],[],none,[]⟩, [], ⟨.function, [], false, false, []⟩, ⟨0,0,0,0⟩⟩
noncomputable def clsOf : Stmt → List Stmt
  | .ClassDef _ _ _ body _ _ _ _ _ _ _ => body
  | _ => []
noncomputable def dR (i : Nat) : DefRec := recOf (nthSt pw.main.body i)
noncomputable def mR (i j : Nat) : DefRec := recOf (nthSt (clsOf (nthSt pw.main.body i)) j)
structure FnIs (c : Cx) (qual : Str) (d : DefRec) (dflt : List D) (f : Addr) : Prop where
  obj : ∃ o pm cd doc dV, c.h0.get? f = some o ∧ o.data = .func { docDef d.name d.params d.body d.scope pm cd doc with qualname := qual, defaults := dV, kwdefaults := .none } ∧ c.h0.CodeRec cd qual ∧
    ((dflt = [] ∧ dV = .none) ∨ (dflt ≠ [] ∧ ∃ T o' n vs, dV = .ref T ∧ c.h0.get? T = some o' ∧ o'.data = .seq (List.toArray vs) n ∧ Reps (fun _ => False) c.h0 vs dflt))
noncomputable def Glob (c : Cx) (d : DefRec) (dflt : List D) : Prop := ∃ f, c.mg d.name = some (.ref f) ∧ FnIs c d.name d dflt f
structure Plain (d : DefRec) : Prop where
  po : d.params.posonlyargs = []
  va : d.params.vararg = none
  ko : d.params.kwonlyargs = []
  kw : d.params.kwarg = none
  co : d.scope.isCoroutine = false
  ge : d.scope.isGenerator = false
  ki : d.scope.kind = .function
section
variable {c : Cx} {k : Nat} {γ γ' : GS}
theorem FnIs.fun {qual : Str} {d : DefRec} {dflt : List D} {f : Addr} (F : FnIs c qual d dflt f) (p : Plain d) : ∃ fd, Fun c f fd d.body ∧ fd.scope = d.scope ∧ fd.params = d.params ∧
    ((dflt = [] ∧ fd.defaults = .none) ∨ (dflt ≠ [] ∧ ∃ T o' n vs, fd.defaults = .ref T ∧ c.h0.get? T = some o' ∧ o'.data = .seq (List.toArray vs) n ∧ Reps (fun _ => False) c.h0 vs dflt)) := by
  obtain ⟨o, pm, cd, doc, dV, h1, h2, h3, h4⟩ := F.obj
  exact ⟨_, ⟨⟨o, h1, h2⟩, h3, rfl, rfl, rfl, rfl, p.co, p.ge, p.ki⟩, rfl, rfl, h4⟩
theorem FnIs.at {qual : Str} {d : DefRec} {dflt : List D} {f : Addr} (F : FnIs c qual d dflt f) : FnAt c f := by
  obtain ⟨o, pm, cd, doc, dV, h1, h2, h3, h4⟩ := F.obj
  exact ⟨o, _, h1, h2⟩
theorem cy_h0 {X : Addr → Prop} {s : Shared} (hb : ∀ b o, c.h0.get? b = some o → s.heap.get? b = some o) (hx : ∀ b, X b → c.h0.get? b = none) : Carry (fun _ => False) c.h0 X s.heap :=
  ⟨fun b o _ e => hb b o e, fun b o _ e x => by rw [hx b x] at e; cases e⟩
noncomputable def chkFn (d : DefRec) (names : List Str) : Bool :=
  d.params.posonlyargs.isEmpty && d.params.vararg.isNone && d.params.kwonlyargs.isEmpty && d.params.kwarg.isNone && !d.scope.isCoroutine && !d.scope.isGenerator && (d.scope.kind == .function) &&
  names.all (fun x => d.scope.names.lookup x == some .local || d.scope.names.lookup x == some .cell) && decide names.Nodup
theorem cells_lookup {x : Str} : ∀ {l : List (Str × NameKind)} (n : Nat) (acc : List (Str × Addr)), (l.lookup x = some .cell ∨ (acc.lookup x).isSome = true) → ((cellsFrom n l acc).lookup x).isSome = true
  | [], n, acc, h => by
    unfold cellsFrom
    rcases h with h | h
    · simp at h
    · exact h
  | (y, kd) :: r, n, acc, h => by
    unfold cellsFrom
    split
    · rename_i hk
      refine cells_lookup (n + 1) _ ?_
      cases e : x == y with
      | true => exact .inr (by rw [List.lookup_cons, e]; rfl)
      | false =>
        rcases h with h | h
        · rw [List.lookup_cons, e] at h; exact .inl h
        · exact .inr (by rw [List.lookup_cons, e]; exact h)
    · rename_i hk
      refine cells_lookup n _ ?_
      rcases h with h | h
      · rw [List.lookup_cons] at h
        cases e : x == y with
        | true => rw [e] at h; cases h; exact absurd rfl hk
        | false => rw [e] at h; exact .inl h
      · exact .inr h
theorem chk_plain {d : DefRec} {names : List Str} (h : chkFn d names = true) : Plain d ∧ (∀ x ∈ names, d.scope.names.lookup x = some .local ∨ d.scope.names.lookup x = some .cell) ∧ names.Nodup := by
  unfold chkFn at h
  simp only [Bool.and_eq_true, decide_eq_true_eq, List.all_eq_true, Bool.or_eq_true, beq_iff_eq, List.isEmpty_iff, Option.isNone_iff_eq_none, Bool.not_eq_true'] at h
  obtain ⟨⟨⟨⟨⟨⟨⟨⟨h1, h2⟩, h3⟩, h4⟩, h5⟩, h6⟩, h7⟩, h8⟩, h9⟩ := h
  exact ⟨⟨h1, h2, h3, h4, h5, h6, h7⟩, h8, h9⟩
theorem fn_ok (names : List Str) {qual : Str} {d : DefRec} {f : Addr} {ds : List D} {r : D} {ρ₀ : Vars} {o : Out} (F : FnIs c qual d [] f)
    (h : ExB c k d.scope ρ₀ γ d.body o) (ho : o = .ret r γ' ∨ (r = .none ∧ ∃ ρ, o = .next ρ γ')) (hρ : bindV (names.zip ds) = ρ₀ := by rfl) (hlen : ds.length = names.length := by rfl)
    (hc : chkFn d names = true := by rfl)
    (hb : ∀ fd : FuncData, fd.params = d.params → fd.defaults = .none → ∀ vs, vs.length = names.length → bindArgs fd ⟨vs, []⟩ = pure (names.zip vs) := by
      (intro fd hp hd vs hl; unfold bindArgs; rw [hp, hd]; rcases vs with _ | ⟨_, _ | ⟨_, _ | ⟨_, _ | ⟨_, _ | _⟩⟩⟩⟩ <;> first | (simp at hl; done) | rfl)) : FnOk c k f ds γ r γ' := by
  obtain ⟨pl, hk, nd⟩ := chk_plain hc
  obtain ⟨fd, F', e1, e2, hd⟩ := F.fun pl
  subst hρ
  have hd : fd.defaults = .none := hd.elim (·.2) fun q => absurd rfl q.1
  refine fn_enter F' (ds := ds) (names := names) (fun s X vs _ _ rs => ⟨vs, rs, BindsTo.of_eq (hb fd e2 hd vs (by rw [rs.length, hlen]))⟩) (fun x hx => by rw [e1]; exact hk x hx) (fun n x hx => cells_lookup n [] (.inl hx)) nd hlen (by rw [e1]; exact h) ho
theorem fn_ok_d (names : List Str) {qual : Str} {d : DefRec} {f : Addr} {ds : List D} {e r : D} {ρ₀ : Vars} {o : Out} (F : FnIs c qual d [e] f)
    (h : ExB c k d.scope ρ₀ γ d.body o) (ho : o = .ret r γ' ∨ (r = .none ∧ ∃ ρ, o = .next ρ γ')) (hρ : bindV (names.zip (ds ++ [e])) = ρ₀ := by rfl) (hlen : (ds ++ [e]).length = names.length := by rfl)
    (hc : chkFn d names = true := by rfl)
    (hb : ∀ fd : FuncData, fd.params = d.params → ∀ vs v, vs.length + 1 = names.length → ∃ k : Option (Array Value) → Sem (List (Str × Value)), bindArgs fd ⟨vs, []⟩ = seqItems? fd.defaults >>= k ∧ k (some #[v]) = pure (names.zip (vs ++ [v])) := by
      (intro fd hp vs v hl; unfold bindArgs; rw [hp]; rcases vs with _ | ⟨_, _ | ⟨_, _ | ⟨_, _ | ⟨_, _ | _⟩⟩⟩⟩ <;> first | (simp at hl; done) | exact ⟨_, rfl, rfl⟩)) : FnOk c k f ds γ r γ' := by
  obtain ⟨pl, hk, nd⟩ := chk_plain hc
  obtain ⟨fd, F', e1, e2, hd⟩ := F.fun pl
  subst hρ
  obtain ⟨_, T, o', n, vs', hT, ho', hs, rs'⟩ := hd.elim (fun q => absurd q.1 (by simp)) id
  obtain ⟨v, ws, rfl, r1, r2⟩ := rs'.cons_inv
  obtain rfl := r2.nil_inv
  refine fn_enter F' (ds := ds ++ [e]) (names := names) (fun s X vs hb' hx rs => ?_) (fun x hx => by rw [e1]; exact hk x hx) (fun n x hx => cells_lookup n [] (.inl hx)) nd hlen (by rw [e1]; exact h) ho
  obtain ⟨kk, k1, k2⟩ := hb fd e2 vs v (by rw [rs.length]; simpa using hlen)
  exact ⟨vs ++ [v], Reps.append (.one (r1.carry (cy_h0 hb' hx))) rs, BindsTo.of_defaults hT (hb' _ _ ho') hs k1 k2⟩
theorem upd_same {ρ : Vars} {x : Str} {u : V} : upd ρ x u x = some u := by simp [upd]
theorem upd_other {ρ : Vars} {x y : Str} {u w : V} (n : x ≠ y) (h : ρ x = some u) : upd ρ y w x = some u := by simp [upd, n, h]
noncomputable abbrev e0 : Vars := fun _ => none
noncomputable def al : List (Str × V) → Vars
  | [] => e0
  | (x, u) :: r => upd (al r) x u
noncomputable def AllIn (ρ : Vars) : List (Str × V) → Prop
  | [] => True
  | (x, u) :: r => ρ x = some u ∧ AllIn ρ r
end
theorem upd_same' {ρ : Vars} {x : Str} {u u' : V} (h : u = u') : upd ρ x u x = some u' := by rw [← h, upd_same]
noncomputable def SubV (σ ρ : Vars) : Prop := ∀ x u, σ x = some u → ρ x = some u
theorem sub_e0 {ρ : Vars} : SubV e0 ρ := fun x u h => by cases h
theorem sub_refl {ρ : Vars} : SubV ρ ρ := fun x u h => h
theorem sub_upd {σ ρ : Vars} {x : Str} {u : V} (h : SubV σ ρ) (hx : ρ x = some u) : SubV (upd σ x u) ρ := fun y w h' => by
  unfold upd at h'
  split at h'
  · rename_i e; subst e; cases h'; exact hx
  · exact h y w h'
local macro_rules | `(tactic| trivial) => `(tactic| first | with_reducible exact upd_same | ((with_reducible refine upd_other (by decide) ?_); trivial) | ((with_reducible refine upd_same' ?_); rfl) | exact sub_refl | exact sub_e0 | ((with_reducible refine sub_upd ?_ ?_) <;> trivial))
section
variable {c : Cx} {k : Nat} {S : Scope} {ρ ρ' ρ₁ ρ₂ ρ₃ σ : Vars} {γ γ' γ₁ γ₂ γ₃ : GS} {fn : Bool}
theorem VOk.sub {env : Env} {W Z : Addr → Prop} {s : Shared} {v : Value} {u : V} (o : VOk c env W Z ρ s v u) (l : SubV σ ρ) : VOk c env W Z σ s v u := by
  refine ⟨o.1, ?_⟩
  have := o.2
  cases u with
  | d d => trivial
  | own ds => exact fun x es v' h => this x es v' (l x _ h)
theorem ev_sub_v {t : Env → Sem Value} {u : V} (h : Ev c k S ρ γ t u ρ₁ γ₁) (l : SubV σ ρ₁) : Ev c k S ρ γ t u σ γ₁ :=
  fun A env W Z s Q E hs rm R q => h A env W Z s Q E hs rm R fun v s' W' x R' o f => q v s' W' x (R'.forget l) (o.sub l) f
theorem ex_end (l : SubV σ ρ) : ExB c k S ρ γ [] (.next σ γ) := ex_forget ex_nil l
theorem for_fold {α β : Type} (I : α → Vars) (f : α → β → α) (g : β → D) (T : α → β → Vars) {tgt : Expr} {body : List Stmt} : ∀ (l : List β) (a : α),
    (∀ a, ∀ b ∈ l, As c S true tgt (.d (g b)) (I a) (T a b) ∧ ExB c k S (T a b) γ body (.next (I (f a b)) γ)) → ForR c k S tgt body (l.map g) (I a) γ (.next (I (l.foldl f a)) γ)
  | [], a, _ => .nil
  | b :: l, a, h => .cons (h a b (.head _)).1 (h a b (.head _)).2.toL (for_fold I f g T l (f a b) fun a b' hb => h a b' (.tail _ hb))
theorem comp_map {β : Type} (g r : β → D) (T : β → Vars) {elt tgt iter : Expr} {σ : Vars} : ∀ (l : List β),
    (∀ b ∈ l, As c S false tgt (.d (g b)) σ (T b) ∧ EvE c k S (T b) γ elt (.d (r b)) σ γ) → CompR c k S elt [⟨tgt, iter, [], 0⟩] 0 (l.map g) σ γ (l.map r) σ γ
  | [], _ => .nil
  | b :: l, h => .emit rfl (h b (.head _)).1 .nil rfl (h b (.head _)).2 (comp_map (elt := elt) (tgt := tgt) (iter := iter) g r T l fun b' hb => h b' (.tail _ hb))
theorem as_from {t : Expr} {u : V} (h : As c S fn t u σ ρ₁) (l : SubV σ ρ) : As c S fn t u ρ ρ₁ :=
  fun A γ env W Z s v Q E hs hf hh R r q => h A γ env W Z s v Q E hs hf hh (R.forget l) (r.sub l) q
theorem comp_filter {β : Type} (g r : β → D) (p : β → Bool) (T : β → Vars) {elt tgt iter e : Expr} {σ : Vars} : ∀ (l : List β),
    (∀ b ∈ l, As c S false tgt (.d (g b)) σ (T b) ∧ TstE c k S (T b) γ e (p b) (T b) γ ∧ SubV σ (T b) ∧ (p b = true → EvE c k S (T b) γ elt (.d (r b)) σ γ)) →
      CompR c k S elt [⟨tgt, iter, [e], 0⟩] 0 (l.map g) σ γ ((l.filter p).map r) σ γ
  | [], _ => .nil
  | b :: l, h => by
    have h0 := h b (.head _)
    have ih := comp_filter g r p T (elt := elt) (tgt := tgt) (iter := iter) l fun b' hb => h b' (.tail _ hb)
    cases hp : p b with
    | true =>
      rw [List.filter_cons_of_pos hp]
      exact .emit rfl h0.1 (.one (hp ▸ h0.2.1)) rfl (h0.2.2.2 hp) ih
    | false =>
      rw [List.filter_cons_of_neg (by simp [hp])]
      exact .skip rfl h0.1 (.one (hp ▸ h0.2.1)) h0.2.2.1 ih
end
section
variable {c : Cx} {k : Nat} {γ : GS}
noncomputable def prodI (l : List Int) : Int := l.foldl (· * ·) 1
noncomputable def Small (z : Int) : Prop := -1000000000 ≤ z ∧ z ≤ 1000000000
theorem many_of_ok {f : Addr} {d : D} {l : List Int} (F : FnIs c (dR 20).name (dR 20) [] f) (hd : Iter d (l.map D.int)) (hl : ∀ z ∈ l, Small z) : FnOk c k f [d] γ (.int (prodI l)) γ := by
  refine fn_ok ["sizes"] F (ρ₀ := upd e0 "sizes" (.d d)) (o := .ret _ γ) ?_ (.inl rfl)
  refine ex_cons (ex_assign ev_int as_name) ?_
  refine ex_cons (ex_for (o := .next (upd (upd e0 "sizes" (.d d)) "many" (.d (.int (prodI l)))) γ) (evit_data (ev_name (by trivial)) hd)
    (for_fold (fun m => upd (upd e0 "sizes" (.d d)) "many" (.d (.int m))) (· * ·) D.int (fun m z => upd (upd (upd e0 "sizes" (.d d)) "many" (.d (.int m))) "size" (.d (.int z))) l 1 fun m z hz => ⟨as_name, ?_⟩)) ?_
  · refine ex_cons (ex_assign (ev_binop (ev_name (by trivial)) (ev_name (by trivial)) (op_mul (mulOk_small (.inr (hl z hz))))) as_name) (ex_end (by trivial))
  · exact ex_ret (ex_return (ev_name (by trivial)))
end
section
variable {c : Cx} {k : Nat} {S : Scope} {ρ ρ' ρ₁ ρ₂ ρ₃ σ : Vars} {γ γ' γ₁ γ₂ γ₃ : GS} {fn : Bool}
theorem VOk.grown {env : Env} {W W' Z : Addr → Prop} {s s' : Shared} {v : Value} {u : V} (R : Rel c γ env W Z ρ s) (o : VOk c env W Z ρ s v u) (G : Grow s s') (hW : ∀ b, W b → W' b) (hn : ∀ b, W' b → W b ∨ s.heap.get? b = none) : VOk c env W' Z ρ s' v u := by
  have cy : Carry (un Z W) s.heap (un Z W') s'.heap := ⟨fun b o _ e => G.keep b o e, fun b o n e y => y.elim (fun z => n (.inl z)) fun w => (hn b w).elim (fun w => n (.inr w)) fun q => by rw [q] at e; cases e⟩
  refine ⟨o.1.carry cy hW (fun _ _ z _ => z) fun l _ _ _ i => ol_at i fun o e => G.keep _ o e, ?_⟩
  have := o.2
  cases u with
  | d d => trivial
  | own ds =>
    intro x es v' hx hv
    obtain ⟨w, a, _⟩ := R.vars x _ hx
    rw [← VarAt.unique (a.grow G.keep) hv]
    exact this x es w hx a
theorem VOk.stored {env : Env} {W Z : Addr → Prop} {s s' : Shared} {v v' : Value} {u u' : V} {y : Str} (R : Rel c γ env W Z ρ s) (o : VOk c env W Z ρ s v u) (x : Ext W s W s') (hl : ∀ l items, OL s.heap l items → OL s'.heap l items)
    (hy : VarAt env s'.heap y v') (hk : ∀ z w, z ≠ y → VarAt env s.heap z w → VarAt env s'.heap z w) (hne : ∀ ds es, u = .own ds → u' = .own es → v' ≠ v) : VOk c env W Z (upd ρ y u') s' v u := by
  refine ⟨o.1.carry x.carry (fun _ h => h) (fun _ _ z _ => z) fun l _ _ _ i => hl _ _ i, ?_⟩
  have := o.2
  cases u with
  | d d => trivial
  | own ds =>
    intro z es w hz hv
    by_cases e : z = y
    · subst e
      simp only [upd, if_true, Option.some.injEq] at hz
      rw [← VarAt.unique hy hv]
      exact hne _ _ rfl hz
    · simp only [upd, if_neg e] at hz
      obtain ⟨w', a, _⟩ := R.vars z _ hz
      rw [← VarAt.unique (hk z w' e a) hv]
      exact this z es w' hz a
theorem pair_store {x y : Str} {A : Around} {env : Env} {W Z : Addr → Prop} {s : Shared} {v₁ v₂ : Value} {u₁ u₂ : V} {Q : Unit → Shared → Prop} {E : Value → Shared → Prop} (hx : stOk env.scope true x = true) (hy : stOk env.scope true y = true) (hf : FnEnv env)
    (R : Rel c γ env W Z ρ s) (o₁ : VOk c env W Z ρ s v₁ u₁) (o₂ : VOk c env W Z ρ s v₂ u₂) (hne : ∀ ds es, u₁ = .own ds → u₂ = .own es → v₂ ≠ v₁)
    (q : ∀ s', Ext W s W s' → Rel c γ env W Z (upd (upd ρ y u₂) x u₁) s' → Q () s') : wpAny (model c.prog c.w) A (assignInOrder ([x, y].reverse.map fun n => bindName env n) [v₁, v₂].reverse) Q E s := by
  show wpAny _ A (do holding [v₁] (bindName env y v₂); assignInOrder [bindName env x] [v₁]) Q E s
  refine wpAny_bind (wpAny_holding (wpAny_bindName (R.storeX (stOk_kind hy fun _ => hf) o₂ fun s₁ x₁ R₁ hl hy' hk => ?_)))
  show wpAny _ A (do holding [] (bindName env x v₁); assignInOrder [] []) Q E s₁
  refine wpAny_bind (wpAny_holding (wpAny_bindName (R₁.storeX (stOk_kind hx fun _ => hf) (o₁.stored R x₁ hl hy' hk hne) fun s₂ x₂ R₂ _ _ _ => ?_)))
  exact wpAny_pure (q s₂ (x₁.trans x₂) R₂)
theorem unpack_pair {A : Around} {s : Shared} {E : Value → Shared → Prop} {x y : Str} {v₁ v₂ : Value} {t : Addr} {Q : List Value → Shared → Prop} (hh : A.handled = none) (ht : s.heap.IsTuple t [v₁, v₂].toArray)
    (hQ : ∀ h', Heap.ExtBut s.heap.objs.size s.heap h' → Q [v₁, v₂] { s with heap := h' }) : wpAny (model c.prog c.w) A (unpackItems (.ref t) [x, y].length none) Q E s := by
  show wpAny _ A (unpackItems (.ref t) [v₁, v₂].toArray.size none) Q E s
  exact wpAny_unpackItems_tuple hh ht hQ
theorem ex_pair {x y : Str} {px py tp vp pos : Pos} {j j' : Nat} {e₁ e₂ : Expr} {d₁ : D} {u₂ : V} (h1 : EvE c k S ρ γ e₁ (.d d₁) ρ₁ γ₁) (h2 : EvE c k S ρ₁ γ₁ e₂ u₂ ρ₂ γ₂)
    (hx : stOk S true x = true := by rfl) (hy : stOk S true y = true := by rfl)
    (hs : ∀ env, env.scope = S → swapsWithSole [.Tuple [.Name x px, .Name y py] j tp] (.Tuple [e₁, e₂] j' vp) pos.line env = pure false := by intro _ _; rfl)
    (hw : ∀ env, env.scope = S → swappedStores [.Tuple [.Name x px, .Name y py] j tp] (.Tuple [e₁, e₂] j' vp) env = pure (some [x, y]) := by intro env h; obtain ⟨_, _⟩ := env; cases h; rfl)
    (he1 : ∀ env, starEach [e₁, e₂] env = (false, eval e₁ env) :: starEach [e₂] env := by intro _; rfl) (he2 : ∀ env, starEach [e₂] env = [(false, eval e₂ env)] := by intro _; rfl) :
    ExS c k S ρ γ (.Assign [.Tuple [.Name x px, .Name y py] j tp] (.Tuple [e₁, e₂] j' vp) pos) (.next (upd (upd ρ₂ y u₂) x (.d d₁)) γ₂) := by
  intro A env W Z s Q E hsc hf rm R q
  refine Assign_Tuple_swapped (names := [x, y]) (wpAny_Tuple ?_) (hs env hsc) (hw env hsc)
  refine wpAny_items_cons (h1 A env W Z s _ E hsc rm R fun v₁ s₁ W₁ x₁ R₁ o₁ f₁ => ?_) (he1 env)
  refine wpAny_items_cons (h2 A env W₁ Z s₁ _ E hsc rm R₁ fun v₂ s₂ W₂ x₂ R₂ o₂ f₂ => ?_) (he2 env)
  refine wpAny_items_nil ⟨(by rw [sizeLine_eq]; show 2 ≤ 16777216; decide), ?_⟩
  have o₁' : VOk c env W₂ Z ρ₂ s₂ v₁ (.d d₁) := ⟨Rep.carry x₂.carry o₁.1, trivial⟩
  have G := push_grow s₂ { cls := .type "tuple", data := .seq [v₁, v₂].toArray }
  refine unpack_pair rm.1 (isTuple_push s₂.heap [v₁, v₂]).isTuple fun h' xb => ?_
  have G' := G.trans (extBut_grow (tk := s₂.toks) xb)
  subst hsc
  exact pair_store hx hy hf (R₂.grow G') (o₁'.grown R₂ G' (fun _ h => h) fun _ h => .inl h) (o₂.grown R₂ G' (fun _ h => h) fun _ h => .inl h) (fun _ _ h => by cases h) fun s₃ x₃ R₃ => q s₃ W₂ ((x₁.trans x₂).toExt.trans ((Ext.grow G').trans x₃)) R₃
noncomputable def EvG (c : Cx) (k : Nat) (e : Expr) (u : V) : Prop :=
  ∀ (A : Around) (env : Env) (s : Shared) (X : Addr → Prop) (Q : Value → Shared → Prop) (E : Value → Shared → Prop), Live X s → (∀ v s', Grow s s' → OpRes X s s' v u → Q v s') → wpAny (model c.prog c.w) A (eval e env) Q E s
theorem evg_nil {pos : Pos} : EvG c k (.List [] pos) (.own []) := by
  intro A env s X Q E lv q
  show wpAny _ A (do standAt pos; newList (← spliced (backTo pos (starEach [] env)))) Q E s
  refine wpAny_bind (wpAny_standAt (wpAny_bind (wpAny_items_nil ?_)))
  exact wpAny_newObj_type (q _ _ (push_grow s _) ⟨_, [], rfl, fresh_size _, isList_push _ _, .nil⟩) (by show 0 ≤ sizeLine; rw [sizeLine_eq]; decide)
theorem evg_int {i : Int} {j : Nat} {pos : Pos} : EvG c k (.Constant (.int i) j pos) (.d (.int i)) := fun A env s X Q E lv q =>
  wpAny_Constant_int (q _ _ ⟨fun _ _ e => e, rfl, rfl, rfl⟩ (.int i _))
theorem Rel.after' {env : Env} {W Z : Addr → Prop} {s s' : Shared} {v : Value} {u : V} (R : Rel c γ env W Z ρ s) (G : Grow s s') (r : OpRes (un Z W) s s' v u) :
    ∃ W', ExtE env W s W' s' ∧ Rel c γ env W' Z ρ s' ∧ VOk c env W' Z ρ s' v u ∧ FreshV s v u ∧ (∀ b, W b → W' b) ∧ (∀ b, W' b → W b ∨ s.heap.get? b = none) := by
  cases u with
  | d d => exact ⟨W, ExtE.grow G, R.grow G, ⟨r, trivial⟩, trivial, fun _ h => h, fun _ h => .inl h⟩
  | own ds =>
    obtain ⟨l, vs, rfl, hl, hi, hr⟩ := r
    have hlW : ¬ W l := fun w => by obtain ⟨o, e⟩ := R.g.live l (.inr w); rw [hl] at e; cases e
    have hlZ : ¬ Z l := fun w => by obtain ⟨o, e⟩ := R.g.live l (.inl w); rw [hl] at e; cases e
    have x : Ext W s (fun b => W b ∨ b = l) s' := ⟨fun b o e => ⟨o, G.keep b o e⟩, fun b h => h.elim .inl fun e => .inr (e ▸ hl), fun b o _ e => G.keep b o e⟩
    have lv : ∀ b, (W b ∨ b = l) → ∃ o, s'.heap.get? b = some o := fun b h => h.elim (fun w => (R.grow G).g.live b (.inr w)) fun e => e ▸ list_live hi.isList
    refine ⟨_, ⟨x, fun _ _ h => h.grow G.keep⟩, R.moreW G (fun _ h => .inl h) (fun b h => h.elim .inl fun e => .inr (e ▸ hl)) lv, ⟨⟨l, vs, rfl, .inr rfl, hlZ, fun m => hlW (R.wM l m), hi, ?_⟩, ?_⟩, (fun l' e => by cases e; exact hl), fun _ h => .inl h, fun b h => h.elim .inl fun e => .inr (e ▸ hl)⟩
    · exact hr.carry (Carry.less fun b y => y.elim (fun z => .inl (.inl z)) fun w => w.elim (fun w => .inl (.inr w)) .inr)
    · intro x es v' hx hv e
      obtain ⟨w, a, l', vs', e1, w', _, _⟩ := R.vars x _ hx
      have := VarAt.unique (a.grow G.keep) hv; subst this
      subst e1; cases e
      exact hlW w'
theorem ex_pair_g {x y : Str} {px py tp vp pos : Pos} {j j' : Nat} {e₁ e₂ : Expr} {u₁ u₂ : V} (h1 : EvE c k S ρ γ e₁ u₁ ρ₁ γ₁) (h2 : EvG c k e₂ u₂)
    (hx : stOk S true x = true := by rfl) (hy : stOk S true y = true := by rfl)
    (hs : ∀ env, env.scope = S → swapsWithSole [.Tuple [.Name x px, .Name y py] j tp] (.Tuple [e₁, e₂] j' vp) pos.line env = pure false := by intro _ _; rfl)
    (hw : ∀ env, env.scope = S → swappedStores [.Tuple [.Name x px, .Name y py] j tp] (.Tuple [e₁, e₂] j' vp) env = pure (some [x, y]) := by intro env h; obtain ⟨_, _⟩ := env; cases h; rfl)
    (he1 : ∀ env, starEach [e₁, e₂] env = (false, eval e₁ env) :: starEach [e₂] env := by intro _; rfl) (he2 : ∀ env, starEach [e₂] env = [(false, eval e₂ env)] := by intro _; rfl) :
    ExS c k S ρ γ (.Assign [.Tuple [.Name x px, .Name y py] j tp] (.Tuple [e₁, e₂] j' vp) pos) (.next (upd (upd ρ₁ y u₂) x u₁) γ₁) := by
  intro A env W Z s Q E hsc hf rm R q
  refine Assign_Tuple_swapped (names := [x, y]) (wpAny_Tuple ?_) (hs env hsc) (hw env hsc)
  refine wpAny_items_cons (h1 A env W Z s _ E hsc rm R fun v₁ s₁ W₁ x₁ R₁ o₁ f₁ => ?_) (he1 env)
  refine wpAny_items_cons (h2 A env s₁ (un Z W₁) _ E R₁.g.live fun v₂ s₂ G₂ res => ?_) (he2 env)
  refine wpAny_items_nil ⟨(by rw [sizeLine_eq]; show 2 ≤ 16777216; decide), ?_⟩
  obtain ⟨W₂, x₂, R₂, o₂, f₂, up, dn⟩ := R₁.after' G₂ res
  have o₁' : VOk c env W₂ Z ρ₁ s₂ v₁ u₁ := o₁.grown R₁ G₂ up dn
  have G := push_grow s₂ { cls := .type "tuple", data := .seq [v₁, v₂].toArray }
  refine unpack_pair rm.1 (isTuple_push s₂.heap [v₁, v₂]).isTuple fun h' xb => ?_
  have G' := G.trans (extBut_grow (tk := s₂.toks) xb)
  subst hsc
  refine pair_store hx hy hf (R₂.grow G') (o₁'.grown R₂ G' (fun _ h => h) fun _ h => .inl h) (o₂.grown R₂ G' (fun _ h => h) fun _ h => .inl h) (fun ds es h1 h2 e => ?_) fun s₃ x₃ R₃ => q s₃ W₂ ((x₁.trans x₂).toExt.trans ((Ext.grow G').trans x₃)) R₃
  subst h1; subst h2
  obtain ⟨l, vs, rfl, hw, _⟩ := o₁.1
  have := f₂ l e
  obtain ⟨o, e⟩ := R₁.g.live l (.inr hw)
  rw [this] at e; cases e
end
section
variable {c : Cx} {k : Nat} {γ : GS}
noncomputable def strides : Int → List Int → List Int
  | _, [] => []
  | f, z :: l => f :: strides (f * z) l
end
noncomputable def builtinNames : List Str := ["len", "range", "zip", "tuple", "list", "int", "isinstance", "sum", "max", "enumerate"]
noncomputable def fnIdx : List Nat := [8, 9, 10, 17, 20, 21, 22, 23, 24, 25, 26, 27, 28, 29, 30, 31, 32, 34, 35, 36, 37, 38, 40, 41, 42, 43, 44, 45, 46, 47, 48, 49, 50, 51, 52]
structure Gr (c : Cx) : Prop where
  bi : ∀ x ∈ builtinNames, c.mg x = none
  fn : ∀ i ∈ fnIdx, Glob c (dR i) []
  int_value : Glob c (dR 6) [.str "Int64"]
  named : Glob c (dR 13) [.tuple []]
section
variable {c : Cx} {k : Nat} {γ : GS} {S : Scope} {ρ ρ₁ ρ₂ : Vars} {γ₁ γ₂ : GS}
theorem ev_bcall {x : Str} {p pos : Pos} {v : Value} {args : List Expr} {ds : List D} {u : V} (G : Gr c) (hv : bootBuiltins x = some v) (h1 : Evs c k S ρ γ args ds ρ₂ γ₂) (h2 : Op c k (callOp v) ds u) (hm : x ∈ builtinNames := by decide)
    (hx : S.names.lookup x = some .globalImplicit := by rfl) (hf : (∃ id, v = .builtin id) ∨ (∃ T, v = .type T) := by first | exact .inl ⟨_, rfl⟩ | exact .inr ⟨_, rfl⟩) (hne : x ≠ "__name__" := by decide) (hd : (x == ("__debug__" : Str)) = false := by decide)
    (hfe : ∀ env, eval (.Call (.Name x p) args [] pos) env = (do callWith pos (← eval (.Name x p) env) [] (backTo pos (starEach args env)) (backToKw pos (keywordEach [] env))) := by intro _; rfl)
    (hp : ∀ env, (backTo pos (starEach args env)).any (·.1) = false := by intro _; rfl) : EvE c k S ρ γ (.Call (.Name x p) args [] pos) u ρ₂ γ₂ :=
  ev_calld (ev_builtin hx (G.bi x hm) hv hne hd) hf h1 h2 hfe hp
theorem ev_fcall {i : Nat} {dfl : List D} {x : Str} {p pos : Pos} {args : List Expr} {ds : List D} {r : D} (G : Glob c (dR i) dfl) (h1 : Evs c (k + 1) S ρ γ args ds ρ₁ γ₁) (h2 : ∀ f, FnIs c (dR i).name (dR i) dfl f → FnOk c k f ds γ₁ r γ₂)
    (hx : S.names.lookup x = some .globalImplicit := by rfl) (hn : (dR i).name = x := by rfl) (hd : (x == ("__debug__" : Str)) = false := by decide)
    (hfe : ∀ env, eval (.Call (.Name x p) args [] pos) env = (do callWith pos (← eval (.Name x p) env) [] (backTo pos (starEach args env)) (backToKw pos (keywordEach [] env))) := by intro _; rfl)
    (hp : ∀ env, (backTo pos (starEach args env)).any (·.1) = false := by intro _; rfl) : EvE c (k + 1) S ρ γ (.Call (.Name x p) args [] pos) (.d r) ρ₁ γ₂ := by
  obtain ⟨f, hm, F⟩ := G
  exact ev_call (ev_glob hx (hn ▸ hm) hd) F.at h1 (h2 f F) hfe hp
theorem for_pre {β : Type} (I : List β → Vars) (g : β → D) (T : List β → β → Vars) {tgt : Expr} {body : List Stmt} (l : List β)
    (h : ∀ pre b post, l = pre ++ b :: post → As c S true tgt (.d (g b)) (I pre) (T pre b) ∧ ExB c k S (T pre b) γ body (.next (I (pre ++ [b])) γ)) : ForR c k S tgt body (l.map g) (I []) γ (.next (I l) γ) := by
  have key : ∀ (post pre : List β), l = pre ++ post → ForR c k S tgt body (post.map g) (I pre) γ (.next (I l) γ) := by
    intro post
    induction post with
    | nil => intro pre e; rw [e, List.append_nil]; exact .nil
    | cons b post ih =>
      intro pre e
      obtain ⟨h1, h2⟩ := h pre b post e
      exact .cons h1 h2.toL (ih (pre ++ [b]) (by rw [e, List.append_assoc]; rfl))
  exact key l [] rfl
theorem prodI_mul (l : List Int) (a : Int) : l.foldl (· * ·) a = a * prodI l := by
  induction l generalizing a with
  | nil => simp [prodI]
  | cons y l ih => simp only [List.foldl_cons, prodI]; rw [ih, ih (1 * y), Int.one_mul, Int.mul_assoc]
theorem prodI_cons (z : Int) (l : List Int) : prodI (z :: l) = z * prodI l := by
  unfold prodI; rw [List.foldl_cons, prodI_mul, Int.one_mul]; rfl
theorem prodI_append (a b : List Int) : prodI (a ++ b) = prodI a * prodI b := by
  induction a with
  | nil => show prodI b = 1 * prodI b; rw [Int.one_mul]
  | cons y l ih => rw [List.cons_append, prodI_cons, prodI_cons, ih, Int.mul_assoc]
theorem prodI_one (b : Int) : prodI [b] = b := by show 1 * b = b; rw [Int.one_mul]
theorem prodI_snoc (a : List Int) (b : Int) : prodI (a ++ [b]) = prodI a * b := by rw [prodI_append, prodI_one]
theorem strides_append (f : Int) (a b : List Int) : strides f (a ++ b) = strides f a ++ strides (f * prodI a) b := by
  induction a generalizing f with
  | nil => show strides f b = strides (f * 1) b; rw [Int.mul_one]
  | cons y l ih => simp only [List.cons_append, strides]; rw [ih, prodI_cons, Int.mul_assoc]
theorem strides_snoc (f : Int) (a : List Int) (b : Int) : strides f (a ++ [b]) = strides f a ++ [f * prodI a] := by rw [strides_append]; rfl
theorem strides_length (f : Int) (l : List Int) : (strides f l).length = l.length := by
  induction l generalizing f with
  | nil => rfl
  | cons z l ih => simp only [strides, List.length_cons, ih]
noncomputable def digits : Int → List Int → List Int
  | _, [] => []
  | o, z :: l => (o % z + 1) :: digits (o / z) l
noncomputable def rest : Int → List Int → Int
  | o, [] => o
  | o, z :: l => rest (o / z) l
theorem digits_append (o : Int) (a b : List Int) : digits o (a ++ b) = digits o a ++ digits (rest o a) b := by
  induction a generalizing o with
  | nil => rfl
  | cons y l ih => simp only [List.cons_append, digits, rest]; rw [ih]
theorem rest_append (o : Int) (a b : List Int) : rest o (a ++ b) = rest (rest o a) b := by
  induction a generalizing o with
  | nil => rfl
  | cons y l ih => simp only [List.cons_append, rest]; rw [ih]
theorem digits_length (o : Int) (l : List Int) : (digits o l).length = l.length := by
  induction l generalizing o with
  | nil => rfl
  | cons z l ih => simp only [digits, List.length_cons, ih]
theorem strides_of_ok {f : Addr} {l : List Int} (G : Gr c) (F : FnIs c (dR 21).name (dR 21) [] f) (hl : ∀ z ∈ l, Small z) (hn : l.length ≤ 1000) : FnOk c k f [.ints l] γ (.ints (strides 1 l)) γ := by
  refine fn_ok ["sizes"] F (ρ₀ := upd e0 "sizes" (.d (.ints l))) (o := .ret _ γ) ?_ (.inl rfl)
  refine ex_cons (ex_pair_g (ev_list evs_nil) evg_int) ?_
  refine ex_cons (ex_for (evit_data (ev_name (by trivial)) (.tuple _)) (for_pre (γ := γ) (fun pre => upd (upd (upd e0 "sizes" (.d (.ints l))) "far" (.d (.int (prodI pre)))) "found" (.own ((strides 1 pre).map D.int)))
    D.int (fun pre z => upd (upd (upd (upd e0 "sizes" (.d (.ints l))) "far" (.d (.int (prodI pre)))) "found" (.own ((strides 1 pre).map D.int))) "size" (.d (.int z))) l fun pre b post e => ⟨as_name, ?_⟩)) ?_
  · have hb : b ∈ l := by rw [e]; simp
    have hp : pre.length ≤ 1000 := by rw [e] at hn; simp at hn; omega
    refine ex_cons (ex_append (by trivial) (ev_name (by trivial)) (by trivial) (by rw [List.length_map, strides_length]; omega)) ?_
    refine ex_cons (ex_assign (ev_binop (ev_name (by trivial)) (ev_name (by trivial)) (op_mul (mulOk_small (.inr (hl b hb))))) as_name) (ex_end ?_)
    rw [prodI_snoc, strides_snoc, Int.one_mul, List.map_append]
    trivial
  · refine ex_freeze (x := "found") (by trivial) ?_
    exact ex_ret (ex_return (ev_bcall G rfl (evs_cons (ev_name (by trivial)) evs_nil) (op_tuple_list (by rw [List.length_map, strides_length]; omega))))
theorem index_of_ok {f : Addr} {l : List Int} {o : Int} (G : Gr c) (F : FnIs c (dR 23).name (dR 23) [] f) (hl : ∀ z ∈ l, 0 < z ∧ z ≤ 1000000) (hn : l.length ≤ 1000) : FnOk c k f [.ints l, .int o] γ (.ints (digits o l)) γ := by
  refine fn_ok ["sizes", "offset"] F (ρ₀ := upd (upd e0 "offset" (.d (.int o))) "sizes" (.d (.ints l))) (o := .ret _ γ) ?_ (.inl rfl)
  refine ex_cons (ex_assign (ev_list evs_nil) as_name) ?_
  refine ex_cons (ex_for (evit_data (ev_name (by trivial)) (.tuple _)) (o := .next (upd (upd (upd e0 "offset" (.d (.int (rest o l)))) "sizes" (.d (.ints l))) "found" (.own ((digits o l).map D.int))) γ) ?_) ?_
  · refine for_pre (γ := γ) (fun pre => upd (upd (upd e0 "offset" (.d (.int (rest o pre)))) "sizes" (.d (.ints l))) "found" (.own ((digits o pre).map D.int)))
      D.int (fun pre z => upd (upd (upd (upd e0 "offset" (.d (.int (rest o pre)))) "sizes" (.d (.ints l))) "found" (.own ((digits o pre).map D.int))) "size" (.d (.int z))) l fun pre b post e => ⟨as_name, ?_⟩
    have hb : b ∈ l := by rw [e]; simp
    have hp : pre.length ≤ 1000 := by rw [e] at hn; simp at hn; omega
    obtain ⟨b1, b2⟩ := hl b hb
    refine ex_cons (ex_append (by trivial) (ev_binop (ev_binop (ev_name (by trivial)) (ev_name (by trivial)) (op_mod b1)) ev_int op_add) (by trivial) (by rw [List.length_map, digits_length]; omega)) ?_
    refine ex_cons (ex_assign (ev_binop (ev_name (by trivial)) (ev_name (by trivial)) (op_div b1 (by omega))) as_name) (ex_end ?_)
    rw [digits_append, rest_append, List.map_append]
    trivial
  · refine ex_freeze (x := "found") (by trivial) ?_
    exact ex_ret (ex_return (ev_bcall G rfl (evs_cons (ev_name (by trivial)) evs_nil) (op_tuple_list (by rw [List.length_map, digits_length]; omega))))
end
section
variable {c : Cx} {k : Nat} {γ : GS} {S : Scope} {ρ ρ₁ ρ₂ : Vars} {γ₁ γ₂ : GS}
theorem tst_is {t : Env → Sem Bool} {b b' : Bool} (h : Tst c k S ρ γ t b ρ₁ γ₁) (e : b = b') : Tst c k S ρ γ t b' ρ₁ γ₁ := e ▸ h
theorem ev_is {t : Env → Sem Value} {d d' : D} (h : Ev c k S ρ γ t (.d d) ρ₁ γ₁) (e : d = d') : Ev c k S ρ γ t (.d d') ρ₁ γ₁ := e ▸ h
theorem ex_skip {test : Expr} {body b : List Stmt} {pos : Pos} {o : Out} (h : TstE c k S ρ γ test false ρ γ) (h2 : ExB c k S ρ γ b o) : ExB c k S ρ γ (.If test body [] pos :: b) o := ex_cons (ex_if_f h ex_nil) h2
theorem ex_take {test : Expr} {body b orelse : List Stmt} {pos : Pos} {d : D} (h : TstE c k S ρ γ test true ρ γ) (h2 : ExB c k S ρ γ body (.ret d γ₁)) : ExB c k S ρ γ (.If test body orelse pos :: b) (.ret d γ₁) := ex_ret (ex_if_t h h2)
noncomputable def dot : List Int → List Int → Int
  | a :: r, b :: l => (a - 1) * b + dot r l
  | _, _ => 0
noncomputable def trip : List Int → List Int → List Int → List (Int × Int × Int)
  | a :: r, b :: l, f :: s => (a, b, f) :: trip r l s
  | _, _, _ => []
noncomputable abbrev tripD (t : Int × Int × Int) : D := .tuple [.int t.1, .int t.2.1, .int t.2.2]
theorem zip3_trip : ∀ (r l s : List Int), zip3 (r.map D.int) (l.map D.int) (s.map D.int) = (trip r l s).map tripD
  | [], _, _ => by simp [zip3, trip]
  | _ :: _, [], _ => by simp [zip3, trip]
  | _ :: _, _ :: _, [] => by simp [zip3, trip]
  | a :: r, b :: l, f :: s => by simp only [List.map_cons, zip3, trip, zip3_trip r l s]
noncomputable def tsum (l : List (Int × Int × Int)) : Int := (l.map fun t => (t.1 - 1) * t.2.2).sum
theorem tsum_snoc (l : List (Int × Int × Int)) (t : Int × Int × Int) : tsum (l ++ [t]) = tsum l + (t.1 - 1) * t.2.2 := by unfold tsum; simp
theorem tsum_trip : ∀ (r l s : List Int), l.length = r.length → tsum (trip r l s) = dot r s
  | [], _, _, _ => by simp [trip, tsum, dot]
  | _ :: _, [], _, h => by simp at h
  | _ :: _, _ :: _, [], _ => by simp [trip, tsum, dot]
  | a :: r, b :: l, f :: s, h => by
    have := tsum_trip r l s (by simpa using h)
    unfold tsum at this ⊢
    simp only [trip, List.map_cons, List.sum_cons, dot, this]
theorem trip_mem : ∀ {r l s : List Int} {t : Int × Int × Int}, t ∈ trip r l s → ∃ n : Nat, r[n]? = some t.1 ∧ l[n]? = some t.2.1 ∧ s[n]? = some t.2.2
  | a :: r, b :: l, f :: s, t, h => by
    rcases List.mem_cons.mp h with e | h
    · subst e; exact ⟨0, rfl, rfl, rfl⟩
    · obtain ⟨n, x⟩ := trip_mem h; exact ⟨n + 1, x⟩
noncomputable def Within (r l : List Int) : Prop := r.length = l.length ∧ ∀ (n : Nat) (a b : Int), r[n]? = some a → l[n]? = some b → 1 ≤ a ∧ a ≤ b
theorem offset_of_ok {f : Addr} {l r : List Int} (G : Gr c) (F : FnIs c (dR 22).name (dR 22) [] f) (hl : ∀ z ∈ l, Small z) (hn : l.length ≤ 1000) (hw : Within r l) : FnOk c (k + 1) f [.ints l, .ints r] γ (.int (dot r (strides 1 l))) γ := by
  have hlen := hw.1
  refine fn_ok ["sizes", "indices"] F (ρ₀ := upd (upd e0 "indices" (.d (.ints r))) "sizes" (.d (.ints l))) (o := .ret _ γ) ?_ (.inl rfl)
  have lr : r.length < 9000000000000000000 := by omega
  have ll : l.length < 9000000000000000000 := by omega
  refine ex_skip (tst_bool ?_) ?_
  · by_cases h1 : r.length = 1
    · refine t_and_t (tst_is (tst_cmp (ev_bcall G rfl (evs_cons (ev_name (by trivial)) evs_nil) (op_len_tuple (by rw [List.length_map]; exact lr))) ev_int op_eqi) (by rw [List.length_map, h1]; rfl)) ?_
      refine t_and_f (tst_is (tst_cmp (ev_bcall G rfl (evs_cons (ev_name (by trivial)) evs_nil) (op_len_tuple (by rw [List.length_map]; exact ll))) ev_int op_nei) (by rw [List.length_map, ← hlen, h1]; rfl))
    · refine t_and_f (tst_is (tst_cmp (ev_bcall G rfl (evs_cons (ev_name (by trivial)) evs_nil) (op_len_tuple (by rw [List.length_map]; exact lr))) ev_int op_eqi) (by rw [List.length_map, decide_eq_false_iff_not]; omega))
  refine ex_skip (tst_is (tst_cmp (ev_bcall G rfl (evs_cons (ev_name (by trivial)) evs_nil) (op_len_tuple (by rw [List.length_map]; exact lr))) (ev_bcall G rfl (evs_cons (ev_name (by trivial)) evs_nil) (op_len_tuple (by rw [List.length_map]; exact ll))) op_nei) (by simp [hlen])) ?_
  refine ex_cons (ex_assign ev_int as_name) ?_
  refine ex_cons (ex_for (o := .next (upd (upd (upd e0 "indices" (.d (.ints r))) "sizes" (.d (.ints l))) "place" (.d (.int (tsum (trip r l (strides 1 l)))))) γ)
    (evit_zip3 (ev_builtin rfl (G.bi "zip" (by decide)) rfl) (evs_cons (ev_name (by trivial)) (evs_cons (ev_name (by trivial)) (evs_cons (ev_fcall (G.fn 21 (by decide)) (evs_cons (ev_name (by trivial)) evs_nil) fun f F => strides_of_ok G F hl hn) evs_nil))) (.tuple _) (.tuple _) (.tuple _)) ?_) ?_
  · rw [zip3_trip]
    refine for_pre (γ := γ) (fun pre => upd (upd (upd e0 "indices" (.d (.ints r))) "sizes" (.d (.ints l))) "place" (.d (.int (tsum pre)))) tripD
      (fun pre t => upd (upd (upd (upd (upd (upd e0 "indices" (.d (.ints r))) "sizes" (.d (.ints l))) "place" (.d (.int (tsum pre)))) "index" (.d (.int t.1))) "size" (.d (.int t.2.1))) "far" (.d (.int t.2.2))) (trip r l (strides 1 l))
      fun pre t post e => ⟨as_tuple (asl_cons as_name (asl_cons as_name (asl_cons as_name asl_nil))), ?_⟩
    obtain ⟨n, q1, q2, q3⟩ := trip_mem (t := t) (r := r) (l := l) (s := strides 1 l) (by rw [e]; simp)
    obtain ⟨w1, w2⟩ := hw.2 n _ _ q1 q2
    obtain ⟨s1, s2⟩ := hl _ (List.mem_of_getElem? q2)
    refine ex_skip (tst_is (tst_not (tst_chain ev_int (ev_name (by trivial)) op_le (fun _ => ev_name (by trivial)) fun _ => op_le)) (by simp [w1, w2])) ?_
    refine ex_cons (ex_assign (ev_binop (ev_name (by trivial)) (ev_binop (ev_binop (ev_name (by trivial)) ev_int op_sub) (ev_name (by trivial)) (op_mul (mulOk_small (.inl (by constructor <;> omega))))) op_add) as_name) (ex_end ?_)
    rw [tsum_snoc]
    trivial
  · rw [← tsum_trip r l _ hlen.symm]
    exact ex_ret (ex_return (ev_name (by trivial)))
end
structure ClsIs (c : Cx) (C : Addr) (K : Frag) (cd : ClassData) : Prop where
  inn : K.In c.h0
  ga : findIn K (.ref C) "__getattribute__" = some (some (.builtin "object.__getattribute__"))
  gt : findIn K (.ref C) "__getattr__" = some none
  ci : clsIn K C = some cd
  hd : cd.hasDict = true
noncomputable def AttrOk (c : Cx) (C : Addr) (n : Str) : Prop := ∃ K cd, ClsIs c C K cd ∧ findIn K (.ref C) n = some none
noncomputable def MethOk (c : Cx) (C : Addr) (n : Str) (f : Addr) : Prop := ∃ K cd, ClsIs c C K cd ∧ findIn K (.ref C) n = some (some (.ref f)) ∧ typeIn K (.ref f) = some (.type "function")
section
variable {c : Cx} {k : Nat} {S : Scope} {ρ ρ' ρ₁ ρ₂ ρ₃ : Vars} {γ γ' γ₁ γ₂ γ₃ : GS} {fn : Bool}
theorem rep_inst {X : Addr → Prop} {h : Heap} {v : Value} {C : Addr} {ns : List Str} {ds : List D} (r : Rep X h v (.inst C ns ds)) :
    ∃ x dx od vs, v = .ref x ∧ InstAt h x (instObjOf C dx) C (some od) ∧ FieldsAre od ns vs ∧ NoMeth od ∧ Reps X h vs ds := by
  cases r with
  | inst n e m d f a rs => exact ⟨_, _, _, _, rfl, ⟨e, rfl, rfl, d⟩, f, a, rs⟩
theorem find_field {K : Frag} {C : Addr} {cd : ClassData} {od : Obj} {n : Str} {v : Value} (K1 : ClsIs c C K cd) (ha : findIn K (.ref C) n = some none) (hl : lookIn n od = some (some v)) : findObj K C (some od) n = some (.value v) := by
  have ho : W.ownOf cd (some od) n = some (some v) := by unfold W.ownOf; rw [if_pos K1.hd]; exact hl
  unfold findObj
  rw [K1.ci, Option.bind_some, ha, Option.bind_some, Option.bind_some, Option.bind_some]
  show ((W.ownOf cd (some od) n).bind _) = _
  rw [ho]; rfl
noncomputable def Handed (d : D) : Prop := ∀ (X : Addr → Prop) (h : Heap) (v : Value), Rep X h v d → handedIn v = true
theorem handed_raw {a : Addr} : Handed (.raw (.ref a)) := fun X h v r => by rw [rep_raw r]; rfl
theorem handed_tuple {ds : List D} : Handed (.tuple ds) := fun X h v r => by obtain ⟨a, vs, rfl, _⟩ := rep_tuple r; rfl
theorem ev_attr {e : Expr} {n : Str} {pos : Pos} {C : Addr} {ns : List Str} {ds : List D} {d : D} {i : Nat} (h : EvE c k S ρ γ e (.d (.inst C ns ds)) ρ₁ γ₁) (ha : AttrOk c C n) (hn : ns[i]? = some n) (hd : ds[i]? = some d) (hh : Handed d)
    (he : ∀ env, eval (.Attribute e n pos) env = (do let o ← eval e env; standAt pos.atName; let r ← holding [o] (getAttr o n true); letTemporaryGo e o r; pure r) := by intro _; with_unfolding_all rfl) :
    EvE c k S ρ γ (.Attribute e n pos) (.d d) ρ₁ γ₁ := by
  intro A env W Z s Q E hs rm R q
  refine Attribute_any_ (h A env W Z s _ E hs rm R fun v s₁ W₁ x₁ R₁ o₁ f₁ => ?_) (he env)
  obtain ⟨x, dx, od, vs, rfl, I, F, _, rs⟩ := rep_inst o₁.1
  obtain ⟨K, cd, K1, hf⟩ := ha
  obtain ⟨w, hw, rw'⟩ := rs.get hd
  have hf' := find_field K1 hf (F i n w hn hw)
  refine get_value (K1.inn.keeps R₁.g.base) I K1.ga hf' (hh _ _ _ rw') ?_
  exact q w _ W₁ (x₁.trans (ExtE.grow (R₁.tok _))) (R₁.grow (R₁.tok _)) ⟨Rep.carry (R₁.tok _).carry rw', trivial⟩ trivial
theorem ev_mcall {o : Expr} {n : Str} {apos pos : Pos} {args : List Expr} {f C : Addr} {ns : List Str} {dd ds : List D} {r : D} (h0 : EvE c (k + 1) S ρ γ o (.d (.inst C ns dd)) ρ₁ γ₁) (hm : MethOk c C n f) (hf : FnAt c f)
    (h1 : Evs c (k + 1) S ρ₁ γ₁ args ds ρ₂ γ₂) (h2 : FnOk c k f (.inst C ns dd :: ds) γ₂ r γ₃) (hn : n ∈ methNames := by decide)
    (he : ∀ env, ∃ pl : Value → Sem Bool, eval (.Call (.Attribute o n apos) args [] pos) env = (do
      let ov ← eval o env
      standAt apos.atName
      let (f, first) ← holding [ov] (getMethod ov n (pl ov))
      callWith pos f first (backTo pos (starEach args env)) []) := by intro _; exact ⟨_, rfl⟩)
    (hp : ∀ env, (backTo pos (starEach args env)).any (·.1) = false := by intro _; rfl) : EvE c (k + 1) S ρ γ (.Call (.Attribute o n apos) args [] pos) (.d r) ρ₂ γ₃ := by
  intro A env W Z s Q E hs rm R q
  obtain ⟨pl, he⟩ := he env
  show wpAny _ A (eval (.Call (.Attribute o n apos) args [] pos) env) Q E s
  rw [he]
  refine wpAny_bind (h0 A env W Z s _ E hs rm R fun v s₁ W₁ x₁ R₁ o₁ f₁ => ?_)
  refine wpAny_bind (wpAny_standAt (wpAny_bind (wpAny_holding ?_)))
  obtain ⟨x, dx, od, vs, rfl, I, F, NM, rs⟩ := rep_inst o₁.1
  obtain ⟨K, cd, K1, hg, ht⟩ := hm
  refine method_fn (K1.inn.keeps R₁.g.base) I K1.ga K1.gt hg ht (by unfold shadowIn; simp only; rw [NM n hn]; rfl) ?_
  obtain ⟨ob, fd, ho, hdd⟩ := hf
  refine callWith_function (o := ob) (fd := fd) (evalArgs_of (hp env) (h1 pos A env W₁ Z s₁ _ E hs rm R₁ fun ws s₂ W₂ x₂ R₂ rs₂ => ⟨⟨R₂.g.base _ _ ho, hdd⟩, ?_⟩))
  refine h2 A s₂ (un Z W₂) _ Q E rm R₂.ok R₂.g (.cons (Rep.carry x₂.carry o₁.1) rs₂) fun v s₃ kp g r => ?_
  obtain ⟨x₃, R₃⟩ := R₂.call kp g
  exact q v s₃ W₂ (x₁.trans (x₂.trans x₃)) R₃ ⟨r, trivial⟩ trivial
noncomputable def thingD (CT : Addr) (l : List Int) : D := .inst CT ["sizes"] [.ints l]
noncomputable def HInv (aM aT CT : Addr) (γ : GS) (X : Addr → Prop) (h : Heap) : Prop :=
  (∃ t u, h.IsList aM #[.int γ.m0 t, .int γ.m1 u]) ∧ ∃ vs : List Value, OL h aT vs.toArray ∧ Reps X h vs (γ.th.map (thingD CT))
structure HM (c : Cx) (aM aT CT : Addr) : Prop where
  M : ∀ b, c.M b ↔ b = aM ∨ b = aT
  ne : aM ≠ aT
  inv : c.Inv = HInv aM aT CT
theorem HInv.carry {aM aT CT : Addr} (γ : GS) (X X' : Addr → Prop) (h h' : Heap) (x : HInv aM aT CT γ X h) (k : Carry X h X' h') (kM : ∀ b o, (b = aM ∨ b = aT) → h.get? b = some o → h'.get? b = some o) : HInv aM aT CT γ X' h' := by
  obtain ⟨⟨t, u, h1⟩, vs, h2, h3⟩ := x
  exact ⟨⟨t, u, isList_at h1 fun o e => kM _ o (.inl rfl) e⟩, vs, ol_at h2 fun o e => kM _ o (.inr rfl) e, h3.carry k⟩
noncomputable def OpR (c : Cx) (k : Nat) (γ : GS) (t : List Value → Sem Value) (ds : List D) (u : V) : Prop :=
  ∀ (A : Around) (s : Shared) (X : Addr → Prop) (vs : List Value) (Q : Value → Shared → Prop) (E : Value → Shared → Prop), Room A k → CxOk c → GRel c γ X s → Reps X s.heap vs ds →
    (∀ v s', Grow s s' → OpRes X s s' v u → Q v s') → wpAny (model c.prog c.w) A (t vs) Q E s
theorem run_argsR {es : List Expr} {ds : List D} {t : List Value → Sem Value} {u : V} (h1 : Evs c k S ρ γ es ds ρ₁ γ₁) (h2 : OpR c k γ₁ t ds u) (pos : Pos)
    (A : Around) (env : Env) (W Z : Addr → Prop) (s : Shared) (Q : Value → Shared → Prop) (E : Value → Shared → Prop) (hs : env.scope = S) (r : Room A k) (R : Rel c γ env W Z ρ s)
    (q : ∀ v s' W', ExtE env W s W' s' → Rel c γ₁ env W' Z ρ₁ s' → VOk c env W' Z ρ₁ s' v u → FreshV s v u → Q v s') : wpAny (model c.prog c.w) A (spliced (backTo pos (starEach es env))) (fun vs s₁ => wpAny (model c.prog c.w) A (t vs) Q E s₁) E s := by
  refine h1 pos A env W Z s _ E hs r R fun vs s₁ W₁ x₁ R₁ rs => ?_
  refine h2 A s₁ (un Z W₁) vs Q E r R₁.ok R₁.g rs fun v s₂ G res => ?_
  obtain ⟨W₂, x₂, R₂, o₂, f₂⟩ := R₁.after G res
  exact q v s₂ W₂ (x₁.trans x₂) R₂ o₂ (f₂.trans x₁.toExt)
theorem ev_calldR {fe : Expr} {args : List Expr} {pos : Pos} {f : Value} {ds : List D} {u : V} (h0 : EvE c k S ρ γ fe (.d (.raw f)) ρ₁ γ₁) (hf : (∃ id, f = .builtin id) ∨ (∃ T, f = .type T)) (h1 : Evs c k S ρ₁ γ₁ args ds ρ₂ γ₂) (h2 : OpR c k γ₂ (fun vs => call f vs) ds u)
    (hfe : ∀ env, eval (.Call fe args [] pos) env = (do callWith pos (← eval fe env) [] (backTo pos (starEach args env)) (backToKw pos (keywordEach [] env))) := by intro _; rfl)
    (hp : ∀ env, (backTo pos (starEach args env)).any (·.1) = false := by intro _; rfl) : EvE c k S ρ γ (.Call fe args [] pos) u ρ₂ γ₂ := by
  intro A env W Z s Q E hs rm R q
  show wpAny _ A (eval (.Call fe args [] pos) env) Q E s
  rw [hfe env]
  refine wpAny_bind (h0 A env W Z s _ E hs rm R fun v s₁ W₁ x₁ R₁ o₁ f₁ => ?_)
  rw [rep_raw o₁.1]
  have fin := run_argsR h1 h2 pos A env W₁ Z s₁ Q E hs rm R₁ fun v s' W' x R' o f => q v s' W' (x₁.trans x) R' o (f.trans x₁.toExt)
  rcases hf with ⟨id, rfl⟩ | ⟨T, rfl⟩
  · exact callWith_builtin (hp env) (evalArgs_of (hp env) fin)
  · exact PySem.callWith_type (hp env) (evalArgs_of (hp env) fin)
theorem ev_bcallR {x : Str} {p pos : Pos} {v : Value} {args : List Expr} {ds : List D} {u : V} (G : Gr c) (hv : bootBuiltins x = some v) (h1 : Evs c k S ρ γ args ds ρ₂ γ₂) (h2 : OpR c k γ₂ (callOp v) ds u) (hm : x ∈ builtinNames := by decide)
    (hx : S.names.lookup x = some .globalImplicit := by rfl) (hf : (∃ id, v = .builtin id) ∨ (∃ T, v = .type T) := by first | exact .inl ⟨_, rfl⟩ | exact .inr ⟨_, rfl⟩) (hne : x ≠ "__name__" := by decide) (hd : (x == ("__debug__" : Str)) = false := by decide)
    (hfe : ∀ env, eval (.Call (.Name x p) args [] pos) env = (do callWith pos (← eval (.Name x p) env) [] (backTo pos (starEach args env)) (backToKw pos (keywordEach [] env))) := by intro _; rfl)
    (hp : ∀ env, (backTo pos (starEach args env)).any (·.1) = false := by intro _; rfl) : EvE c k S ρ γ (.Call (.Name x p) args [] pos) u ρ₂ γ₂ :=
  ev_calldR (ev_builtin hx (G.bi x hm) hv hne hd) hf h1 h2 hfe hp
theorem ev_subR {value slice : Expr} {pos : Pos} {a b : D} {u : V} (h1 : EvE c k S ρ γ value (.d a) ρ₁ γ₁) (h2 : EvE c k S ρ₁ γ₁ slice (.d b) ρ₂ γ₂) (h3 : OpR c k γ₂ (op2 (subscriptTail value slice)) [a, b] u) : EvE c k S ρ γ (.Subscript value slice pos) u ρ₂ γ₂ := by
  intro A env W Z s Q E hs rm R q
  refine Subscript_ ?_
  refine h1 A env W Z s _ E hs rm R fun v s₁ W₁ x₁ R₁ o₁ f₁ => ?_
  refine h2 A env W₁ Z s₁ _ E hs rm R₁ fun w s₂ W₂ x₂ R₂ o₂ f₂ => ?_
  refine h3 A s₂ (un Z W₂) [v, w] Q E rm R₂.ok R₂.g (.cons (Rep.carry x₂.carry o₁.1) (.cons o₂.1 .nil)) fun v s₃ G res => ?_
  obtain ⟨W₃, x₃, R₃, o₃, f₃⟩ := R₂.after G res
  exact q v s₃ W₃ (x₁.trans (x₂.trans x₃)) R₃ o₃ (f₃.trans (x₁.trans x₂).toExt)
theorem opR_len_things {aM aT CT : Addr} (H : HM c aM aT CT) (hl : γ.th.length ≤ 1000) : OpR c k γ (callOp (.builtin "len")) [.raw (.ref aT)] (.d (.int γ.th.length)) := by
  intro A s X vs Q E rm ok g rs q
  obtain ⟨v, vs, rfl, r1, rs⟩ := rs.cons_inv
  cases rs
  rw [rep_raw r1]
  have I := g.inv
  rw [H.inv] at I
  obtain ⟨_, ws, h2, h3⟩ := I
  have e := h3.length
  rw [List.length_map] at e
  refine call_len_list h2.isList (by rw [List.size_toArray, e]; omega) ?_
  rw [List.size_toArray, e]
  exact q _ _ (tokG s _) (.int _ _)
theorem opR_item_things {aM aT CT : Addr} {value slice : Expr} {n : Int} {l : List Int} (H : HM c aM aT CT) (h0 : 0 ≤ n) (hd : γ.th[n.toNat]? = some l) (hl : γ.th.length ≤ 1000)
    (hs : ∀ o i, subscripted slice false o i = operate [o, i] (getItem o i)) : OpR c k γ (op2 (subscriptTail value slice)) [.raw (.ref aT), .int n] (.d (thingD CT l)) := by
  intro A s X vs Q E rm ok g rs q
  obtain ⟨v, vs, rfl, r1, rs⟩ := rs.cons_inv
  obtain ⟨w, vs, rfl, r2, rs⟩ := rs.cons_inv
  cases rs
  rw [rep_raw r1]
  obtain ⟨t, rfl⟩ := rep_int r2
  have I := g.inv
  rw [H.inv] at I
  obtain ⟨_, ws, h2, h3⟩ := I
  refine getItem_list_any h2.isList h3 h0 (d := thingD CT l) (by rw [List.getElem?_map, hd]; rfl) (by rw [List.length_map]; omega) hs fun v r => q _ _ (Grow.refl s) r
theorem opR_item_mast {aM aT CT : Addr} {value slice : Expr} {n m : Int} (H : HM c aM aT CT) (hn : (n = 0 ∧ m = γ.m0) ∨ (n = 1 ∧ m = γ.m1))
    (hs : ∀ o i, subscripted slice false o i = operate [o, i] (getItem o i)) : OpR c k γ (op2 (subscriptTail value slice)) [.raw (.ref aM), .int n] (.d (.int m)) := by
  intro A s X vs Q E rm ok g rs q
  obtain ⟨v, vs, rfl, r1, rs⟩ := rs.cons_inv
  obtain ⟨w, vs, rfl, r2, rs⟩ := rs.cons_inv
  cases rs
  rw [rep_raw r1]
  obtain ⟨t, rfl⟩ := rep_int r2
  have I := g.inv
  rw [H.inv] at I
  obtain ⟨⟨t', u', h1⟩, _⟩ := I
  refine getItem_list_any (X := X) (ws := [.int γ.m0 t', .int γ.m1 u']) (ds := [.int γ.m0, .int γ.m1]) h1 (.cons (.int _ _) (.cons (.int _ _) .nil)) (by rcases hn with ⟨rfl, _⟩ | ⟨rfl, _⟩ <;> decide) (d := .int m) (by rcases hn with ⟨rfl, rfl⟩ | ⟨rfl, rfl⟩ <;> rfl) (by simp) hs fun v r => q _ _ (Grow.refl s) r
theorem GRel.turn {X : Addr → Prop} {s : Shared} {a : Addr} {h' : Heap} {tk : Nat} {items : Array Value} (x : GRel c γ X s) (hM : c.M a) (hs : Heap.SameBut a s.heap h') (hl : h'.IsList a items) (inv : c.Inv γ' X h') :
    GRel c γ' X { s with heap := h', toks := tk } := by
  have ne : ∀ b o, c.h0.get? b = some o → b ≠ a := fun b o e q => by have := x.xbase a (x.xM a hM); rw [← q, e] at this; cases this
  refine ⟨fun b o e => (hs.2 b (ne b o e)).trans (x.base b o e), x.xbase, fun b h => ?_, x.gens, x.os, x.drawn, x.xM, fun b hb => ?_, inv⟩
  · by_cases q : b = a
    · exact q ▸ list_live hl
    · obtain ⟨o, ho⟩ := x.live b h; exact ⟨o, (hs.2 b q).trans ho⟩
  · by_cases q : b = a
    · exact ⟨items, q ▸ hl⟩
    · obtain ⟨i, hi⟩ := x.mpl b hb; exact ⟨i, isList_at hi fun o e => (hs.2 b q).trans e⟩
theorem keptF_turn {s : Shared} {a : Addr} {h' : Heap} {tk : Nat} (hM : c.M a) (hs : Heap.SameBut a s.heap h') : KeptF c s { s with heap := h', toks := tk } := fun b o n e => (hs.2 b fun q => n (q ▸ hM)).trans e
theorem carry_turn {X : Addr → Prop} {s : Shared} {a : Addr} {h' : Heap} (hX : X a) (hs : Heap.SameBut a s.heap h') : Carry X s.heap X h' := ⟨fun b o n e => (hs.2 b fun q => n (q ▸ hX)).trans e, fun _ _ n _ => n⟩
end
section
variable {c : Cx} {k : Nat} {S : Scope} {ρ ρ' ρ₁ ρ₂ ρ₃ : Vars} {γ γ' γ₁ γ₂ γ₃ : GS} {fn : Bool} {aM aT CT : Addr}
theorem ex_setmast {o idx value : Expr} {pos' pos : Pos} {i m : Int} (H : HM c aM aT CT) (h1 : EvE c k S ρ γ value (.d (.int m)) ρ₁ γ₁) (h2 : EvE c k S ρ₁ γ₁ o (.d (.raw (.ref aM))) ρ₁ γ₁) (h3 : EvE c k S ρ₁ γ₁ idx (.d (.int i)) ρ₁ γ₁)
    (hi : (i = 0 ∧ γ₂ = { γ₁ with m0 := m }) ∨ (i = 1 ∧ γ₂ = { γ₁ with m1 := m })) (hs : ∀ env, swapsWith value (some (.Subscript o idx pos')) pos.line env = pure false := by intro _; rfl) :
    ExS c k S ρ γ (.Assign [.Subscript o idx pos'] value pos) (.next ρ₁ γ₂) := by
  intro A env W Z s Q E hsc hf rm R q
  refine wpAny_Assign_Subscript ?_ (hs env)
  refine h1 A env W Z s _ E hsc rm R fun v s₁ W₁ x₁ R₁ o₁ f₁ => ?_
  refine h2 A env W₁ Z s₁ _ E hsc rm R₁ fun ov s₂ W₂ x₂ R₂ o₂ f₂ => ?_
  refine h3 A env W₂ Z s₂ _ E hsc rm R₂ fun iv s₃ W₃ x₃ R₃ o₃ f₃ => ?_
  obtain ⟨tv, rfl⟩ := rep_int o₁.1
  obtain ⟨ti, rfl⟩ := rep_int o₃.1
  rw [rep_raw o₂.1]
  have I := R₃.g.inv
  rw [H.inv] at I
  obtain ⟨⟨t, u, l1⟩, vs, l2, l3⟩ := I
  have hM : c.M aM := (H.M aM).2 (.inl rfl)
  refine wpAny_setItem_list l1 (by rcases hi with ⟨rfl, _⟩ | ⟨rfl, _⟩ <;> decide) (by rcases hi with ⟨rfl, _⟩ | ⟨rfl, _⟩ <;> decide) (by rcases hi with ⟨rfl, _⟩ | ⟨rfl, _⟩ <;> (show _ < (2 : Int); decide)) fun h' l1' sb => ?_
  have cy := carry_turn (X := un Z W₃) (s := s₃) (.inr (R₃.wM aM hM)) sb
  have I' : c.Inv γ₂ (un Z W₃) h' := by
    rw [H.inv]
    rcases hi with ⟨rfl, rfl⟩ | ⟨rfl, rfl⟩
    · exact ⟨⟨tv, u, l1'⟩, vs, ol_at l2 fun o e => (sb.2 _ (Ne.symm H.ne)).trans e, l3.carry cy⟩
    · exact ⟨⟨t, tv, l1'⟩, vs, ol_at l2 fun o e => (sb.2 _ (Ne.symm H.ne)).trans e, l3.carry cy⟩
  have g' := R₃.g.turn (tk := s₃.toks) hM sb l1' I'
  obtain ⟨x₄, R₄⟩ := R₃.call (keptF_turn hM sb) g'
  exact q _ W₃ (((x₁.trans x₂).trans (x₃.trans x₄)).toExt) R₄
theorem ex_things_append {o e : Expr} {apos pos spos : Pos} {l : List Int} (H : HM c aM aT CT) (h1 : EvE c k S ρ γ o (.d (.raw (.ref aT))) ρ₁ γ₁) (h2 : EvE c k S ρ₁ γ₁ e (.d (thingD CT l)) ρ₂ γ₂) (hn : γ₂.th.length ≤ 1000)
    (hb : ∀ env, attributeBase o "append" env (eval o env) = eval o env := by intro _; rfl)
    (hline : (apos.endLine == pos.line) = true := by rfl)
    (htrees : ∀ env, backTo pos (starEach [e] env) = [(false, eval e env)] := by intro _; rfl) :
    ExS c k S ρ γ (.Expr (.Call (.Attribute o "append" apos) [e] [] pos) spos) (.next ρ₂ { γ₂ with th := γ₂.th ++ [l] }) := by
  intro A env W Z s Q E hs hf rm R q
  refine wpAny_Expr ?_ (interactive_fn R.kind) rfl
  refine wpAny_Call_method (T := "list") (id := "list.append") (hb env) (by rw [htrees env]; rfl) hline PySem.F.plainAttrs_list PySem.F.slot_list_append PySem.F.type_list_append ?_
  refine h1 A env W Z s _ E hs rm R fun v s₁ W₁ x₁ R₁ o₁ f₁ => ?_
  rw [rep_raw o₁.1]
  have I := R₁.g.inv
  rw [H.inv] at I
  obtain ⟨⟨t, u, l1⟩, vs, l2, l3⟩ := I
  refine ⟨l2.isList.typeIs, fun a e => by cases e; exact ol_live l2, ?_⟩
  rw [htrees env]
  refine P.append_list ?_
  refine h2 A env W₁ Z s₁ _ E hs rm R₁ fun v s₂ W₂ x₂ R₂ o₂ f₂ => ?_
  have I := R₂.g.inv
  rw [H.inv] at I
  obtain ⟨⟨t, u, l1⟩, vs, ⟨n', l2⟩, l3⟩ := I
  have hM : c.M aT := (H.M aT).2 (.inr rfl)
  have e := l3.length
  rw [List.length_map] at e
  refine ⟨vs.toArray, n', by rw [List.size_toArray, e, sizeLine_eq]; omega, l2, ?_⟩
  have l2' := l2.update (fun xs => xs.push v)
  have sb := Heap.SameBut.update s₂.heap aT (Obj.mapSeq (fun xs => xs.push v))
  have cy := carry_turn (X := un Z W₂) (s := s₂) (.inr (R₂.wM aT hM)) sb
  have l2'' : OL (s₂.heap.update aT (Obj.mapSeq fun xs => xs.push v)) aT (vs ++ [v]).toArray := ⟨_, by simpa using l2'⟩
  have I' : c.Inv { γ₂ with th := γ₂.th ++ [l] } (un Z W₂) (s₂.heap.update aT (Obj.mapSeq fun xs => xs.push v)) := by
    rw [H.inv]
    refine ⟨⟨t, u, isList_at l1 fun o e => (sb.2 _ H.ne).trans e⟩, vs ++ [v], l2'', ?_⟩
    rw [List.map_append]
    exact Reps.append (.one (Rep.carry cy o₂.1)) (l3.carry cy)
  have g' := R₂.g.turn (tk := s₂.toks) hM sb l2''.isList I'
  obtain ⟨x₃, R₃⟩ := R₂.call (keptF_turn hM sb) g'
  exact q _ W₂ ((x₁.trans (x₂.trans x₃)).toExt) R₃
end
structure NewOk (c : Cx) (C : Addr) (K : Frag) (fI : Addr) (attrs : List Str) : Prop where
  inn : K.In c.h0
  makes : makesIn K C = true
  keep : keepIn K (.ref C) = true
  init : findIn K (.ref C) "__init__" = some (some (.ref fI))
  initf : typeIn K (.ref fI) = some (.type "function")
  sa : findIn K (.ref C) "__setattr__" = some (some (.builtin "object.__setattr__"))
  over : plainOver K C = true
  tk : ∀ n ∈ attrs, takerIn K C n = some none
  hd : (clsIn K C).any (·.hasDict) = true
section
variable {c : Cx} {k : Nat} {S : Scope} {ρ ρ' ρ₁ ρ₂ ρ₃ : Vars} {γ γ' γ₁ γ₂ γ₃ : GS} {fn : Bool} {aM aT CT : Addr}
theorem osa_at {A : Around} {s : Shared} {R : Result → Shared → Prop} {K : Frag} {C x dx : Addr} {ox od : Obj} {n : Str} {tk : Tok} {v : Value} {es : List DictEntry} {m : Nat} (X : K.In s.heap) (I : InstAt s.heap x ox C (some od)) (hd : ox.dict = some dx)
    (over : plainOver K C = true) (ht : takerIn K C n = some none) (hdd : (clsIn K C).any (·.hasDict) = true)
    (hl : (lookIn n od).isSome = true) (e' : (Obj.putName n (PyData.keyHash c.w.params n) (.str n s.toks) v od).data = .dict es.toArray m) (hz : es.length ≤ 1000)
    (q : R (.ok (.ret .none)) { s with heap := s.heap.update dx (Obj.putName n (PyData.keyHash c.w.params n) (.str n s.toks) v), toks := s.toks + 1 }) :
    codeAny (model c.prog c.w) A (.call (.builtin "object.__setattr__") ⟨[.ref x, .str n tk, v], []⟩) R s := by
  obtain ⟨hh, g, dr, t, os⟩ := s
  dsimp only at *
  refine osa_open X I over ht fun b => ?_
  obtain ⟨cd, hc, hd'⟩ := any_some hdd
  obtain ⟨hx, hcl, hn, D⟩ := I
  rw [hd] at D
  obtain ⟨oc, odi, oda, osl⟩ := ox
  dsimp only at hcl hd
  subst hcl hd
  have D : hh.get? dx = some od := D
  have D' : (hh.update dx (Obj.putName n (PyData.keyHash c.w.params n) (.str n t) v)).get? dx = some (Obj.putName n (PyData.keyHash c.w.params n) (.str n t) v od) :=
    Heap.get?_update_self _ D (by generalize Obj.putName n (PyData.keyHash c.w.params n) (.str n t) v od = z at e'; obtain ⟨_, _, dd, _⟩ := z; cases e'; rfl)
  refine wpAny_bind (wpAny_pure (wpAny_bind (wpAny_bind (wpAny_loadPart hx (wpAny_bind ((looks_clsIn X hc).here ?_))))))
  rw [hd']
  refine wpAny_pure (a := some dx) (wpAny_bind (wpAny_pure (wpAny_bind ?_)))
  unfold nsSet
  refine wpAny_bind (wpAny_bind (wpAny_askSetting (wpAny_pure (wpAny_bind (wpAny_mkText (wpAny_bind (wpAny_loadPart D ?_)))))))
  unfold lookIn at hl
  split at hl
  · rename_i es₀ n₀ q'
    rw [q']
    dsimp only
    have c' : (!es₀.any (·.key.isStr n) && es₀.any (·.refKey)) = false := by
      rw [← Array.any_toList, ← Array.any_toList]
      split at hl
      · rename_i en he
        rw [List.any_eq_true.mpr ⟨en, List.mem_of_find?_eq_some he, List.find?_some he⟩]; rfl
      · split at hl
        · cases hl
        · rename_i z; rw [Bool.not_eq_true] at z; rw [z, Bool.and_false]
    rw [aRefKeyMayBeTheName_at, c']
    refine wpAny_updatePart D ?_
    refine wpAny_bind (wpAny_lookBehind D' (by rw [e']; exact pastItsLine_dict (by rw [List.size_toArray, sizeLine_eq]; omega)) ?_)
    exact wpAny_pure q
  · cases hl
theorem setattr_step {A : Around} {s : Shared} {Q : Unit → Shared → Prop} {E : Value → Shared → Prop} {K : Frag} {C x dx : Addr} {ox od : Obj} {n : Str} {v : Value} {es : List DictEntry} {m : Nat} (X : K.In s.heap) (I : InstAt s.heap x ox C (some od)) (hd : ox.dict = some dx)
    (sa : findIn K (.ref C) "__setattr__" = some (some (.builtin "object.__setattr__"))) (over : plainOver K C = true) (tk : takerIn K C n = some none) (hdd : (clsIn K C).any (·.hasDict) = true)
    (hl : (lookIn n od).isSome = true) (e' : (Obj.putName n (PyData.keyHash c.w.params n) (.str n (s.toks + 1)) v od).data = .dict es.toArray m) (hz : es.length ≤ 1000)
    (q : Q () { s with heap := s.heap.update dx (Obj.putName n (PyData.keyHash c.w.params n) (.str n (s.toks + 1)) v), toks := s.toks + 2 }) : wpAny (model c.prog c.w) A (setAttr (.ref x) n v) Q E s :=
  set_plain X I sa (osa_at (s := { s with toks := s.toks + 1 }) X I hd over tk hdd hl e' hz q)
theorem init_enter {f : Addr} {fd : FuncData} {body : List Stmt} {names : List Str} {A : Around} {s : Shared} {R : Result → Shared → Prop} {vs ws : List Value} (F : Fun c f fd body) (hb : BindsTo s fd ⟨vs, []⟩ (names.zip ws)) (hk : ∀ x ∈ names, fd.scope.names.lookup x = some .local)
    (nd : names.Nodup) (hlen : ws.length = names.length) (hdp : A.depth < recursionLimit) (ok : CxOk c) (base : ∀ b o, c.h0.get? b = some o → s.heap.get? b = some o)
    (h : ∀ (env : Env) (h₁ : Heap) (tk : Nat) (m : Str → Option Value), env.scope = fd.scope → env.globals = mainGlobals → env.builtins = builtinsNs → (∀ b o, s.heap.get? b = some o → h₁.get? b = some o) → s.heap.get? env.locals = none → h₁.Ns env.locals m → (∀ x v, (x, v) ∈ names.zip ws → m x = some v) →
      wpAny (model c.prog c.w) (A.deeper env) (execs body env) (fun f s' => R (.ok (.ret (match f with | .ret v => v | _ => .none))) s')
        (fun e s' => wpAny (model c.prog c.w) (A.deeper env) (leaving env e) (fun _ s'' => R (.error e) s'') (fun e' s'' => R (.error e') s'') s') { s with heap := h₁, toks := tk }) :
    codeAny (model c.prog c.w) A (.call (.ref f) ⟨vs, []⟩) R s := by
  obtain ⟨ob, hob, hdat⟩ := F.obj
  refine codeAny_call_function hdp (base _ _ hob) hdat F.co F.ge F.body (F.code.keeps base) ?_
  refine hb _ _ _ _ ?_
  rw [F.cl]
  have hbk : ∀ x ∈ names.zip ws, fd.scope.names.lookup x.1 = some .local ∨ (fd.scope.names.lookup x.1 = some .cell ∧ ((cellsFrom (s.heap.objs.size + 1) fd.scope.names []).lookup x.1).isSome = true) := fun x hx =>
    .inl (hk x.1 (List.of_mem_zip hx).1)
  refine wpAny_newFunctionEnv_cells F.ki hbk fun env he s' x => ?_
  have hL : env.locals = s.heap.objs.size := by rw [he]; rfl
  have hsc : env.scope = fd.scope := by rw [he]; rfl
  have hgl : env.globals = mainGlobals := by rw [he]; exact F.gl
  have hbl : env.builtins = builtinsNs := by rw [he]; exact F.bl
  obtain ⟨h₁, tk, rfl, keep⟩ := x.done
  refine ⟨ok.lim.keeps fun b o e => keep b o (base b o e), codeAny_func ?_⟩
  refine h env h₁ tk _ hsc hgl hbl keep (by rw [hL]; exact fresh_size _) x.toInCall.ns fun y v hm => ?_
  have nd' : ((names.zip ws).map (·.1)).Nodup := by rw [zip_names hlen]; exact nd
  exact bindL_mem nd' hm (by unfold Env.kindOf; rw [hsc]; exact hk y (List.of_mem_zip hm).1)
end
section
variable {c : Cx} {k : Nat} {S : Scope} {ρ ρ' ρ₁ ρ₂ ρ₃ : Vars} {γ γ' γ₁ γ₂ γ₃ : GS} {fn : Bool} {aM aT CT : Addr}
theorem looks_name {M : Model} {A : Around} {E : Value → Shared → Prop} {s : Shared} {env : Env} {y : Str} {p : Pos} {v : Value} {m : Str → Option Value} {Q : Value → Shared → Prop} (hk : env.scope.kind = .function) (hl : env.scope.names.lookup y = some .local) (hn : s.heap.Ns env.locals m) (hm : m y = some v) (q : Q v s)
    (hd : (y == ("__debug__" : Str)) = false := by decide) : wpAny M A (eval (.Name y p) env) Q E s := wpAny_Name (wpAny_loadName_local hk hl hn hm q) hd
theorem init_stmt {A : Around} {env : Env} {s : Shared} {E : Value → Shared → Prop} {Q : Flow → Shared → Prop} {K : Frag} {C fI x dx : Addr} {od : Obj} {n y : Str} {p1 p2 p3 p4 : Pos} {v : Value} {es : List DictEntry} {j : Nat} {attrs : List Str} {m : Str → Option Value}
    (N : NewOk c C K fI attrs) (base : ∀ b o, c.h0.get? b = some o → s.heap.get? b = some o) (hk : env.scope.kind = .function) (h1 : env.scope.names.lookup ("self" : Str) = some .local) (h2 : env.scope.names.lookup y = some .local) (hns : s.heap.Ns env.locals m) (hself : m ("self" : Str) = some (.ref x)) (hy : m y = some v)
    (I : InstAt s.heap x (instObjOf C dx) C (some od)) (hne : dx ≠ env.locals) (hxd : x ≠ dx) (ht : n ∈ attrs)
    (hl : (lookIn n od).isSome = true) (e' : (Obj.putName n (PyData.keyHash c.w.params n) (.str n (s.toks + 1)) v od).data = .dict es.toArray j) (hz : es.length ≤ 1000)
    (q : ∀ h', Heap.SameBut dx s.heap h' → InstAt h' x (instObjOf C dx) C (some (Obj.putName n (PyData.keyHash c.w.params n) (.str n (s.toks + 1)) v od)) → h'.Ns env.locals m → Q .next { s with heap := h', toks := s.toks + 2 })
    (hd : (y == ("__debug__" : Str)) = false := by decide)
    (hs : swapsWith (.Name y p3) (some (.Attribute (.Name "self" p1) n p2)) p4.line env = pure false := by rfl) :
    wpAny (model c.prog c.w) A (exec (.Assign [.Attribute (.Name "self" p1) n p2] (.Name y p3) p4) env) Q E s := by
  refine plainObj_wpAny_Assign_Attribute (looks_name hk h2 hns hy (looks_name hk h1 hns hself ?_) hd) hs
  refine setattr_step (N.inn.keeps base) I rfl N.sa N.over (N.tk n ht) N.hd hl e' hz ?_
  have D : s.heap.get? dx = some od := I.dict
  have D' := Heap.get?_update_self (Obj.putName n (PyData.keyHash c.w.params n) (.str n (s.toks + 1)) v) D (by
    generalize Obj.putName n (PyData.keyHash c.w.params n) (.str n (s.toks + 1)) v od = z at e'; obtain ⟨_, _, dd, _⟩ := z; cases e'; rfl)
  have sb := Heap.SameBut.update s.heap dx (Obj.putName n (PyData.keyHash c.w.params n) (.str n (s.toks + 1)) v)
  exact q _ sb ⟨(sb.2 x hxd).trans I.at_, rfl, rfl, D'⟩ (hns.sameBut sb (Ne.symm hne))
structure ThingOk (c : Cx) (CT : Addr) : Prop where
  glob : c.mg "Thing" = some (.ref CT)
  new : ∃ K fI, NewOk c CT K fI ["kind", "fields", "sizes"] ∧ FnIs c "Thing.__init__" (mR 15 0) [] fI
  attr : AttrOk c CT "sizes"
theorem op_thing {dk df : D} {l : List Int} (T : ThingOk c CT) : Op c (k + 1) (callOp (.ref CT)) [dk, df, .ints l] (.d (thingD CT l)) := by
  intro A s X vs Q E rm ok base lv rs q
  obtain ⟨vk, vs, rfl, rk, rs⟩ := rs.cons_inv
  obtain ⟨vf, vs, rfl, rf, rs⟩ := rs.cons_inv
  obtain ⟨vz, vs, rfl, rz, rs⟩ := rs.cons_inv
  obtain rfl := rs.nil_inv
  obtain ⟨K, fI, N, FI⟩ := T.new
  obtain ⟨fd, F, e1, e2, hd⟩ := FI.fun ⟨rfl, rfl, rfl, rfl, rfl, rfl, rfl⟩
  obtain ⟨hh, g, dr, t, os⟩ := s
  have X₀ := N.inn.keeps base
  show wpAny _ A (call (.ref CT) [vk, vf, vz]) Q E _
  have hdf : fd.defaults = .none := hd.elim (·.2) fun q => absurd rfl q.1
  refine wpAny_call (make_core (rest := [vk, vf, vz]) (kw := []) (makes_of X₀ N.makes) (looks_findIn X₀ N.init) (fun self => bind_fn X₀ self N.initf) (.inl rfl) ?_)
  have g0 : ∀ b o, hh.get? b = some o → ((hh.push emptyDict).push (instObj CT hh.objs.size)).get? b = some o := fun b o e => Heap.get?_push_of_some _ (Heap.get?_push_of_some _ e)
  have hx : ((hh.push emptyDict).push (instObj CT hh.objs.size)).get? (hh.objs.size + 1) = some (instObj CT hh.objs.size) := by heap_get
  have hdx : ((hh.push emptyDict).push (instObj CT hh.objs.size)).get? hh.objs.size = some emptyDict := by heap_get
  refine init_enter (names := ["self", "kind", "fields", "sizes"]) (ws := [.ref (hh.objs.size + 1), vk, vf, vz]) F (BindsTo.of_eq (by unfold bindArgs; rw [e2, hdf]; rfl)) (by rw [e1]; decide) (by decide) rfl ?_ ok (fun b o e => g0 b o (base b o e)) ?_
  · show A.depth + 1 < _
    have := rm.2.1; omega
  intro env h₁ tk m hsc hgl hbl keep hloc hns hm
  have b1 : ∀ b o, c.h0.get? b = some o → h₁.get? b = some o := fun b o e => keep b o (g0 b o (base b o e))
  have hk : env.scope.kind = .function := by rw [hsc]; exact F.ki
  have hne : hh.objs.size ≠ env.locals := fun e => by rw [← e] at hloc; rw [hloc] at hdx; cases hdx
  have hxd : hh.objs.size + 1 ≠ hh.objs.size := by intro e; exact absurd (show (hh.objs.size : Nat) + 1 = hh.objs.size from e) (by omega)
  have I1 : InstAt h₁ (hh.objs.size + 1) (instObjOf CT hh.objs.size) CT (some emptyDict) := ⟨keep _ _ hx, rfl, rfl, keep _ _ hdx⟩
  have ms := hm "self" _ (List.Mem.head _)
  have mk := hm "kind" vk (List.Mem.tail _ (List.Mem.head _))
  have mf := hm "fields" vf (List.Mem.tail _ (List.Mem.tail _ (List.Mem.head _)))
  have mz := hm "sizes" vz (List.Mem.tail _ (List.Mem.tail _ (List.Mem.tail _ (List.Mem.head _))))
  have hbd : ∀ h' , Heap.SameBut hh.objs.size h₁ h' → ∀ b o, c.h0.get? b = some o → h'.get? b = some o := fun h' sb b o e => (sb.2 b fun q => by rw [q] at e; have := base _ _ e; rw [show (⟨hh, g, dr, t, os⟩ : Shared).heap = hh from rfl, fresh_size] at this; cases this).trans (b1 b o e)
  refine wpAny_execs_cons (init_stmt N b1 hk (by rw [hsc, e1]; rfl) (by rw [hsc, e1]; rfl) hns ms mk I1 hne hxd (by decide) (by rfl) (es := [_]) rfl (Nat.le_of_ble_eq_true rfl) fun h₂ sb2 I2 ns2 => ?_)
  refine wpAny_execs_cons (init_stmt N (hbd h₂ sb2) hk (by rw [hsc, e1]; rfl) (by rw [hsc, e1]; rfl) ns2 ms mf I2 hne hxd (by decide) (by rfl) (es := [_, _]) rfl (Nat.le_of_ble_eq_true rfl) fun h₃ sb3 I3 ns3 => ?_)
  refine wpAny_execs_cons (init_stmt N (hbd h₃ (sb2.trans sb3)) hk (by rw [hsc, e1]; rfl) (by rw [hsc, e1]; rfl) ns3 ms mz I3 hne hxd (by decide) (by rfl) (es := [_, _, _]) rfl (Nat.le_of_ble_eq_true rfl) fun h₄ sb4 I4 ns4 => ?_)
  refine wpAny_execs_nil ⟨rfl, ?_⟩
  have sb := (sb2.trans sb3).trans sb4
  have hdn : ∀ o, hh.get? hh.objs.size = some o → False := fun o e => by rw [fresh_size] at e; cases e
  have G : Grow ⟨hh, g, dr, t, os⟩ { heap := h₄, gens := g, drawn := dr, toks := tk + 2 + 2 + 2, os := os } := ⟨fun b o e => (sb.2 b fun q => hdn o (q ▸ e)).trans (keep b o (g0 b o e)), rfl, rfl, rfl⟩
  have nX : ∀ b, hh.get? b = none → ¬ X b := fun b e xb => by obtain ⟨o, ho⟩ := lv b xb; rw [show (⟨hh, g, dr, t, os⟩ : Shared).heap = hh from rfl, e] at ho; cases ho
  refine q _ _ G ?_
  have f1 : hh.get? (hh.objs.size + 1) = none := by
    cases e : hh.get? (hh.objs.size + 1) with
    | none => rfl
    | some o => exact absurd (Heap.lt_size e) (by show ¬ (hh.objs.size : Nat) + 1 < hh.objs.size; omega)
  refine .inst (vs := [vz]) (nX _ f1) I4.at_ (nX _ (fresh_size hh)) I4.dict ?_ ?_ (.cons (Rep.carry G.carry rz) .nil)
  · intro i n v hn hv
    match i, hn, hv with
    | 0, hn, hv => cases hn; cases hv; rfl
    | i + 1, hn, _ => simp at hn
  · intro n hn
    simp only [methNames, List.mem_cons, List.not_mem_nil, or_false] at hn
    rcases hn with rfl | rfl | rfl <;> rfl
end
section
variable {c : Cx} {k : Nat} {S : Scope} {ρ ρ' ρ₁ ρ₂ ρ₃ : Vars} {γ γ' γ₁ γ₂ γ₃ : GS} {fn : Bool} {aM aT CT CH : Addr}
theorem op_tuple_tuple {ds : List D} : Op c k (callOp (.type "tuple")) [.tuple ds] (.d (.tuple ds)) := by
  intro A s X vs Q E rm ok base lv rs q
  obtain ⟨v, vs, rfl, r1, rs⟩ := rs.cons_inv
  obtain rfl := rs.nil_inv
  obtain ⟨a, ws, rfl, n, h, rs'⟩ := rep_tuple r1
  exact call_tuple_same h (q _ _ (Grow.refl s) r1)
theorem ev_ccall {x : Str} {p pos : Pos} {C : Addr} {K : Frag} {args : List Expr} {ds : List D} {u : V} (hm : c.mg x = some (.ref C)) (inn : K.In c.h0) (hk : keepIn K (.ref C) = true) (h1 : Evs c k S ρ γ args ds ρ₂ γ₂) (h2 : Op c k (callOp (.ref C)) ds u)
    (hx : S.names.lookup x = some .globalImplicit := by rfl) (hd : (x == ("__debug__" : Str)) = false := by decide)
    (hfe : ∀ env, eval (.Call (.Name x p) args [] pos) env = (do callWith pos (← eval (.Name x p) env) [] (backTo pos (starEach args env)) (backToKw pos (keywordEach [] env))) := by intro _; rfl)
    (hp : ∀ env, (backTo pos (starEach args env)).any (·.1) = false := by intro _; rfl) : EvE c k S ρ γ (.Call (.Name x p) args [] pos) u ρ₂ γ₂ := by
  intro A env W Z s Q E hs rm R q
  show wpAny _ A (eval (.Call (.Name x p) args [] pos) env) Q E s
  rw [hfe env]
  refine wpAny_bind ((ev_glob hx hm hd : EvE c k S ρ γ (.Name x p) _ ρ γ) A env W Z s _ E hs rm R fun v s₁ W₁ x₁ R₁ o₁ f₁ => ?_)
  rw [rep_raw o₁.1]
  refine callWith_of (P := fun h => K.In h) (by rw [hp env]; rfl) (keeps_K hk) (evalArgs_of (hp env) ?_)
  refine h1 pos A env W₁ Z s₁ _ E hs rm R₁ fun vs s₂ W₂ x₂ R₂ rs => ⟨inn.keeps R₂.g.base, ?_⟩
  refine h2 A s₂ (un Z W₂) vs Q E rm R₂.ok R₂.g.base R₂.g.live rs fun v s₃ G res => ?_
  obtain ⟨W₃, x₃, R₃, o₃, f₃⟩ := R₂.after G res
  exact q v s₃ W₃ (x₁.trans (x₂.trans x₃)) R₃ o₃ (f₃.trans (x₁.trans x₂).toExt)
noncomputable abbrev heapD (CH aT : Addr) : D := .inst CH ["things"] [.raw (.ref aT)]
structure HeapOk (c : Cx) (CH aM aT CT : Addr) : Prop where
  hm : HM c aM aT CT
  T : ThingOk c CT
  attr : AttrOk c CH "things"
  put : ∃ f, MethOk c CH "put" f ∧ FnIs c "Heap.put" (mR 16 1) [] f
  new_array : ∃ f, MethOk c CH "new_array" f ∧ FnIs c "Heap.new_array" (mR 16 3) [] f
  object : ∃ f, MethOk c CH "object" f ∧ FnIs c "Heap.object" (mR 16 5) [] f
theorem ev_things {e : Expr} {pos : Pos} (H : HeapOk c CH aM aT CT) (h : EvE c k S ρ γ e (.d (heapD CH aT)) ρ₁ γ₁)
    (he : ∀ env, eval (.Attribute e "things" pos) env = (do let o ← eval e env; standAt pos.atName; let r ← holding [o] (getAttr o "things" true); letTemporaryGo e o r; pure r) := by intro _; with_unfolding_all rfl) : EvE c k S ρ γ (.Attribute e "things" pos) (.d (.raw (.ref aT))) ρ₁ γ₁ :=
  ev_attr (i := 0) h H.attr rfl rfl handed_raw he
theorem put_ok {f : Addr} {l : List Int} (G : Gr c) (H : HeapOk c CH aM aT CT) (F : FnIs c "Heap.put" (mR 16 1) [] f) (hn : γ.th.length ≤ 900) :
    FnOk c k f [heapD CH aT, thingD CT l] γ (.int γ.th.length) { γ with th := γ.th ++ [l] } := by
  refine fn_ok ["self", "thing"] F (ρ₀ := upd (upd e0 "thing" (.d (thingD CT l))) "self" (.d (heapD CH aT))) (o := .ret _ _) ?_ (.inl rfl)
  refine ex_cons (ex_things_append H.hm (ev_things H (ev_name (by trivial))) (ev_name (by trivial)) (by omega)) ?_
  refine ex_ret (ex_return (ev_is (ev_binop (ev_bcallR G rfl (evs_cons (ev_things H (ev_name (by trivial))) evs_nil) (opR_len_things H.hm (by simp; omega))) ev_int op_sub) ?_))
  simp
theorem new_array_ok {f : Addr} {l : List Int} {dk : D} {its : List D} (G : Gr c) (H : HeapOk c CH aM aT CT) (F : FnIs c "Heap.new_array" (mR 16 3) [] f) (hn : γ.th.length ≤ 900) (hi : its.length ≤ 1000) :
    FnOk c (k + 1) f [heapD CH aT, dk, .ints l, .list its] γ (.int γ.th.length) { γ with th := γ.th ++ [l] } := by
  refine fn_ok ["self", "kind", "sizes", "items"] F (ρ₀ := upd (upd (upd (upd e0 "items" (.d (.list its))) "sizes" (.d (.ints l))) "kind" (.d dk)) "self" (.d (heapD CH aT))) (o := .ret _ _) ?_ (.inl rfl)
  obtain ⟨f1, M1, F1⟩ := H.put
  obtain ⟨K, fI, N, _⟩ := H.T.new
  exact ex_ret (ex_return (ev_mcall (ev_name (by trivial)) M1 F1.at (evs_cons (ev_ccall H.T.glob N.inn N.keep (evs_cons (ev_name (by trivial)) (evs_cons (Ev.data (ev_bcall G rfl (evs_cons (ev_name (by trivial)) evs_nil) (op_list_seq (.inl rfl) (by omega)))) (evs_cons (ev_bcall G rfl (evs_cons (ev_name (by trivial)) evs_nil) op_tuple_tuple) evs_nil))) (op_thing H.T)) evs_nil) (put_ok G H F1 hn)))
theorem object_ok {f : Addr} {l : List Int} {a : Int} (G : Gr c) (H : HeapOk c CH aM aT CT) (F : FnIs c "Heap.object" (mR 16 5) [] f) (hn : γ.th.length ≤ 1000) (h0 : 0 ≤ a) (hd : γ.th[a.toNat]? = some l) :
    FnOk c k f [heapD CH aT, .int a] γ (thingD CT l) γ := by
  have hlt : a < γ.th.length := by
    rcases Nat.lt_or_ge a.toNat γ.th.length with h | h
    · omega
    · rw [List.getElem?_eq_none h] at hd; cases hd
  refine fn_ok ["self", "address"] F (ρ₀ := upd (upd e0 "address" (.d (.int a))) "self" (.d (heapD CH aT))) (o := .ret _ _) ?_ (.inl rfl)
  refine ex_skip (tst_is (tst_not (tst_chain ev_int (ev_name (by trivial)) op_le (fun _ => ev_bcallR G rfl (evs_cons (ev_things H (ev_name (by trivial))) evs_nil) (opR_len_things H.hm hn)) fun _ => op_lt)) (by simp [h0, hlt])) ?_
  exact ex_ret (ex_return (ev_subR (ev_things H (ev_name (by trivial))) (ev_name (by trivial)) (opR_item_things H.hm h0 hd hn fun _ _ => rfl)))
end
section
variable {c : Cx} {k : Nat} {S : Scope} {ρ ρ' ρ₁ ρ₂ ρ₃ : Vars} {γ γ' γ₁ γ₂ γ₃ : GS} {fn : Bool} {aM aT CT CH : Addr}
theorem ev_at {e : Expr} {n : Int} {j : Nat} {p pos : Pos} {ds : List D} {d : D} (h : EvE c k S ρ γ e (.d (.tuple ds)) ρ₁ γ₁) (hd : ds[n.toNat]? = some d) (h0 : 0 ≤ n := by decide) (hl : ds.length ≤ 16777216 := by exact Nat.le_of_ble_eq_true rfl)
    (hs : ∀ o i, subscripted (.Constant (.int n) j p) false o i = operate [o, i] (getItem o i) := by intro _ _; rfl) : EvE c k S ρ γ (.Subscript e (.Constant (.int n) j p) pos) (.d d) ρ₁ γ₁ :=
  ev_sub h ev_int (op_item_tuple h0 hd hs hl)
inductive Vw where
  | arr (a : Nat)
  | view (a : Nat) (p : Int) (ks ss : List Int)
noncomputable def Vw.d : Vw → D
  | .arr a => .tuple [.str "array", .int a]
  | .view a p ks ss => .tuple [.str "view", .int a, .int p, .ints ks, .ints ss]
noncomputable def Vw.par : Vw → Nat
  | .arr a => a
  | .view a _ _ _ => a
noncomputable def Vw.sz (l : List Int) : Vw → List Int
  | .arr _ => l
  | .view _ _ ks _ => ks
noncomputable def Vw.pl : Vw → Int
  | .arr _ => 0
  | .view _ p _ _ => p
noncomputable def Vw.st (l : List Int) : Vw → List Int
  | .arr _ => strides 1 l
  | .view _ _ _ ss => ss
structure VwOk (γ : GS) (v : Vw) (l : List Int) : Prop where
  at_ : γ.th[v.par]? = some l
  many : γ.th.length ≤ 900
  rank : l.length ≤ 3
  small : ∀ z ∈ l, 0 < z ∧ z ≤ 4
theorem VwOk.sm {v : Vw} {l : List Int} (h : VwOk γ v l) : ∀ z ∈ l, Small z := fun z hz => by obtain ⟨a, b⟩ := h.small z hz; constructor <;> omega
theorem Vw.d_eq (v : Vw) : ∃ ds, v.d = .tuple ds ∧ ds[1]? = some (.int v.par) ∧ ds.length ≤ 16777216 ∧ ((∃ a, v = .arr a ∧ ds[0]? = some (.str "array")) ∨ (∃ a p ks ss, v = .view a p ks ss ∧ ds[0]? = some (.str "view") ∧ ds[2]? = some (.int p) ∧ ds[3]? = some (.ints ks) ∧ ds[4]? = some (.ints ss))) := by
  cases v with
  | arr a => exact ⟨_, rfl, rfl, Nat.le_of_ble_eq_true rfl, .inl ⟨a, rfl, rfl⟩⟩
  | view a p ks ss => exact ⟨_, rfl, rfl, Nat.le_of_ble_eq_true rfl, .inr ⟨a, p, ks, ss, rfl, rfl, rfl, rfl, rfl⟩⟩
theorem is_array_ok {f : Addr} {v : Vw} (G : Gr c) (F : FnIs c (dR 26).name (dR 26) [] f) : FnOk c k f [v.d] γ (.bool true) γ := by
  refine fn_ok ["value"] F (ρ₀ := upd e0 "value" (.d v.d)) (o := .ret _ γ) ?_ (.inl rfl)
  cases v with
  | arr a => exact ex_ret (ex_return (ev_is (ev_cmp (ev_at (ev_name (by trivial)) rfl) (ev_tuple (evs_cons ev_str (evs_cons ev_str evs_nil))) (op_in_tuple (n := 0) (by decide +kernel) (by decide +kernel))) (congrArg D.bool (by decide +kernel))))
  | view a p ks ss => exact ex_ret (ex_return (ev_is (ev_cmp (ev_at (ev_name (by trivial)) rfl) (ev_tuple (evs_cons ev_str (evs_cons ev_str evs_nil))) (op_in_tuple (n := 0) (by decide +kernel) (by decide +kernel))) (congrArg D.bool (by decide +kernel))))
theorem parent_of_ok {f : Addr} {v : Vw} {l : List Int} (G : Gr c) (H : HeapOk c CH aM aT CT) (F : FnIs c (dR 27).name (dR 27) [] f) (ok : VwOk γ v l) : FnOk c (k + 1) f [heapD CH aT, v.d] γ (thingD CT l) γ := by
  refine fn_ok ["heap", "value"] F (ρ₀ := upd (upd e0 "value" (.d v.d)) "heap" (.d (heapD CH aT))) (o := .ret _ γ) ?_ (.inl rfl)
  refine ex_skip (tst_is (tst_not (tst_value (ev_fcall (G.fn 26 (by decide)) (evs_cons (ev_name (by trivial)) evs_nil) fun f F => is_array_ok G F))) rfl) ?_
  obtain ⟨f1, M1, F1⟩ := H.object
  obtain ⟨ds, e, h1, h2, _⟩ := v.d_eq
  rw [e]
  exact ex_ret (ex_return (ev_mcall (ev_name (by trivial)) M1 F1.at (evs_cons (ev_at (ev_name (by trivial)) h1 (by decide) h2) evs_nil) (object_ok G H F1 (by have := ok.many; omega) (by omega) (by simpa using ok.at_))))
theorem sizes_of_ok {f : Addr} {v : Vw} {l : List Int} (G : Gr c) (H : HeapOk c CH aM aT CT) (F : FnIs c (dR 28).name (dR 28) [] f) (ok : VwOk γ v l) : FnOk c (k + 2) f [heapD CH aT, v.d] γ (.ints (v.sz l)) γ := by
  refine fn_ok ["heap", "value"] F (ρ₀ := upd (upd e0 "value" (.d v.d)) "heap" (.d (heapD CH aT))) (o := .ret _ γ) ?_ (.inl rfl)
  cases v with
  | arr a =>
    exact ex_ret (ex_return (ev_if_f (tst_is (tst_cmp (ev_at (ev_name (by trivial)) rfl) ev_str (op_eq (n := 0) (by decide +kernel) (by decide +kernel))) (by decide +kernel)) (ev_attr (i := 0) (ev_fcall (G.fn 27 (by decide)) (evs_cons (ev_name (by trivial)) (evs_cons (ev_name (by trivial)) evs_nil)) fun f F => parent_of_ok G H F ok) H.T.attr rfl rfl handed_tuple)))
  | view a p ks ss =>
    exact ex_ret (ex_return (ev_if_t (tst_is (tst_cmp (ev_at (ev_name (by trivial)) rfl) ev_str (op_eq (n := 0) (by decide +kernel) (by decide +kernel))) (by decide +kernel)) (ev_at (ev_name (by trivial)) rfl)))
theorem layout_of_ok {f : Addr} {v : Vw} {l : List Int} (G : Gr c) (H : HeapOk c CH aM aT CT) (F : FnIs c (dR 29).name (dR 29) [] f) (ok : VwOk γ v l) : FnOk c (k + 3) f [heapD CH aT, v.d] γ (.tuple [.int v.pl, .ints (v.st l)]) γ := by
  refine fn_ok ["heap", "value"] F (ρ₀ := upd (upd e0 "value" (.d v.d)) "heap" (.d (heapD CH aT))) (o := .ret _ γ) ?_ (.inl rfl)
  cases v with
  | arr a =>
    exact ex_ret (ex_return (ev_if_f (tst_is (tst_cmp (ev_at (ev_name (by trivial)) rfl) ev_str (op_eq (n := 0) (by decide +kernel) (by decide +kernel))) (by decide +kernel)) (ev_tuple (evs_cons ev_int (evs_cons (ev_fcall (G.fn 21 (by decide)) (evs_cons (ev_fcall (G.fn 28 (by decide)) (evs_cons (ev_name (by trivial)) (evs_cons (ev_name (by trivial)) evs_nil)) fun f F => sizes_of_ok G H F ok) evs_nil) fun f F => strides_of_ok G F ok.sm (by have := ok.rank; show l.length ≤ 1000; omega)) evs_nil)) (Nat.le_of_ble_eq_true rfl))))
  | view a p ks ss =>
    exact ex_ret (ex_return (ev_if_t (tst_is (tst_cmp (ev_at (ev_name (by trivial)) rfl) ev_str (op_eq (n := 0) (by decide +kernel) (by decide +kernel))) (by decide +kernel)) (ev_tuple (evs_cons (ev_at (ev_name (by trivial)) rfl) (evs_cons (ev_at (ev_name (by trivial)) rfl) evs_nil)) (Nat.le_of_ble_eq_true rfl))))
end
theorem capV_of {scope : Scope} {ρ : Vars} {x : Str} {d : D} (h : scope.names.lookup x = some .free) (hx : ρ x = some (.d d)) : capV scope ρ x = some (.d d) := by
  unfold capV; rw [if_pos h, hx]
noncomputable def freeOf (scope : Scope) : List Str := scope.names.filterMap fun x => if x.2 == .free then some x.1 else none
theorem mem_freeOf {scope : Scope} {n : Str} (h : (n, NameKind.free) ∈ scope.names) : n ∈ freeOf scope := by
  unfold freeOf; rw [List.mem_filterMap]; exact ⟨_, h, rfl⟩
noncomputable def Known (ρ : Vars) : List Str → Prop
  | [] => True
  | x :: r => (ρ x).isSome = true ∧ Known ρ r
theorem known_nil {ρ : Vars} : Known ρ [] := True.intro
theorem known_cons {ρ : Vars} {x : Str} {r : List Str} (h : (ρ x).isSome = true) (h2 : Known ρ r) : Known ρ (x :: r) := ⟨h, h2⟩
theorem some_same {ρ : Vars} {x : Str} {u : V} : (upd ρ x u x).isSome = true := by rw [upd_same]; rfl
theorem some_other {ρ : Vars} {x y : Str} {w : V} (n : x ≠ y) (h : (ρ x).isSome = true) : (upd ρ y w x).isSome = true := by unfold upd; rw [if_neg n]; exact h
theorem Known.mem {ρ : Vars} : ∀ {l : List Str}, Known ρ l → ∀ x ∈ l, ∃ u, ρ x = some u
  | [], _, _, h => by cases h
  | y :: r, k, x, h => by
    rcases List.mem_cons.mp h with e | h
    · exact Option.isSome_iff_exists.mp (e ▸ k.1)
    · exact Known.mem k.2 x h
local macro_rules | `(tactic| trivial) => `(tactic| first | with_reducible exact upd_same | ((with_reducible refine upd_other (by decide) ?_); trivial) | ((with_reducible refine upd_same' ?_); rfl) | exact sub_refl | exact sub_e0 | ((with_reducible refine sub_upd ?_ ?_) <;> trivial) | (refine capV_of (by rfl) ?_; trivial))
section
variable {c : Cx} {k : Nat} {S : Scope} {ρ ρ' ρ₁ ρ₂ ρ₃ σ : Vars} {γ γ' γ₁ γ₂ γ₃ : GS} {fn : Bool} {aM aT CT CH : Addr}
theorem compR_from {elt : Expr} {gens : List Comprehension} {n : Nat} {its out : List D} (h : CompR c k S elt gens n its σ γ out ρ₂ γ₂) : ∀ {ρ : Vars}, SubV σ ρ → ∃ ρ₃, CompR c k S elt gens n its ρ γ out ρ₃ γ₂ := by
  induction h with
  | nil => intro ρ l; exact ⟨ρ, .nil⟩
  | skip hg ha ht hs h ih => intro ρ l; exact ⟨_, .skip hg (as_from ha l) ht hs h⟩
  | emit hg ha ht hn he h ih => intro ρ l; exact ⟨_, .emit hg (as_from ha l) ht hn he h⟩
  | inner hg ha ht hg' hn hp hs hi h1 h2 ih1 ih2 => intro ρ l; exact ⟨_, .inner hg (as_from ha l) ht hg' hn hp hs hi h1 h2⟩
theorem evit_sub {e : Expr} {p : Bool} {its : List D} (h : EvIt c k S ρ γ e p its ρ₁ γ₁) (l : SubV σ ρ₁) : EvIt c k S ρ γ e p its σ γ₁ :=
  fun A env W Z s Q E hs rm R q => h A env W Z s Q E hs rm R fun it I s' W' x f nW nZ R' b => q it I s' W' x f nW nZ (R'.forget l) b
theorem ev_lc {σ : Vars} {elt tgt iter : Expr} {ifs : List Expr} {rest : List Comprehension} {scope : Scope} {pos : Pos} {p : Bool} {its out : List D} (hi : EvIt c k S ρ γ iter p its ρ₁ γ₁) (hσ : SubV σ (capV scope ρ₁)) (hl : out.length ≤ 16777216)
    (h : ∃ ρ₂, CompR c k (relS scope S) elt (⟨tgt, iter, ifs, 0⟩ :: rest) 0 its σ γ₁ out ρ₂ γ₂) (hfr : Known ρ (freeOf scope)) (hok : compOk scope S = true := by rfl)
    (hr : RestOk rest := by first | exact restOk0 | exact restOk1) (hp : (p = true → isTup tgt = true) := by first | (intro h; cases h; done) | (intro _; rfl)) (hs : ∀ env x, foldedSetIterable iter env x = pure x := by intro _ _; rfl) : EvE c k S ρ γ (.ListComp elt (⟨tgt, iter, ifs, 0⟩ :: rest) scope pos) (.own out) ρ₁ γ₂ := by
  obtain ⟨ρ₂, h⟩ := h
  obtain ⟨ρ₃, h'⟩ := compR_from h hσ
  exact ev_listcomp hi hok (fun n hn => hfr.mem n (mem_freeOf hn)) hl h' hr hp hs
theorem ex_lc {σ : Vars} {y : Str} {py : Pos} {elt tgt iter : Expr} {ifs : List Expr} {rest : List Comprehension} {scope : Scope} {pos spos : Pos} {p : Bool} {its out : List D} (hi : EvIt c k S ρ γ iter p its ρ₁ γ₁) (hσ : SubV σ (capV scope ρ₁)) (hl : out.length ≤ 16777216)
    (h : ∃ ρ₂, CompR c k (relS scope S) elt (⟨tgt, iter, ifs, 0⟩ :: rest) 0 its σ γ₁ out ρ₂ γ₂) (hfr : Known ρ (freeOf scope)) (hok : compOk scope S = true := by rfl)
    (hr : RestOk rest := by first | exact restOk0 | exact restOk1) (hp : (p = true → isTup tgt = true) := by first | (intro h; cases h; done) | (intro _; rfl)) (hs : ∀ env x, foldedSetIterable iter env x = pure x := by intro _ _; rfl)
    (hsw : ∀ env, env.scope = S → swapsWith (.ListComp elt (⟨tgt, iter, ifs, 0⟩ :: rest) scope pos) (some (.Name y py)) spos.line env = pure true := by intro env h; obtain ⟨_, _⟩ := env; cases h; rfl) (hy : stOk S true y = true := by rfl) :
    ExS c k S ρ γ (.Assign [.Name y py] (.ListComp elt (⟨tgt, iter, ifs, 0⟩ :: rest) scope pos) spos) (.next (upd ρ₁ y (.own out)) γ₂) := by
  obtain ⟨ρ₂, h⟩ := h
  obtain ⟨ρ₃, h'⟩ := compR_from h hσ
  exact ex_assign_comp hi hok (fun n hn => hfr.mem n (mem_freeOf hn)) hl h' hr hsw (as_name hy) hp hs
theorem comp_last {β : Type} (g r : β → D) (T : β → Vars) {elt tgt iter : Expr} {gens : List Comprehension} {n : Nat} {σ : Vars} (hg : gens[n]? = some ⟨tgt, iter, [], 0⟩) (hn : gens[n + 1]? = none) : ∀ (l : List β),
    (∀ b ∈ l, As c S false tgt (.d (g b)) σ (T b) ∧ EvE c k S (T b) γ elt (.d (r b)) σ γ) → CompR c k S elt gens n (l.map g) σ γ (l.map r) σ γ
  | [], _ => .nil
  | b :: l, h => .emit hg (h b (.head _)).1 .nil hn (h b (.head _)).2 (comp_last g r T hg hn l fun b' hb => h b' (.tail _ hb))
theorem comp_nest {β δ : Type} (g : β → D) (gs : β → List δ) (g' : δ → D) (r : β → δ → D) (T : β → Vars) (T' : β → δ → Vars) {elt tgt iter t i : Expr} {σ : Vars} : ∀ (l : List β),
    (∀ b ∈ l, As c S false tgt (.d (g b)) σ (T b) ∧ SubV σ (T b) ∧ EvIt c k S (T b) γ i false ((gs b).map g') (T b) γ ∧ ∀ d ∈ gs b, As c S false t (.d (g' d)) (T b) (T' b d) ∧ EvE c k S (T' b d) γ elt (.d (r b d)) (T b) γ) →
    (∀ env x, foldedSetIterable i env x = pure x) → ∃ ρ', CompR c k S elt [⟨tgt, iter, [], 0⟩, ⟨t, i, [], 0⟩] 0 (l.map g) σ γ (l.flatMap fun b => (gs b).map (r b)) ρ' γ
  | [], _, _ => ⟨_, .nil⟩
  | b :: l, h, hf => by
    obtain ⟨h1, h2, h3, h4⟩ := h b (.head _)
    obtain ⟨ρ', ih⟩ := comp_nest g gs g' r T T' (elt := elt) (tgt := tgt) (iter := iter) (t := t) (i := i) l (fun b' hb => h b' (.tail _ hb)) hf
    obtain ⟨ρ'', ih'⟩ := compR_from ih h2
    exact ⟨ρ'', .inner rfl h1 .nil rfl rfl (by intro h; cases h) hf h3 (comp_last g' (r b) (T' b) rfl rfl (gs b) h4) ih'⟩
theorem dot_nonneg : ∀ (r l s : List Int), Within r l → (∀ z ∈ s, 0 ≤ z) → 0 ≤ dot r s
  | [], _, _, _, _ => by simp [dot]
  | _ :: _, [], _, h, _ => by simp [Within] at h
  | a :: r, b :: l, [], _, _ => by simp [dot]
  | a :: r, b :: l, z :: s, h, hz => by
    have h1 := h.2 0 a b rfl rfl
    have ih := dot_nonneg r l s ⟨by simpa using h.1, fun n x y hx hy => h.2 (n + 1) x y (by simpa using hx) (by simpa using hy)⟩ fun z' hz' => hz z' (.tail _ hz')
    have hz0 := hz z (.head _)
    show 0 ≤ (a - 1) * z + dot r s
    have := Int.mul_nonneg (show 0 ≤ a - 1 by omega) hz0
    omega
theorem strides_pos : ∀ (l : List Int) (f : Int), 0 < f → (∀ z ∈ l, 0 < z) → ∀ z ∈ strides f l, 0 < z
  | [], _, _, _, z, hz => by simp [strides] at hz
  | b :: l, f, hf, hl, z, hz => by
    rcases List.mem_cons.mp hz with e | h
    · exact e ▸ hf
    · exact strides_pos l (f * b) (Int.mul_pos hf (hl b (.head _))) (fun y hy => hl y (.tail _ hy)) z h
theorem dot_scale (f : Int) : ∀ (r l : List Int) (g : Int), dot r (strides (f * g) l) = f * dot r (strides g l)
  | [], _, _ => by simp [dot]
  | _ :: _, [], _ => by simp [dot, strides]
  | a :: r, b :: l, g => by
    show (a - 1) * (f * g) + dot r (strides (f * g * b) l) = f * ((a - 1) * g + dot r (strides (g * b) l))
    rw [Int.mul_assoc f g b, dot_scale f r l (g * b), Int.mul_add, Int.mul_left_comm]
theorem within_tail {a b : Int} {r l : List Int} (h : Within (a :: r) (b :: l)) : Within r l := ⟨by simpa using h.1, fun n x y hx hy => h.2 (n + 1) x y (by simpa using hx) (by simpa using hy)⟩
theorem digits_dot : ∀ (r l : List Int), Within r l → digits (dot r (strides 1 l)) l = r ∧ rest (dot r (strides 1 l)) l = 0
  | [], [], _ => ⟨rfl, rfl⟩
  | [], _ :: _, h => by simp [Within] at h
  | _ :: _, [], h => by simp [Within] at h
  | a :: r, b :: l, h => by
    have h1 := h.2 0 a b rfl rfl
    have ih := digits_dot r l (within_tail h)
    have e : dot (a :: r) (strides 1 (b :: l)) = (a - 1) + b * dot r (strides 1 l) := by
      show (a - 1) * 1 + dot r (strides (1 * b) l) = _
      rw [Int.mul_one, Int.mul_comm 1 b, dot_scale b r l 1]
    have hb : 0 < b := by omega
    have m : ((a - 1) + b * dot r (strides 1 l)) % b = a - 1 := by
      rw [Int.add_mul_emod_self_left]; exact Int.emod_eq_of_lt (by omega) (by omega)
    have d : ((a - 1) + b * dot r (strides 1 l)) / b = dot r (strides 1 l) := by
      rw [Int.add_mul_ediv_left _ _ (by omega), Int.ediv_eq_zero_of_lt (by omega) (by omega), Int.zero_add]
    unfold digits rest
    rw [e, m, d]
    exact ⟨by rw [ih.1, Int.sub_add_cancel], ih.2⟩
noncomputable abbrev pairD (t : Int × Int) : D := .tuple [.int t.1, .int t.2]
theorem zip_pairs (r s : List Int) : List.zipWith (fun a b => D.tuple [a, b]) (r.map D.int) (s.map D.int) = (r.zip s).map pairD := by
  induction r generalizing s with
  | nil => simp
  | cons a r ih => cases s with
    | nil => simp
    | cons b s => simp [ih]
noncomputable def dsum (l : List (Int × Int)) : Int := (l.map fun t => (t.1 - 1) * t.2).sum
theorem dsum_snoc (l : List (Int × Int)) (t : Int × Int) : dsum (l ++ [t]) = dsum l + (t.1 - 1) * t.2 := by unfold dsum; simp
theorem dsum_dot : ∀ (r s : List Int), dsum (r.zip s) = dot r s
  | [], _ => by simp [dsum, dot]
  | _ :: _, [] => by simp [dsum, dot]
  | a :: r, b :: s => by
    have := dsum_dot r s
    unfold dsum at this ⊢
    simp only [List.zip_cons_cons, List.map_cons, List.sum_cons, dot, this]
structure SzOk (v : Vw) (l : List Int) : Prop where
  small : ∀ z ∈ v.sz l, 0 < z ∧ z ≤ 4
  rank : (v.sz l).length ≤ 3
  same : (v.st l).length = (v.sz l).length
theorem place_in_parent_ok {f : Addr} {v : Vw} {l r : List Int} (G : Gr c) (H : HeapOk c CH aM aT CT) (F : FnIs c (dR 30).name (dR 30) [] f) (ok : VwOk γ v l) (sok : SzOk v l) (hw : Within r (v.sz l)) :
    FnOk c (k + 4) f [heapD CH aT, v.d, .ints r] γ (.int (v.pl + dot r (v.st l))) γ := by
  refine fn_ok ["heap", "value", "indices"] F (ρ₀ := upd (upd (upd e0 "indices" (.d (.ints r))) "value" (.d v.d)) "heap" (.d (heapD CH aT))) (o := .ret _ γ) ?_ (.inl rfl)
  have sm : ∀ z ∈ v.sz l, Small z := fun z hz => by obtain ⟨a, b⟩ := sok.small z hz; constructor <;> omega
  have rk := sok.rank
  refine ex_cons (ex_assign (ev_fcall (G.fn 28 (by decide)) (evs_cons (ev_name (by trivial)) (evs_cons (ev_name (by trivial)) evs_nil)) fun f F => sizes_of_ok G H F ok) as_name) ?_
  refine ex_cons (ex_assign (ev_fcall (G.fn 22 (by decide)) (evs_cons (ev_name (by trivial)) (evs_cons (ev_name (by trivial)) evs_nil)) fun f F => offset_of_ok G F sm (by omega) hw) as_name) ?_
  have h0 := dot_nonneg r (v.sz l) (strides 1 (v.sz l)) hw fun z hz => Int.le_of_lt (strides_pos _ 1 (by decide) (fun z hz => (sok.small z hz).1) z hz)
  refine ex_skip (tst_is (tst_cmp (ev_name (by trivial)) ev_int op_lt) (by simp; exact h0)) ?_
  refine ex_cons (ex_assign (ev_fcall (G.fn 29 (by decide)) (evs_cons (ev_name (by trivial)) (evs_cons (ev_name (by trivial)) evs_nil)) fun f F => layout_of_ok G H F ok) (as_tuple (asl_cons as_name (asl_cons as_name asl_nil)))) ?_
  refine ex_cons (ex_for (o := .next (upd e0 "place" (.d (.int (v.pl + dsum (r.zip (v.st l)))))) γ)
    (evit_sub (σ := upd e0 "place" (.d (.int (v.pl + dsum [])))) (evit_zip2 (ev_builtin rfl (G.bi "zip" (by decide)) rfl) (evs_cons (ev_fcall (G.fn 23 (by decide)) (evs_cons (ev_name (by trivial)) (evs_cons (ev_name (by trivial)) evs_nil)) fun f F => index_of_ok G F (fun z hz => by obtain ⟨a, b⟩ := sok.small z hz; omega) (by omega)) (evs_cons (ev_name (by trivial)) evs_nil)) (.tuple _) (.tuple _)) (by rw [show v.pl + dsum [] = v.pl from Int.add_zero _]; trivial)) ?_) ?_
  · rw [(digits_dot r _ hw).1, zip_pairs]
    refine for_pre (γ := γ) (fun pre => upd e0 "place" (.d (.int (v.pl + dsum pre)))) pairD (fun pre t => upd (upd (upd e0 "place" (.d (.int (v.pl + dsum pre)))) "index" (.d (.int t.1))) "far" (.d (.int t.2))) _ fun pre t post e => ⟨as_tuple (asl_cons as_name (asl_cons as_name asl_nil)), ?_⟩
    have hm : t.1 ∈ r := (List.of_mem_zip (show (t.1, t.2) ∈ r.zip (v.st l) by rw [e]; simp)).1
    obtain ⟨n, hn, hn'⟩ := List.getElem_of_mem hm
    have w := hw.2 n t.1 ((v.sz l)[n]'(by have := hw.1; omega)) (by rw [← hn']; exact List.getElem?_eq_getElem hn) (List.getElem?_eq_getElem _)
    have hn2 : n < (v.sz l).length := by have := hw.1; omega
    have b1 := sok.small _ (List.getElem_mem hn2)
    refine ex_cons (ex_assign (ev_binop (ev_name (by trivial)) (ev_binop (ev_binop (ev_name (by trivial)) ev_int op_sub) (ev_name (by trivial)) (op_mul (mulOk_small (.inl (by omega))))) op_add) as_name) (ex_end ?_)
    rw [dsum_snoc, ← Int.add_assoc]
    trivial
  · rw [← dsum_dot]
    exact ex_ret (ex_return (ev_name (by trivial)))
end
local macro_rules | `(tactic| trivial) => `(tactic| first | with_reducible exact upd_same | ((with_reducible refine upd_other (by decide) ?_); trivial) | ((with_reducible refine upd_same' ?_); rfl) | with_reducible exact sub_refl | with_reducible exact sub_e0 | ((with_reducible refine sub_upd ?_ ?_) <;> trivial) | (refine capV_of (by rfl) ?_; trivial) | exact known_nil | ((refine known_cons ?_ ?_) <;> trivial) | with_reducible exact some_same | ((with_reducible refine some_other (by decide) ?_); trivial))
noncomputable def ifrom : Int → Nat → List Int
  | _, 0 => []
  | x, n + 1 => x :: ifrom (x + 1) n
theorem intsFrom_eq : ∀ (n : Nat) (x : Int), intsFrom x n = (ifrom x n).map D.int
  | 0, _ => rfl
  | n + 1, x => by rw [intsFrom, ifrom, List.map_cons, intsFrom_eq n]
theorem ifrom_mem : ∀ (n : Nat) (x y : Int), y ∈ ifrom x n ↔ x ≤ y ∧ y < x + n
  | 0, x, y => by simp only [ifrom, List.not_mem_nil, false_iff]; omega
  | n + 1, x, y => by
    rw [ifrom, List.mem_cons, ifrom_mem n]
    constructor
    · rintro (rfl | h) <;> omega
    · intro h
      by_cases e : y = x
      · exact .inl e
      · exact .inr (by omega)
theorem ifrom_length : ∀ (n : Nat) (x : Int), (ifrom x n).length = n
  | 0, _ => rfl
  | n + 1, x => by rw [ifrom, List.length_cons, ifrom_length n]
theorem ifrom_get : ∀ (n : Nat) (x : Int) (i : Nat), i < n → (ifrom x n)[i]? = some (x + i)
  | 0, _, i, h => by omega
  | n + 1, x, 0, h => by simp [ifrom]
  | n + 1, x, i + 1, h => by
    rw [ifrom, List.getElem?_cons_succ, ifrom_get n (x + 1) i (by omega)]
    congr 1; omega
noncomputable def below (z : Int) : List Int := ifrom 0 z.toNat
theorem iter_below {z : Int} (h : -1000000 ≤ z) (h' : z ≤ 1000000) : Iter (.range 0 z) ((below z).map D.int) := by
  have := Iter.range 0 z (by decide) (by decide) h h'
  rw [intsFrom_eq, Int.sub_zero] at this
  exact this
theorem below_length (z : Int) : (below z).length = z.toNat := ifrom_length _ _
theorem mem_below {z y : Int} : y ∈ below z ↔ 0 ≤ y ∧ y < z := by unfold below; rw [ifrom_mem]; omega
section
variable {c : Cx} {k : Nat} {S : Scope} {ρ ρ' ρ₁ ρ₂ ρ₃ σ : Vars} {γ γ' γ₁ γ₂ γ₃ : GS} {fn : Bool} {aM aT CT CH : Addr}
theorem ex_lcc {σ : Vars} {y : Str} {py : Pos} {elt tgt iter : Expr} {ifs : List Expr} {rest : List Comprehension} {scope : Scope} {pos spos : Pos} {p : Bool} {its out : List D} (hi : EvIt c k S ρ γ iter p its ρ₁ γ₁) (hσ : SubV σ (capV scope ρ₁)) (hl : out.length ≤ 16777216)
    (h : ∃ ρ₂, CompR c k (relS scope S) elt (⟨tgt, iter, ifs, 0⟩ :: rest) 0 its σ γ₁ out ρ₂ γ₂) (hfr : Known ρ (freeOf scope)) (hok : compOk scope S = true := by rfl)
    (hr : RestOk rest := by first | exact restOk0 | exact restOk1) (hp : (p = true → isTup tgt = true) := by first | (intro h; cases h; done) | (intro _; rfl)) (hs : ∀ env x, foldedSetIterable iter env x = pure x := by intro _ _; rfl) (hy : stOk S true y = true := by rfl)
    (h1 : ∀ env, env.scope = S → swapsWithSole [.Name y py] (.ListComp elt (⟨tgt, iter, ifs, 0⟩ :: rest) scope pos) spos.line env = pure false := by intro env h; obtain ⟨_, _⟩ := env; cases h; rfl) :
    ExS c k S ρ γ (.Assign [.Name y py] (.ListComp elt (⟨tgt, iter, ifs, 0⟩ :: rest) scope pos) spos) (.next (upd ρ₁ y (.d (.list out))) γ₂) := by
  intro A env W Z s Q E hsc hf rm R q
  refine (ex_assign (ev_lc hi hσ hl h hfr hok hr hp hs) (as_name hy) h1 : ExS c k S ρ γ _ (.next (upd ρ₁ y (.own out)) γ₂)) A env W Z s Q E hsc hf rm R fun s' W' x R' => ?_
  obtain ⟨W'', x', R''⟩ := R'.freeze upd_same
  refine q s' W'' (x.trans x') (R''.forget fun z u hz => ?_)
  unfold upd at hz ⊢
  by_cases e : z = y
  · rw [if_pos e] at hz ⊢; exact hz
  · rw [if_neg e] at hz ⊢; rw [if_neg e]; exact hz
noncomputable def placeStep (found : List Int) (t : Int × Int) : List Int := (below t.1).flatMap fun at' => found.map fun p => p + t.2 * at'
noncomputable def placesL (p : Int) (ts : List (Int × Int)) : List Int := ts.foldl placeStep [p]
theorem placesL_snoc (p : Int) (ts : List (Int × Int)) (t : Int × Int) : placesL p (ts ++ [t]) = placeStep (placesL p ts) t := by unfold placesL; rw [List.foldl_append]; rfl
theorem placeStep_length (found : List Int) (t : Int × Int) : (placeStep found t).length = t.1.toNat * found.length := by
  unfold placeStep
  rw [List.length_flatMap]
  simp only [List.length_map]
  rw [List.map_const', below_length, List.sum_replicate_nat]
theorem foldPlaces_length : ∀ (ts : List (Int × Int)) (found : List Int), (∀ t ∈ ts, t.1 ≤ 4) → (ts.foldl placeStep found).length ≤ found.length * 4 ^ ts.length
  | [], found, _ => by simp
  | t :: ts, found, h => by
    rw [List.foldl_cons]
    refine Nat.le_trans (foldPlaces_length ts _ fun t' ht => h t' (.tail _ ht)) ?_
    rw [placeStep_length, List.length_cons, Nat.pow_succ, Nat.mul_comm (4 ^ _) 4, ← Nat.mul_assoc, Nat.mul_comm t.1.toNat]
    exact Nat.mul_le_mul (Nat.mul_le_mul (Nat.le_refl _) (by have := h t (.head _); omega)) (Nat.le_refl _)
theorem placesL_length (p : Int) (ts : List (Int × Int)) (h : ∀ t ∈ ts, t.1 ≤ 4) : (placesL p ts).length ≤ 4 ^ ts.length := by
  have := foldPlaces_length ts [p] h
  simpa [placesL] using this
theorem places_of_ok {f : Addr} {v : Vw} {l : List Int} (G : Gr c) (H : HeapOk c CH aM aT CT) (F : FnIs c (dR 31).name (dR 31) [] f) (ok : VwOk γ v l) (sok : SzOk v l) :
    FnOk c (k + 4) f [heapD CH aT, v.d] γ (.list ((placesL v.pl ((v.sz l).zip (v.st l))).map D.int)) γ := by
  refine fn_ok ["heap", "value"] F (ρ₀ := upd (upd e0 "value" (.d v.d)) "heap" (.d (heapD CH aT))) (o := .ret _ γ) ?_ (.inl rfl)
  refine ex_cons (ex_assign (ev_fcall (G.fn 29 (by decide)) (evs_cons (ev_name (by trivial)) (evs_cons (ev_name (by trivial)) evs_nil)) fun f F => layout_of_ok G H F ok) (as_tuple (asl_cons as_name (asl_cons as_name asl_nil)))) ?_
  refine ex_cons (ex_assign (ev_list (evs_cons (ev_name (by trivial)) evs_nil) (Nat.le_of_ble_eq_true rfl)) as_name) ?_
  refine ex_freeze (x := "found") (by trivial) ?_
  refine ex_cons (ex_for (o := .next (upd e0 "found" (.d (.list ((placesL v.pl ((v.sz l).zip (v.st l))).map D.int)))) γ)
    (evit_sub (σ := upd e0 "found" (.d (.list ((placesL v.pl []).map D.int)))) (evit_zip2 (ev_builtin rfl (G.bi "zip" (by decide)) rfl) (evs_cons (ev_fcall (G.fn 28 (by decide)) (evs_cons (ev_name (by trivial)) (evs_cons (ev_name (by trivial)) evs_nil)) fun f F => sizes_of_ok G H F ok) (evs_cons (ev_name (by trivial)) evs_nil)) (.tuple _) (.tuple _)) (by trivial)) ?_) ?_
  · rw [zip_pairs]
    refine for_pre (γ := γ) (fun pre => upd e0 "found" (.d (.list ((placesL v.pl pre).map D.int)))) pairD (fun pre t => upd (upd (upd e0 "found" (.d (.list ((placesL v.pl pre).map D.int)))) "size" (.d (.int t.1))) "far" (.d (.int t.2))) _ fun pre t post e => ⟨as_tuple (asl_cons as_name (asl_cons as_name asl_nil)), ?_⟩
    have hz : ∀ t' ∈ pre ++ [t], 0 < t'.1 ∧ t'.1 ≤ 4 := fun t' ht => sok.small _ (List.of_mem_zip (show (t'.1, t'.2) ∈ (v.sz l).zip (v.st l) by rw [e]; simp at ht ⊢; rcases ht with h | h <;> simp [h])).1
    have hlen : (placesL v.pl (pre ++ [t])).length ≤ 10000 := by
      refine Nat.le_trans (placesL_length v.pl _ fun t ht => (hz t ht).2) ?_
      have h1 : (pre ++ [t]).length ≤ 3 := by
        have h2 := congrArg List.length e
        rw [List.length_zip] at h2
        simp at h2 ⊢
        have := sok.rank
        omega
      exact Nat.le_trans (Nat.pow_le_pow_right (by decide) h1) (by decide)
    obtain ⟨z0, z1⟩ := hz t (by simp)
    refine ex_cons (ex_lcc (γ₂ := γ) (out := (placesL v.pl (pre ++ [t])).map D.int) (σ := upd (upd e0 "found" (.d (.list ((placesL v.pl pre).map D.int)))) "far" (.d (.int t.2))) (evit_data (ev_bcall G rfl (evs_cons (ev_name (by trivial)) evs_nil) op_range1) (iter_below (by omega) (by omega))) (by trivial) (by rw [List.length_map]; omega) ?_ (by trivial)) ?_
    · rw [placesL_snoc, placeStep, List.map_flatMap]
      simp only [List.map_map]
      exact comp_nest D.int (fun _ => placesL v.pl pre) D.int (fun a p => .int (p + t.2 * a))
        (fun a => upd (upd (upd e0 "found" (.d (.list ((placesL v.pl pre).map D.int)))) "far" (.d (.int t.2))) "at" (.d (.int a)))
        (fun a p => upd (upd (upd (upd e0 "found" (.d (.list ((placesL v.pl pre).map D.int)))) "far" (.d (.int t.2))) "at" (.d (.int a))) "place" (.d (.int p))) (below t.1) (fun a ha => ⟨as_name, by trivial, evit_data (ev_name (by trivial)) (.list _), fun p hp => ⟨as_name, ev_sub_v (ev_binop (ev_name (by trivial)) (ev_binop (ev_name (by trivial)) (ev_name (by trivial)) (op_mul (mulOk_small (.inr (by rw [mem_below] at ha; constructor <;> omega))))) op_add) (by trivial)⟩⟩) (fun _ _ => rfl)
    · exact ex_end (by trivial)
  · exact ex_ret (ex_return (ev_name (by trivial)))
end
section
variable {c : Cx} {k : Nat} {S : Scope} {ρ ρ' ρ₁ ρ₂ ρ₃ σ : Vars} {γ γ' γ₁ γ₂ γ₃ : GS} {fn : Bool} {aM aT CT CH : Addr}
theorem ex_expr {e : Expr} {pos : Pos} (h : EvE c k S ρ γ e (.d .none) ρ₁ γ₁) (hn : ∀ env, swapsWith e none pos.line env = pure false := by intro _; rfl) : ExS c k S ρ γ (.Expr e pos) (.next ρ₁ γ₁) := by
  intro A env W Z s Q E hs hf rm R q
  refine wpAny_Expr ?_ (interactive_fn R.kind) (hn env)
  exact h A env W Z s _ E hs rm R fun v s' W' x R' o f => by rw [rep_none o.1]; exact q s' W' x.toExt R'
theorem ev_globInt {x : Str} {pos : Pos} {i : Int} {t : Tok} (hx : S.names.lookup x = some .globalImplicit) (h : c.mg x = some (.int i t)) (hd : (x == ("__debug__" : Str)) = false := by decide) : EvE c k S ρ γ (.Name x pos) (.d (.int i)) ρ γ := by
  intro A env W Z s Q E hs rm R q
  refine (ev_glob hx h hd : EvE c k S ρ γ (.Name x pos) _ ρ γ) A env W Z s Q E hs rm R fun v s' W' x R' o f => ?_
  rw [rep_raw o.1]
  exact q _ s' W' x R' ⟨.int _ _, trivial⟩ trivial
theorem fn_ok_f (names : List Str) {qual : Str} {d : DefRec} {f : Addr} {ds : List D} {e r : D} {ρ₀ : Vars} {o : Out} (F : FnIs c qual d [e] f)
    (h : ExB c k d.scope ρ₀ γ d.body o) (ho : o = .ret r γ' ∨ (r = .none ∧ ∃ ρ, o = .next ρ γ')) (hρ : bindV (names.zip ds) = ρ₀ := by rfl) (hlen : ds.length = names.length := by rfl)
    (hc : chkFn d names = true := by rfl)
    (hb : ∀ fd : FuncData, fd.params = d.params → ∀ vs v, vs.length = names.length → ∃ k : Option (Array Value) → Sem (List (Str × Value)), bindArgs fd ⟨vs, []⟩ = seqItems? fd.defaults >>= k ∧ k (some #[v]) = pure (names.zip vs) := by
      (intro fd hp vs v hl; unfold bindArgs; rw [hp]; rcases vs with _ | ⟨_, _ | ⟨_, _ | ⟨_, _ | ⟨_, _ | _⟩⟩⟩⟩ <;> first | (simp at hl; done) | exact ⟨_, rfl, rfl⟩)) : FnOk c k f ds γ r γ' := by
  obtain ⟨pl, hk, nd⟩ := chk_plain hc
  obtain ⟨fd, F', e1, e2, hd⟩ := F.fun pl
  subst hρ
  obtain ⟨_, T, o', n, vs', hT, ho', hs, rs'⟩ := hd.elim (fun q => absurd q.1 (by simp)) id
  obtain ⟨v, ws, rfl, r1, r2⟩ := rs'.cons_inv
  obtain rfl := r2.nil_inv
  refine fn_enter F' (ds := ds) (names := names) (fun s X vs hb' hx rs => ?_) (fun x hx => by rw [e1]; exact hk x hx) (fun n x hx => cells_lookup n [] (.inl hx)) nd hlen (by rw [e1]; exact h) ho
  obtain ⟨kk, k1, k2⟩ := hb fd e2 vs v (by rw [rs.length]; exact hlen)
  exact ⟨vs, rs, BindsTo.of_defaults hT (hb' _ _ ho') hs k1 k2⟩
theorem t_and2 {x y : Expr} {a b : Bool} (h1 : TstE c k S ρ γ x a ρ γ) (h2 : a = true → TstE c k S ρ γ y b ρ γ) : AllT c k S ρ γ .And [x, y] (a && b) ρ γ := by
  cases a with
  | false => exact t_and_f h1
  | true =>
    cases b with
    | false => exact t_and_t h1 (t_and_f (h2 rfl))
    | true => exact t_and_t h1 (t_and_t (h2 rfl) t_and_nil)
theorem t_and3 {x y z : Expr} {a b d : Bool} (h1 : TstE c k S ρ γ x a ρ γ) (h2 : a = true → TstE c k S ρ γ y b ρ γ) (h3 : a = true → b = true → TstE c k S ρ γ z d ρ γ) : AllT c k S ρ γ .And [x, y, z] (a && (b && d)) ρ γ := by
  cases a with
  | false => exact t_and_f h1
  | true => exact t_and_t h1 (t_and2 (a := b) (b := d) (h2 rfl) fun e => h3 rfl e)
theorem t_or2 {x y : Expr} {a b : Bool} (h1 : TstE c k S ρ γ x a ρ γ) (h2 : a = false → TstE c k S ρ γ y b ρ γ) : AllT c k S ρ γ .Or [x, y] (a || b) ρ γ := by
  cases a with
  | true => exact t_or_t h1
  | false =>
    cases b with
    | true => exact t_or_f h1 (t_or_t (h2 rfl))
    | false => exact t_or_f h1 (t_or_f (h2 rfl) t_or_nil)
noncomputable def intKind : D := .tuple [.str "name", .str "Int64", .tuple []]
theorem named_ok {f : Addr} {x : Str} {ds : List D} (G : Gr c) (F : FnIs c (dR 13).name (dR 13) [.tuple []] f) : FnOk c k f [.str x, .tuple ds] γ (.tuple [.str "name", .str x, .tuple ds]) γ := by
  refine fn_ok_f ["name", "params"] F (ρ₀ := upd (upd e0 "params" (.d (.tuple ds))) "name" (.d (.str x))) (o := .ret _ γ) ?_ (.inl rfl)
  exact ex_ret (ex_return (ev_tuple (evs_cons ev_str (evs_cons (ev_name (by trivial)) (evs_cons (ev_bcall G rfl (evs_cons (ev_name (by trivial)) evs_nil) op_tuple_tuple) evs_nil))) (Nat.le_of_ble_eq_true rfl)))
noncomputable def kindD (item : D) (n : Int) : D := .tuple [.str "name", .str "Array", .tuple [item, .tuple [.str "n", .int n]]]
theorem array_kind_ok {f : Addr} {d : D} {n : Int} (G : Gr c) (F : FnIs c (dR 17).name (dR 17) [] f) : FnOk c (k + 1) f [d, .int n] γ (kindD d n) γ := by
  refine fn_ok ["item", "rank"] F (ρ₀ := upd (upd e0 "rank" (.d (.int n))) "item" (.d d)) (o := .ret _ γ) ?_ (.inl rfl)
  exact ex_ret (ex_return (ev_fcall G.named (evs_cons ev_str (evs_cons (ev_tuple (evs_cons (ev_name (by trivial)) (evs_cons (ev_tuple (evs_cons ev_str (evs_cons (ev_name (by trivial)) evs_nil)) (Nat.le_of_ble_eq_true rfl)) evs_nil)) (Nat.le_of_ble_eq_true rfl)) evs_nil)) fun f F => named_ok G F))
theorem prodI_small : ∀ (l : List Int), l.length ≤ 3 → (∀ z ∈ l, 0 < z ∧ z ≤ 4) → 0 < prodI l ∧ prodI l ≤ 64
  | [], _, _ => by decide
  | [a], _, h => by have := h a (by simp); rw [prodI_one]; omega
  | [a, b], _, h => by
    have h1 := h a (by simp)
    have h2 := h b (by simp)
    rw [prodI_cons, prodI_one]
    have : a = 1 ∨ a = 2 ∨ a = 3 ∨ a = 4 := by omega
    rcases this with rfl | rfl | rfl | rfl <;> omega
  | [a, b, d], _, h => by
    have h1 := h a (by simp)
    have h2 := h b (by simp)
    have h3 := h d (by simp)
    rw [prodI_cons, prodI_cons, prodI_one]
    have : a = 1 ∨ a = 2 ∨ a = 3 ∨ a = 4 := by omega
    have : b = 1 ∨ b = 2 ∨ b = 3 ∨ b = 4 := by omega
    rcases ‹a = 1 ∨ _› with rfl | rfl | rfl | rfl <;> rcases ‹b = 1 ∨ _› with rfl | rfl | rfl | rfl <;> omega
  | _ :: _ :: _ :: _ :: _, h, _ => by simp at h
theorem map_max (l : List Int) (h : ∀ z ∈ l, 0 < z) : l.map (max 1) = l := by
  induction l with
  | nil => rfl
  | cons a l ih => rw [List.map_cons, ih fun z hz => h z (.tail _ hz), Int.max_eq_right (by have := h a (.head _); omega)]
theorem check_sizes_ok {f : Addr} {l : List Int} {t : Tok} (G : Gr c) (hm : c.mg "MOST_ITEMS" = some (.int 20000 t)) (F : FnIs c (dR 25).name (dR 25) [] f) (hl : l.length ≤ 3) (h : ∀ z ∈ l, 0 < z ∧ z ≤ 4) : FnOk c (k + 1) f [.ints l] γ .none γ := by
  refine fn_ok ["sizes"] F (ρ₀ := upd e0 "sizes" (.d (.ints l))) (o := .next (upd e0 "sizes" (.d (.ints l))) γ) ?_ (.inr ⟨rfl, _, rfl⟩)
  have e' : l.map D.int = l.map fun z => D.int (max 1 z) := by
    conv => lhs; rw [← map_max l fun z hz => (h z hz).1]
    rw [List.map_map]; rfl
  refine ex_skip (tst_bool (tst_is (t_or2 (a := false) (b := false) (tst_is (tst_cmp (Ev.data (ev_lc (γ₂ := γ) (out := (l.filter fun z => decide (z < 0)).map D.int) (σ := e0) (evit_data (ev_name (by trivial)) (.tuple _)) (by trivial) ?_
      ⟨_, comp_filter D.int D.int (fun z => decide (z < 0)) (fun z => upd e0 "size" (.d (.int z))) l fun z hz => ⟨as_name, tst_cmp (ev_name (by trivial)) ev_int op_lt, by trivial, fun _ => ev_sub_v (ev_name (by trivial)) (by trivial)⟩⟩ (by trivial))) (Ev.data (ev_list evs_nil)) (op_ne (n := 1) ?_ (by decide +kernel))) ?_)
    fun _ => tst_is (tst_cmp (ev_fcall (G.fn 20 (by decide)) (evs_cons (Ev.data (ev_lc (γ₂ := γ) (out := l.map fun z => D.int (max 1 z)) (σ := e0) (evit_data (ev_name (by trivial)) (.tuple _)) (by trivial) (by rw [List.length_map]; omega)
      ⟨_, comp_map D.int (fun z => .int (max 1 z)) (fun z => upd e0 "size" (.d (.int z))) l fun z hz => ⟨as_name, ev_sub_v (ev_bcall G rfl (evs_cons ev_int (evs_cons (ev_name (by trivial)) evs_nil)) op_max) (by trivial)⟩⟩ (by trivial))) evs_nil) fun f F => many_of_ok (l := l) F (by rw [e']; exact .list _) fun z hz => by obtain ⟨a, b⟩ := h z hz; constructor <;> omega) (ev_globInt rfl hm) op_gt) ?_) rfl)) ex_nil
  all_goals (try rw [List.filter_eq_nil_iff.mpr fun z hz => by have := (h z hz).1; simp; omega])
  · exact Nat.zero_le _
  · decide +kernel
  · decide +kernel
  · have := prodI_small l hl h
    simp; omega
theorem ev_op {e : Expr} {d d' : D} (h : EvE c k S ρ γ e (.d d) ρ₁ γ₁) (hd : d = d') : EvE c k S ρ γ e (.d d') ρ₁ γ₁ := hd ▸ h
theorem made_ok {f : Addr} {l : List Int} {t : Tok} {dk : D} {its : List D} (G : Gr c) (H : HeapOk c CH aM aT CT) (hm : c.mg "MOST_ITEMS" = some (.int 20000 t)) (F : FnIs c (dR 32).name (dR 32) [] f) (hl : l.length ≤ 3) (h : ∀ z ∈ l, 0 < z ∧ z ≤ 4)
    (hi : (its.length : Int) = prodI l) (hn : γ.th.length ≤ 900) :
    FnOk c (k + 3) f [heapD CH aT, dk, .ints l, .list its] γ (Vw.arr γ.th.length).d { γ with th := γ.th ++ [l] } := by
  have pb := prodI_small l hl h
  refine fn_ok ["heap", "item_kind", "sizes", "items"] F (ρ₀ := upd (upd (upd (upd e0 "items" (.d (.list its))) "sizes" (.d (.ints l))) "item_kind" (.d dk)) "heap" (.d (heapD CH aT))) (o := .ret _ _) ?_ (.inl rfl)
  refine ex_cons (ex_expr (ev_fcall (G.fn 25 (by decide)) (evs_cons (ev_name (by trivial)) evs_nil) fun f F => check_sizes_ok G hm F hl h)) ?_
  refine ex_skip (tst_is (tst_cmp (ev_fcall (G.fn 20 (by decide)) (evs_cons (ev_name (by trivial)) evs_nil) fun f F => many_of_ok F (.tuple _) fun z hz => by obtain ⟨a, b⟩ := h z hz; constructor <;> omega) (ev_bcall G rfl (evs_cons (ev_name (by trivial)) evs_nil) (op_len_list (by omega))) op_nei) (by simp [hi])) ?_
  obtain ⟨f1, M1, F1⟩ := H.new_array
  exact ex_ret (ex_return (ev_tuple (evs_cons ev_str (evs_cons (ev_mcall (ev_name (by trivial)) M1 F1.at (evs_cons (ev_fcall (G.fn 17 (by decide)) (evs_cons (ev_name (by trivial)) (evs_cons (ev_bcall G rfl (evs_cons (ev_name (by trivial)) evs_nil) (op_len_tuple (by rw [List.length_map]; omega))) evs_nil)) fun f F => array_kind_ok G F) (evs_cons (ev_name (by trivial)) (evs_cons (ev_name (by trivial)) evs_nil))) (new_array_ok G H F1 hn (by omega))) evs_nil)) (Nat.le_of_ble_eq_true rfl)))
end
section
variable {c : Cx} {k : Nat} {S : Scope} {ρ ρ' ρ₁ ρ₂ ρ₃ σ : Vars} {γ γ' γ₁ γ₂ γ₃ : GS} {fn : Bool} {aM aT CT CH : Addr}
theorem ex_returnS {e : Expr} {pos : Pos} {d : D} (h : EvE c k S ρ γ e (.d d) ρ γ₁) : ExS c k S ρ γ (.Return (some e) pos) (.ret d γ₁) := ex_return h
theorem ev_ifS {test body orelse : Expr} {pos : Pos} {b : Bool} {u : V} (h : TstE c k S ρ γ test b ρ γ) (h1 : b = true → EvE c k S ρ γ body u ρ γ) (h2 : b = false → EvE c k S ρ γ orelse u ρ γ) : EvE c k S ρ γ (.IfExp test body orelse pos) u ρ γ := ev_if h h1 h2
inductive Pt where
  | all
  | one (i : Int)
  | row (f s m : Int)
noncomputable def Pt.d : Pt → D
  | .all => .none
  | .one i => .int i
  | .row f s m => .tuple [.int f, .int s, .int m]
noncomputable abbrev Row := Int × Int × Option Int
noncomputable def optD : Option Int → D
  | none => .none
  | some m => .int m
noncomputable def rowD : Option Row → D
  | none => .none
  | some r => .tuple [.int r.1, .int r.2.1, optD r.2.2]
noncomputable def Pt.take (z : Int) : Pt → Option Row
  | .all => some (1, 1, some z)
  | .one i => if 1 ≤ i ∧ i ≤ z then some (i, 1, none) else none
  | .row f s m => if m ≤ 0 then some (1, s, some 0) else if m > z then none else if (1 ≤ f ∧ f ≤ z) ∧ 1 ≤ f + s * (m - 1) ∧ f + s * (m - 1) ≤ z then some (f, s, some m) else none
theorem ev_isi {x y : Str} {p q r pos : Pos} {d : D} {b : Bool} {T : String} (G : Gr c) (hx : ρ x = some (.d d)) (hT : bootBuiltins y = some (.type T)) (h : Op c k (callOp (.builtin "isinstance")) [d, .raw (.type T)] (.d (.bool b))) (hy : c.mg y = none)
    (hI : S.names.lookup ("isinstance" : Str) = some .globalImplicit := by rfl) (hyl : S.names.lookup y = some .globalImplicit := by rfl) (hne : y ≠ "__name__" := by decide) (hdy : (y == ("__debug__" : Str)) = false := by decide)
    (hd : (x == ("__debug__" : Str)) = false := by decide) (hn : (x == ("__classdict__" : Str)) = false := by decide)
    (hfe : ∀ env, eval (.Call (.Name "isinstance" p) [.Name x q, .Name y r] [] pos) env = (do callWith pos (← eval (.Name "isinstance" p) env) [] (backTo pos (starEach [.Name x q, .Name y r] env)) (backToKw pos (keywordEach [] env))) := by intro _; rfl) :
    EvE c k S ρ γ (.Call (.Name "isinstance" p) [.Name x q, .Name y r] [] pos) (.d (.bool b)) ρ γ :=
  ev_calld (ev_builtin hI (G.bi _ (by decide)) rfl) (.inl ⟨_, rfl⟩) (evs_cons (ev_name hx hd hn) (evs_cons (ev_builtin hyl hy hT hne hdy) evs_nil)) h hfe
theorem taken_row_ok {f : Addr} {p : Pt} {z : Int} (G : Gr c) (F : FnIs c (dR 34).name (dR 34) [] f) (hz : Small z) : FnOk c k f [p.d, .int z] γ (rowD (p.take z)) γ := by
  refine fn_ok ["part", "size"] F (ρ₀ := upd (upd e0 "size" (.d (.int z))) "part" (.d p.d)) (o := .ret _ γ) ?_ (.inl rfl)
  cases p with
  | all => exact ex_take (tst_cmp (ev_name (by trivial)) ev_none (op_isNone none_isNone)) (ex_ret (ex_return (ev_tuple (evs_cons ev_int (evs_cons ev_int (evs_cons (ev_name (by trivial)) evs_nil))) (Nat.le_of_ble_eq_true rfl))))
  | one i =>
    refine ex_skip (tst_cmp (ev_name (by trivial)) ev_none (op_isNone int_isNone)) ?_
    refine ex_take (tst_value (ev_isi G (d := .int i) (by trivial) rfl isi_int_int (G.bi _ (by decide)))) (ex_ret (ex_returnS (ev_ifS (tst_chain ev_int (ev_name (by trivial)) op_le (fun _ => ev_name (by trivial)) fun _ => op_le) (fun e => ?_) fun e => ?_)))
    · refine ev_op (ev_tuple (evs_cons (ev_name (by trivial)) (evs_cons ev_int (evs_cons ev_none evs_nil))) (Nat.le_of_ble_eq_true rfl)) ?_
      have e' : 1 ≤ i ∧ i ≤ z := by simpa using e
      simp only [Pt.take, if_pos e', rowD, optD]
      rfl
    · refine ev_op ev_none ?_
      have e' : ¬ (1 ≤ i ∧ i ≤ z) := by simpa using e
      simp only [Pt.take, if_neg e', rowD]
  | row f s m =>
    refine ex_skip (tst_cmp (ev_name (by trivial)) ev_none (op_isNone tuple_isNone)) ?_
    refine ex_skip (tst_value (ev_isi G (d := Pt.d (.row f s m)) (by trivial) rfl isi_tuple_int (G.bi _ (by decide)))) ?_
    refine ex_cons (ex_assign (ev_name (by trivial)) (as_tuple (asl_cons as_name (asl_cons as_name (asl_cons as_name asl_nil))))) ?_
    by_cases h1 : m ≤ 0
    · refine ex_take (tst_is (tst_cmp (ev_name (by trivial)) ev_int op_le) (by simp [h1])) (ex_ret (ex_return (ev_op (ev_tuple (evs_cons ev_int (evs_cons (ev_name (by trivial)) (evs_cons ev_int evs_nil))) (Nat.le_of_ble_eq_true rfl)) ?_)))
      simp only [Pt.take, if_pos h1, rowD, optD]
    refine ex_skip (tst_is (tst_cmp (ev_name (by trivial)) ev_int op_le) (by simp [h1])) ?_
    by_cases h2 : m > z
    · refine ex_take (tst_is (tst_cmp (ev_name (by trivial)) (ev_name (by trivial)) op_gt) (by simp [h2])) (ex_ret (ex_return (ev_op ev_none ?_)))
      simp only [Pt.take, if_neg h1, if_pos h2, rowD]
    refine ex_skip (tst_is (tst_cmp (ev_name (by trivial)) (ev_name (by trivial)) op_gt) (by simp; omega)) ?_
    refine ex_cons (ex_assign (ev_binop (ev_name (by trivial)) (ev_binop (ev_name (by trivial)) (ev_binop (ev_name (by trivial)) ev_int op_sub) (op_mul (mulOk_small (.inr (by have := hz.2; constructor <;> omega))))) op_add) as_name) ?_
    refine ex_ret (ex_returnS (ev_ifS (tst_bool (t_and2 (tst_chain ev_int (ev_name (by trivial)) op_le (fun _ => ev_name (by trivial)) fun _ => op_le) fun _ => tst_chain ev_int (ev_name (by trivial)) op_le (fun _ => ev_name (by trivial)) fun _ => op_le)) (fun e => ?_) fun e => ?_))
    · refine ev_op (ev_tuple (evs_cons (ev_name (by trivial)) (evs_cons (ev_name (by trivial)) (evs_cons (ev_name (by trivial)) evs_nil))) (Nat.le_of_ble_eq_true rfl)) ?_
      have e' : (1 ≤ f ∧ f ≤ z) ∧ 1 ≤ f + s * (m - 1) ∧ f + s * (m - 1) ≤ z := by simpa using e
      simp only [Pt.take, if_neg h1, if_neg h2, if_pos e', rowD, optD]
    · refine ev_op ev_none ?_
      have e' : ¬ ((1 ≤ f ∧ f ≤ z) ∧ 1 ≤ f + s * (m - 1) ∧ f + s * (m - 1) ≤ z) := by simpa using e
      simp only [Pt.take, if_neg h1, if_neg h2, if_neg e', rowD]
noncomputable def Pt.edge (z : Int) : Pt → Int
  | .all => 1
  | .one i => i
  | .row f s m => if m > 0 ∧ (1 ≤ f ∧ f ≤ z) ∧ ¬ (1 ≤ f + s * (m - 1) ∧ f + s * (m - 1) ≤ z) then f + s * (m - 1) else f
theorem edge_of_ok {f : Addr} {a s m z : Int} (G : Gr c) (F : FnIs c (dR 36).name (dR 36) [] f) (hm : -1000 ≤ m ∧ m ≤ 1000) : FnOk c k f [Pt.d (.row a s m), .int z] γ (.int (Pt.edge z (.row a s m))) γ := by
  refine fn_ok ["part", "size"] F (ρ₀ := upd (upd e0 "size" (.d (.int z))) "part" (.d (Pt.d (.row a s m)))) (o := .ret _ γ) ?_ (.inl rfl)
  refine ex_cons (ex_assign (ev_name (by trivial)) (as_tuple (asl_cons as_name (asl_cons as_name (asl_cons as_name asl_nil))))) ?_
  refine ex_cons (ex_assign (ev_binop (ev_name (by trivial)) (ev_binop (ev_name (by trivial)) (ev_binop (ev_name (by trivial)) ev_int op_sub) (op_mul (mulOk_small (.inr (by constructor <;> omega))))) op_add) as_name) ?_
  refine ex_ret (ex_returnS (ev_ifS (tst_bool (t_and3 (tst_cmp (ev_name (by trivial)) ev_int op_gt) (fun _ => tst_chain ev_int (ev_name (by trivial)) op_le (fun _ => ev_name (by trivial)) fun _ => op_le) fun _ _ => tst_not (tst_chain ev_int (ev_name (by trivial)) op_le (fun _ => ev_name (by trivial)) fun _ => op_le))) (fun e => ?_) fun e => ?_))
  · refine ev_op (ev_name (by trivial)) ?_
    have e' : m > 0 ∧ (1 ≤ a ∧ a ≤ z) ∧ ¬ (1 ≤ a + s * (m - 1) ∧ a + s * (m - 1) ≤ z) := by
      simp only [Bool.and_eq_true, decide_eq_true_eq, Bool.not_eq_true', Bool.and_eq_false_iff, decide_eq_false_iff_not] at e
      exact ⟨e.1, e.2.1, fun h => e.2.2.elim (fun n => n h.1) fun n => n h.2⟩
    simp only [Pt.edge, if_pos e']
  · refine ev_op (ev_name (by trivial)) ?_
    have e' : ¬ (m > 0 ∧ (1 ≤ a ∧ a ≤ z) ∧ ¬ (1 ≤ a + s * (m - 1) ∧ a + s * (m - 1) ≤ z)) := by
      intro ⟨x, y, w⟩
      rw [show (decide (m > 0) && ((decide (1 ≤ a) && decide (a ≤ z)) && !(decide (1 ≤ a + s * (m - 1)) && decide (a + s * (m - 1) ≤ z)))) = true from by
        simp only [Bool.and_eq_true, decide_eq_true_eq, Bool.not_eq_true', Bool.and_eq_false_iff, decide_eq_false_iff_not]
        exact ⟨x, y, (Classical.em _).elim (fun n => .inr fun n' => w ⟨n, n'⟩) .inl⟩] at e
      cases e
    simp only [Pt.edge, if_neg e']
end
section
variable {c : Cx} {k : Nat} {S : Scope} {ρ ρ' ρ₁ ρ₂ ρ₃ σ : Vars} {γ γ' γ₁ γ₂ γ₃ : GS} {fn : Bool} {aM aT CT CH : Addr}
noncomputable abbrev ptD (t : Pt × Int) : D := .tuple [t.1.d, .int t.2]
theorem zip_pts (ps : List Pt) (s : List Int) : List.zipWith (fun a b => D.tuple [a, b]) (ps.map Pt.d) (s.map D.int) = (ps.zip s).map ptD := by
  induction ps generalizing s with
  | nil => simp
  | cons a r ih => cases s with
    | nil => simp
    | cons b s => simp [ih]
noncomputable abbrev rwD (r : Row) : D := .tuple [.int r.1, .int r.2.1, optD r.2.2]
noncomputable abbrev rsD (t : Row × Int) : D := .tuple [rwD t.1, .int t.2]
theorem zip_rows (ps : List Row) (s : List Int) : List.zipWith (fun a b => D.tuple [a, b]) (ps.map rwD) (s.map D.int) = (ps.zip s).map rsD := by
  induction ps generalizing s with
  | nil => simp
  | cons a r ih => cases s with
    | nil => simp
    | cons b s => simp [ih]
noncomputable def rowsPlace (l : List (Row × Int)) : Int := (l.map fun t => (t.1.1 - 1) * t.2).sum
noncomputable def rowsKept (l : List (Row × Int)) : List Int := l.filterMap fun t => t.1.2.2
noncomputable def rowsSteps (l : List (Row × Int)) : List Int := l.filterMap fun t => t.1.2.2.map fun _ => t.1.2.1 * t.2
theorem rowsPlace_snoc (l : List (Row × Int)) (t : Row × Int) : rowsPlace (l ++ [t]) = rowsPlace l + (t.1.1 - 1) * t.2 := by unfold rowsPlace; simp
theorem rowsKept_snoc (l : List (Row × Int)) (t : Row × Int) : rowsKept (l ++ [t]) = rowsKept l ++ t.1.2.2.toList := by unfold rowsKept; rw [List.filterMap_append]; cases h : t.1.2.2 <;> simp [h]
theorem rowsSteps_snoc (l : List (Row × Int)) (t : Row × Int) : rowsSteps (l ++ [t]) = rowsSteps l ++ (t.1.2.2.map fun _ => t.1.2.1 * t.2).toList := by unfold rowsSteps; rw [List.filterMap_append]; cases h : t.1.2.2 <;> simp [h]
theorem filterMap_le {α β : Type} (f : α → Option β) (l : List α) : (l.filterMap f).length ≤ l.length := List.length_filterMap_le f l
noncomputable def Taken (ps : List Pt) (s : List Int) (rs : List Row) : Prop := (ps.zip s).map (fun t => t.1.take t.2) = rs.map some
noncomputable def newView (v : Vw) (l : List Int) (rs : List Row) : Vw := .view v.par (v.pl + rowsPlace (rs.zip (v.st l))) (rowsKept (rs.zip (v.st l))) (rowsSteps (rs.zip (v.st l)))
theorem pure_opt (n : Nat) (o : Option Int) : (optD o).pure n = true := by cases o <;> simp [optD, D.pure]
theorem pure_rw (n : Nat) (r : Row) : (rwD r).pure (n + 1) = true := by simp [D.pure, pures, pure_opt]
theorem pures_map {α : Type} (n : Nat) (g : α → D) : ∀ (l : List α), (∀ x ∈ l, (g x).pure n = true) → pures n (l.map g) = true
  | [], _ => by simp [pures]
  | a :: l, h => by rw [List.map_cons, pures, h a (.head _), pures_map n g l fun x hx => h x (.tail _ hx)]; rfl
theorem pys_map {α : Type} (g : α → D) : ∀ (l : List α), pys (l.map g) = l.map fun x => (g x).py
  | [] => by simp [pys]
  | a :: l => by rw [List.map_cons, pys, pys_map g l, List.map_cons]
theorem py_tuple (ds : List D) : (D.tuple ds).py = .tuple (pys ds) := by rw [D.py]
theorem none_in_rows (rs : List Row) : (pys (rs.map rwD)).any (fun y => PyData.eqv y D.none.py) = false := by
  rw [pys_map, List.any_map, List.any_eq_false]
  intro r _
  show ¬ PyData.eqv (D.tuple [.int r.1, .int r.2.1, optD r.2.2]).py D.none.py = true
  rw [py_tuple, D.py]
  exact Bool.false_ne_true
theorem view_of_ok {f : Addr} {v : Vw} {l : List Int} {ps : List Pt} {rs : List Row} (G : Gr c) (H : HeapOk c CH aM aT CT) (F : FnIs c (dR 37).name (dR 37) [] f) (ok : VwOk γ v l) (sok : SzOk v l) (hp : ps.length = (v.sz l).length) (ht : Taken ps (v.sz l) rs)
    (hr : ∀ r ∈ rs, 1 ≤ r.1 ∧ r.1 ≤ 1000 ∧ -1000 ≤ r.2.1 ∧ r.2.1 ≤ 1000) :
    FnOk c (k + 4) f [heapD CH aT, v.d, .list (ps.map Pt.d)] γ (newView v l rs).d γ := by
  refine fn_ok ["heap", "value", "parts"] F (ρ₀ := upd (upd (upd e0 "parts" (.d (.list (ps.map Pt.d)))) "value" (.d v.d)) "heap" (.d (heapD CH aT))) (o := .ret _ γ) ?_ (.inl rfl)
  have rk := sok.rank
  have hrl : rs.length = (v.sz l).length := by
    have := congrArg List.length ht
    simp only [List.length_map, List.length_zip] at this
    omega
  refine ex_cons (ex_assign (ev_fcall (G.fn 28 (by decide)) (evs_cons (ev_name (by trivial)) (evs_cons (ev_name (by trivial)) evs_nil)) fun f F => sizes_of_ok G H F ok) as_name) ?_
  refine ex_skip (tst_is (tst_cmp (ev_bcall G rfl (evs_cons (ev_name (by trivial)) evs_nil) (op_len_list (by rw [List.length_map]; omega))) (ev_bcall G rfl (evs_cons (ev_name (by trivial)) evs_nil) (op_len_tuple (by rw [List.length_map]; omega))) op_nei) (by simp [hp])) ?_
  refine ex_cons (ex_lc (γ₂ := γ) (out := rs.map rwD) (σ := e0) (evit_zip2 (ev_builtin rfl (G.bi "zip" (by decide)) rfl) (evs_cons (ev_name (by trivial)) (evs_cons (ev_name (by trivial)) evs_nil)) (.list _) (.tuple _)) (by trivial) (by rw [List.length_map]; omega) ?_ (by trivial)) ?_
  · have e : rs.map rwD = (ps.zip (v.sz l)).map fun t => rowD (t.1.take t.2) := by
      have := congrArg (List.map rowD) ht
      rw [List.map_map, List.map_map] at this
      exact this.symm
    rw [e, zip_pts]
    refine ⟨_, comp_map ptD (fun t => rowD (t.1.take t.2)) (fun t => upd (upd e0 "part" (.d t.1.d)) "size" (.d (.int t.2))) _ fun t hm => ⟨as_tuple (asl_cons as_name (asl_cons as_name asl_nil)), ev_sub_v (ev_fcall (G.fn 34 (by decide)) (evs_cons (ev_name (by trivial)) (evs_cons (ev_name (by trivial)) evs_nil)) fun f F => taken_row_ok G F ?_) (by trivial)⟩⟩
    have := sok.small t.2 (List.of_mem_zip (show (t.1, t.2) ∈ _ from hm)).2
    constructor <;> omega
  refine ex_freeze (x := "rows") (by trivial) ?_
  refine ex_skip (tst_is (tst_cmp ev_none (ev_name (by trivial)) (op_in_list (n := 1) (by decide +kernel) (pures_map 1 _ _ fun r _ => pure_rw 0 r))) (none_in_rows rs)) ?_
  refine ex_cons (ex_assign (ev_fcall (G.fn 29 (by decide)) (evs_cons (ev_name (by trivial)) (evs_cons (ev_name (by trivial)) evs_nil)) fun f F => layout_of_ok G H F ok) (as_tuple (asl_cons as_name (asl_cons as_name asl_nil)))) ?_
  refine ex_cons (ex_pair_g (ev_list evs_nil) evg_nil) ?_
  let I : List (Row × Int) → Vars := fun pre => upd (upd (upd (upd e0 "value" (.d v.d)) "place" (.d (.int (v.pl + rowsPlace pre)))) "kept" (.own ((rowsKept pre).map D.int))) "steps" (.own ((rowsSteps pre).map D.int))
  refine ex_cons (ex_for (o := .next (I (rs.zip (v.st l))) γ) (evit_sub (σ := I []) (evit_zip2 (ev_builtin rfl (G.bi "zip" (by decide)) rfl) (evs_cons (ev_name (by trivial)) (evs_cons (ev_name (by trivial)) evs_nil)) (.list _) (.tuple _)) (by show SubV (upd (upd (upd (upd e0 "value" (.d v.d)) "place" (.d (.int (v.pl + rowsPlace [])))) "kept" (.own [])) "steps" (.own [])) _; rw [show v.pl + rowsPlace [] = v.pl from Int.add_zero _]; trivial)) ?_) ?_
  · rw [zip_rows]
    refine for_pre (γ := γ) I rsD (fun pre t => upd (upd (upd (upd (I pre) "first" (.d (.int t.1.1))) "step" (.d (.int t.1.2.1))) "many" (.d (optD t.1.2.2))) "far" (.d (.int t.2))) _ fun pre t post e => ⟨as_tuple (asl_cons (as_tuple (asl_cons as_name (asl_cons as_name (asl_cons as_name asl_nil)))) (asl_cons as_name asl_nil)), ?_⟩
    have hm : t.1 ∈ rs := (List.of_mem_zip (show (t.1, t.2) ∈ rs.zip (v.st l) by rw [e]; simp)).1
    have hb := hr t.1 hm
    have hpl : pre.length ≤ 3 := by
      have h2 := congrArg List.length e
      rw [List.length_zip] at h2
      simp at h2
      omega
    have hk := filterMap_le (fun t : Row × Int => t.1.2.2) pre
    have hs := filterMap_le (fun t : Row × Int => t.1.2.2.map fun _ => t.1.2.1 * t.2) pre
    refine ex_cons (ex_assign (ev_binop (ev_name (by trivial)) (ev_binop (ev_binop (ev_name (by trivial)) ev_int op_sub) (ev_name (by trivial)) (op_mul (mulOk_small (.inl (by constructor <;> omega))))) op_add) as_name) ?_
    obtain ⟨⟨a, s, o⟩, z⟩ := t
    cases o with
    | none =>
      refine ex_skip (tst_cmp (ev_name (by trivial)) ev_none (op_isNotNone none_isNone)) (ex_end ?_)
      show SubV (upd (upd (upd (upd e0 "value" (.d v.d)) "place" (.d (.int (v.pl + rowsPlace (pre ++ [((a, s, none), z)]))))) "kept" (.own ((rowsKept (pre ++ [((a, s, none), z)])).map D.int))) "steps" (.own ((rowsSteps (pre ++ [((a, s, none), z)])).map D.int))) _
      rw [rowsPlace_snoc, rowsKept_snoc, rowsSteps_snoc, ← Int.add_assoc]
      simp only [Option.toList, Option.map_none, List.append_nil]
      trivial
    | some m =>
      refine ex_cons (ex_if_t (tst_cmp (ev_name (by trivial)) ev_none (op_isNotNone int_isNone)) (ex_cons (ex_append (by trivial) (ev_name (by trivial)) (by trivial) (by rw [List.length_map]; unfold rowsKept; omega)) (ex_cons (ex_append (by trivial) (ev_binop (ev_name (by trivial)) (ev_name (by trivial)) (op_mul (mulOk_small (.inl (by constructor <;> omega))))) (by trivial) (by rw [List.length_map]; unfold rowsSteps; omega)) ex_nil))) (ex_end ?_)
      show SubV (upd (upd (upd (upd e0 "value" (.d v.d)) "place" (.d (.int (v.pl + rowsPlace (pre ++ [((a, s, some m), z)]))))) "kept" (.own ((rowsKept (pre ++ [((a, s, some m), z)])).map D.int))) "steps" (.own ((rowsSteps (pre ++ [((a, s, some m), z)])).map D.int))) _
      rw [rowsPlace_snoc, rowsKept_snoc, rowsSteps_snoc, ← Int.add_assoc]
      simp only [Option.toList, Option.map_some, List.map_append, List.map_cons, List.map_nil]
      trivial
  · obtain ⟨ds, e, h1, h2, _⟩ := v.d_eq
    have k1 := filterMap_le (fun t : Row × Int => t.1.2.2) (rs.zip (v.st l))
    have k2 := filterMap_le (fun t : Row × Int => t.1.2.2.map fun _ => t.1.2.1 * t.2) (rs.zip (v.st l))
    have k3 : (rs.zip (v.st l)).length ≤ 3 := by rw [List.length_zip]; omega
    refine ex_freeze (x := "kept") (by trivial) (ex_freeze (x := "steps") (by trivial) ?_)
    exact ex_ret (ex_return (ev_tuple (evs_cons ev_str (evs_cons (ev_at (ev_name (by show some (V.d v.d) = _; rw [e])) h1 (by decide) h2) (evs_cons (ev_name (by trivial)) (evs_cons (ev_bcall G rfl (evs_cons (ev_name (by trivial)) evs_nil) (op_tuple_list (by rw [List.length_map]; unfold rowsKept; omega))) (evs_cons (ev_bcall G rfl (evs_cons (ev_name (by trivial)) evs_nil) (op_tuple_list (by rw [List.length_map]; unfold rowsSteps; omega))) evs_nil))))) (Nat.le_of_ble_eq_true rfl)))
end
section
variable {c : Cx} {k : Nat} {S : Scope} {ρ ρ' ρ₁ ρ₂ ρ₃ σ : Vars} {γ γ' γ₁ γ₂ γ₃ : GS} {fn : Bool} {aM aT CT CH : Addr}
theorem edge_indices_ok {f : Addr} {ps : List Pt} {s : List Int} (G : Gr c) (F : FnIs c (dR 35).name (dR 35) [] f) (hl : ps.length ≤ 1000) (hm : ∀ a s m, Pt.row a s m ∈ ps → -1000 ≤ m ∧ m ≤ 1000) :
    FnOk c (k + 1) f [.list (ps.map Pt.d), .ints s] γ (.list ((ps.zip s).map fun t => .int (t.1.edge t.2))) γ := by
  refine fn_ok ["parts", "sizes"] F (ρ₀ := upd (upd e0 "sizes" (.d (.ints s))) "parts" (.d (.list (ps.map Pt.d)))) (o := .ret _ γ) ?_ (.inl rfl)
  refine ex_cons (ex_assign (ev_list evs_nil) as_name) ?_
  let I : List (Pt × Int) → Vars := fun pre => upd e0 "found" (.own (pre.map fun t => .int (t.1.edge t.2)))
  refine ex_cons (ex_for (o := .next (I (ps.zip s)) γ) (evit_sub (σ := I []) (evit_zip2 (ev_builtin rfl (G.bi "zip" (by decide)) rfl) (evs_cons (ev_name (by trivial)) (evs_cons (ev_name (by trivial)) evs_nil)) (.list _) (.tuple _)) (by show SubV (upd e0 "found" (.own [])) _; trivial)) ?_) ?_
  · rw [zip_pts]
    refine for_pre (γ := γ) I ptD (fun pre t => upd (upd (I pre) "part" (.d t.1.d)) "size" (.d (.int t.2))) _ fun pre t post e => ⟨as_tuple (asl_cons as_name (asl_cons as_name asl_nil)), ?_⟩
    have hpl : pre.length ≤ 1000 := by
      have h2 := congrArg List.length e
      rw [List.length_zip] at h2
      simp at h2
      omega
    have hin : t.1 ∈ ps := (List.of_mem_zip (show (t.1, t.2) ∈ ps.zip s by rw [e]; simp)).1
    obtain ⟨p, z⟩ := t
    have fin : SubV (I (pre ++ [(p, z)])) (upd (upd (upd (I pre) "part" (.d p.d)) "size" (.d (.int z))) "found" (.own ((pre.map fun t => D.int (t.1.edge t.2)) ++ [D.int (p.edge z)]))) := by
      show SubV (upd e0 "found" (.own ((pre ++ [(p, z)]).map fun t => .int (t.1.edge t.2)))) _
      rw [List.map_append]
      trivial
    cases p with
    | all => exact ex_cons (ex_if_t (tst_cmp (ev_name (by trivial)) ev_none (op_isNone none_isNone)) (ex_cons (ex_append (by trivial) ev_int (by trivial) (by rw [List.length_map]; omega)) ex_nil)) (ex_end fin)
    | one i =>
      exact ex_cons (ex_if_f (tst_cmp (ev_name (by trivial)) ev_none (op_isNone int_isNone)) (ex_cons (ex_append (by trivial) (ev_if_t (tst_value (ev_isi G (d := .int i) (by trivial) rfl isi_int_int (G.bi _ (by decide)))) (ev_name (by trivial))) (by trivial) (by rw [List.length_map]; omega)) ex_nil)) (ex_end fin)
    | row a s' m =>
      exact ex_cons (ex_if_f (tst_cmp (ev_name (by trivial)) ev_none (op_isNone tuple_isNone)) (ex_cons (ex_append (by trivial) (ev_if_f (tst_value (ev_isi G (d := Pt.d (.row a s' m)) (by trivial) rfl isi_tuple_int (G.bi _ (by decide)))) (ev_fcall (G.fn 36 (by decide)) (evs_cons (ev_name (by trivial)) (evs_cons (ev_name (by trivial)) evs_nil)) fun f F => edge_of_ok G F (hm _ _ _ hin))) (by trivial) (by rw [List.length_map]; omega)) ex_nil)) (ex_end fin)
  · refine ex_freeze (x := "found") (by trivial) ?_
    exact ex_ret (ex_return (ev_name (by trivial)))
noncomputable def enumZ : Nat → List Int → List (Int × Int)
  | _, [] => []
  | k, z :: l => ((k : Int), z) :: enumZ (k + 1) l
theorem enumD_eq : ∀ (l : List Int) (k : Nat), enumD k (l.map D.int) = (enumZ k l).map pairD
  | [], _ => rfl
  | z :: l, k => by rw [List.map_cons, enumD, enumZ, List.map_cons, enumD_eq l (k + 1)]
theorem enumZ_length : ∀ (l : List Int) (k : Nat), (enumZ k l).length = l.length
  | [], _ => rfl
  | z :: l, k => by rw [enumZ, List.length_cons, List.length_cons, enumZ_length l (k + 1)]
theorem enumZ_mem : ∀ {l : List Int} {k : Nat} {t : Int × Int}, t ∈ enumZ k l → t.2 ∈ l
  | z :: l, k, t, h => by
    rcases List.mem_cons.mp h with e | h
    · exact e ▸ .head _
    · exact .tail _ (enumZ_mem h)
noncomputable def waysL (rank : Int) (t : Int × Int) : List Pt := if t.1 = rank then [.all] else (ifrom 1 t.2.toNat).map .one
noncomputable def chosenStep (rank : Int) (ch : List (List Pt)) (t : Int × Int) : List (List Pt) := (waysL rank t).flatMap fun w => ch.map fun ps => ps ++ [w]
noncomputable def chosenL (rank : Int) (ts : List (Int × Int)) : List (List Pt) := ts.foldl (chosenStep rank) [[]]
theorem chosenL_snoc (rank : Int) (ts : List (Int × Int)) (t : Int × Int) : chosenL rank (ts ++ [t]) = chosenStep rank (chosenL rank ts) t := by unfold chosenL; rw [List.foldl_append]; rfl
theorem waysL_length (rank : Int) (t : Int × Int) (h : 0 < t.2 ∧ t.2 ≤ 4) : (waysL rank t).length ≤ 4 := by
  unfold waysL
  split
  · simp
  · rw [List.length_map, ifrom_length]; omega
theorem chosenStep_length (rank : Int) (ch : List (List Pt)) (t : Int × Int) : (chosenStep rank ch t).length = (waysL rank t).length * ch.length := by
  unfold chosenStep
  rw [List.length_flatMap]
  simp only [List.length_map]
  rw [List.map_const', List.sum_replicate_nat]
theorem foldChosen_length (rank : Int) : ∀ (ts : List (Int × Int)) (ch : List (List Pt)), (∀ t ∈ ts, 0 < t.2 ∧ t.2 ≤ 4) → (ts.foldl (chosenStep rank) ch).length ≤ ch.length * 4 ^ ts.length
  | [], ch, _ => by simp
  | t :: ts, ch, h => by
    rw [List.foldl_cons]
    refine Nat.le_trans (foldChosen_length rank ts _ fun t' ht => h t' (.tail _ ht)) ?_
    rw [chosenStep_length, List.length_cons, Nat.pow_succ, Nat.mul_comm (4 ^ _) 4, ← Nat.mul_assoc, Nat.mul_comm (waysL rank t).length]
    exact Nat.mul_le_mul (Nat.mul_le_mul (Nat.le_refl _) (waysL_length rank t (h t (.head _)))) (Nat.le_refl _)
theorem chosenL_length (rank : Int) (ts : List (Int × Int)) (h : ∀ t ∈ ts, 0 < t.2 ∧ t.2 ≤ 4) : (chosenL rank ts).length ≤ 4 ^ ts.length := by
  have := foldChosen_length rank ts [[]] h
  simpa [chosenL] using this
noncomputable def Fits (ps : List Pt) (s : List Int) : Prop := ps.length = s.length ∧ ∀ (n : Nat) (p : Pt) (z : Int), ps[n]? = some p → s[n]? = some z → p = .all ∨ ∃ i, p = .one i ∧ 1 ≤ i ∧ i ≤ z
theorem fits_snoc {ps : List Pt} {s : List Int} {p : Pt} {z : Int} (h : Fits ps s) (hp : p = .all ∨ ∃ i, p = .one i ∧ 1 ≤ i ∧ i ≤ z) : Fits (ps ++ [p]) (s ++ [z]) := by
  refine ⟨by rw [List.length_append, List.length_append, h.1]; rfl, fun n q y hq hy => ?_⟩
  rcases Nat.lt_trichotomy n ps.length with hn | hn | hn
  · rw [List.getElem?_append_left hn] at hq
    rw [List.getElem?_append_left (by rw [← h.1]; exact hn)] at hy
    exact h.2 n q y hq hy
  · subst hn
    rw [List.getElem?_append_right (Nat.le_refl _), Nat.sub_self] at hq
    rw [h.1, List.getElem?_append_right (Nat.le_refl _), Nat.sub_self] at hy
    cases hq; cases hy; exact hp
  · rw [List.getElem?_eq_none (by simp; omega)] at hq; cases hq
theorem chosen_fits (rank : Int) : ∀ (post pre : List Int) (ch : List (List Pt)), (∀ ps ∈ ch, Fits ps pre) → (∀ z ∈ post, 0 < z) → ∀ ps ∈ (enumZ pre.length post).foldl (chosenStep rank) ch, Fits ps (pre ++ post)
  | [], pre, ch, h, _, ps, hp => by rw [List.append_nil]; exact h ps hp
  | z :: post, pre, ch, h, hz, ps, hp => by
    rw [enumZ, List.foldl_cons] at hp
    have e : pre ++ z :: post = (pre ++ [z]) ++ post := by simp
    rw [e]
    refine chosen_fits rank post (pre ++ [z]) _ (fun qs hq => ?_) (fun y hy => hz y (.tail _ hy)) ps (by rw [List.length_append]; exact hp)
    unfold chosenStep at hq
    obtain ⟨w, hw, hq⟩ := List.mem_flatMap.mp hq
    obtain ⟨rs, hr, rfl⟩ := List.mem_map.mp hq
    refine fits_snoc (h rs hr) ?_
    unfold waysL at hw
    split at hw
    · exact .inl (by simpa using hw)
    · obtain ⟨i, hi, rfl⟩ := List.mem_map.mp hw
      rw [ifrom_mem] at hi
      have := hz z (.head _)
      exact .inr ⟨i, rfl, by omega, by simp only at hi; omega⟩
theorem chosenL_fits (rank : Int) (s : List Int) (h : ∀ z ∈ s, 0 < z) : ∀ ps ∈ chosenL rank (enumZ 0 s), Fits ps s := by
  have := chosen_fits rank s [] [[]] (fun ps hp => by rw [List.mem_singleton.mp hp]; exact ⟨rfl, fun n p z hq => by simp at hq⟩) h
  simpa [chosenL] using this
theorem chosen_len (rank : Int) : ∀ (ts : List (Int × Int)) (ch : List (List Pt)) (n : Nat), (∀ ps ∈ ch, ps.length = n) → ∀ ps ∈ ts.foldl (chosenStep rank) ch, ps.length = n + ts.length
  | [], ch, n, h, ps, hp => h ps hp
  | t :: ts, ch, n, h, ps, hp => by
    rw [List.foldl_cons] at hp
    rw [List.length_cons, Nat.add_comm ts.length 1, ← Nat.add_assoc]
    refine chosen_len rank ts _ (n + 1) (fun qs hq => ?_) ps hp
    unfold chosenStep at hq
    obtain ⟨w, hw, hq⟩ := List.mem_flatMap.mp hq
    obtain ⟨rs, hr, rfl⟩ := List.mem_map.mp hq
    rw [List.length_append, h rs hr]; rfl
theorem chosenL_len {rank : Int} {ts : List (Int × Int)} {ps : List Pt} (h : ps ∈ chosenL rank ts) : ps.length = ts.length := by
  have := chosen_len rank ts [[]] 0 (fun ps hp => by rw [List.mem_singleton.mp hp]; rfl) ps h
  simpa using this
noncomputable def rowOf (t : Pt × Int) : Row := (t.1.take t.2).getD (1, 1, none)
noncomputable def rowsOf (ps : List Pt) (s : List Int) : List Row := (ps.zip s).map rowOf
theorem taken_of {ps : List Pt} {s : List Int} (h : ∀ t ∈ ps.zip s, (t.1.take t.2).isSome = true) : Taken ps s (rowsOf ps s) := by
  unfold Taken rowsOf
  rw [List.map_map]
  refine List.map_congr_left fun t ht => ?_
  obtain ⟨r, hr⟩ := Option.isSome_iff_exists.mp (h t ht)
  simp only [Function.comp, rowOf, hr, Option.getD_some]
theorem zip_get {α β : Type} {l : List α} {m : List β} {t : α × β} (h : t ∈ l.zip m) : ∃ n : Nat, l[n]? = some t.1 ∧ m[n]? = some t.2 := by
  obtain ⟨n, hn, rfl⟩ := List.getElem_of_mem h
  rw [List.length_zip] at hn
  refine ⟨n, ?_, ?_⟩ <;> simp [show n < l.length by omega, show n < m.length by omega]
theorem Fits.taken {ps : List Pt} {s : List Int} (h : Fits ps s) (hs : ∀ z ∈ s, 0 < z ∧ z ≤ 1000) : Taken ps s (rowsOf ps s) ∧ ∀ r ∈ rowsOf ps s, 1 ≤ r.1 ∧ r.1 ≤ 1000 ∧ -1000 ≤ r.2.1 ∧ r.2.1 ≤ 1000 := by
  have key : ∀ t ∈ ps.zip s, ∃ r, t.1.take t.2 = some r ∧ 1 ≤ r.1 ∧ r.1 ≤ 1000 ∧ -1000 ≤ r.2.1 ∧ r.2.1 ≤ 1000 := fun t ht => by
    obtain ⟨n, h1, h2⟩ := zip_get ht
    have hz := hs t.2 (List.mem_of_getElem? h2)
    rcases h.2 n t.1 t.2 h1 h2 with e | ⟨i, e, a, b⟩
    · rw [e]; exact ⟨_, rfl, by show (1 : Int) ≤ 1 ∧ (1 : Int) ≤ 1000 ∧ (-1000 : Int) ≤ 1 ∧ (1 : Int) ≤ 1000; decide⟩
    · rw [e]; exact ⟨(i, 1, none), by simp [Pt.take, a, b], by show 1 ≤ i; omega, by show i ≤ 1000; omega, by show (-1000 : Int) ≤ 1 ∧ (1 : Int) ≤ 1000; decide⟩
  refine ⟨taken_of fun t ht => by obtain ⟨r, e, _⟩ := key t ht; rw [e]; rfl, fun r hr => ?_⟩
  obtain ⟨t, ht, rfl⟩ := List.mem_map.mp hr
  obtain ⟨r, e, hh⟩ := key t ht
  unfold rowOf; rw [e]; exact hh
theorem ways_eq (rank : Int) (t : Int × Int) (h : ¬ t.1 = rank) (hz : 0 < t.2) : intsFrom 1 (t.2 + 1 - 1).toNat = (waysL rank t).map Pt.d := by
  unfold waysL; rw [if_neg h, intsFrom_eq, List.map_map, Int.add_sub_cancel]; rfl
theorem line_views_ok {f : Addr} {v : Vw} {l : List Int} {rank : Int} (G : Gr c) (hen : c.mg "enumerate" = none) (H : HeapOk c CH aM aT CT) (F : FnIs c (dR 38).name (dR 38) [] f) (ok : VwOk γ v l) (sok : SzOk v l) :
    FnOk c (k + 5) f [heapD CH aT, v.d, .int rank] γ (.list ((chosenL rank (enumZ 0 (v.sz l))).map fun ps => (newView v l (rowsOf ps (v.sz l))).d)) γ := by
  refine fn_ok ["heap", "value", "rank"] F (ρ₀ := upd (upd (upd e0 "rank" (.d (.int rank))) "value" (.d v.d)) "heap" (.d (heapD CH aT))) (o := .ret _ γ) ?_ (.inl rfl)
  have rk := sok.rank
  refine ex_cons (ex_assign (ev_fcall (G.fn 28 (by decide)) (evs_cons (ev_name (by trivial)) (evs_cons (ev_name (by trivial)) evs_nil)) fun f F => sizes_of_ok G H F ok) as_name) ?_
  refine ex_cons (ex_assign (ev_list (evs_cons (Ev.data (ev_list evs_nil)) evs_nil) (Nat.le_of_ble_eq_true rfl)) as_name) ?_
  refine ex_freeze (x := "chosen") (by trivial) ?_
  let J : Vars := upd (upd (upd e0 "rank" (.d (.int rank))) "value" (.d v.d)) "heap" (.d (heapD CH aT))
  let I : List (Int × Int) → Vars := fun pre => upd J "chosen" (.d (.list ((chosenL rank pre).map fun ps => D.list (ps.map Pt.d))))
  have hz : ∀ t ∈ enumZ 0 (v.sz l), 0 < t.2 ∧ t.2 ≤ 4 := fun t ht => sok.small _ (enumZ_mem ht)
  have hlen : ∀ pre post, enumZ 0 (v.sz l) = pre ++ post → (chosenL rank pre).length ≤ 64 := fun pre post e => by
    refine Nat.le_trans (chosenL_length rank pre fun t ht => hz t (by rw [e]; simp [ht])) ?_
    have := congrArg List.length e
    rw [enumZ_length, List.length_append] at this
    exact Nat.le_trans (Nat.pow_le_pow_right (by decide) (show pre.length ≤ 3 by omega)) (by decide)
  refine ex_cons (ex_for (o := .next (I (enumZ 0 (v.sz l))) γ) (evit_sub (σ := I []) (evit_enum (ev_builtin rfl hen rfl) (evs_cons (ev_name (by trivial)) evs_nil)) (by show SubV (upd (upd (upd (upd e0 "rank" (.d (.int rank))) "value" (.d v.d)) "heap" (.d (heapD CH aT))) "chosen" (.d (.list [.list []]))) _; trivial)) ?_) ?_
  · rw [enumD_eq]
    refine for_pre (γ := γ) I pairD (fun pre t => upd (upd (I pre) "at" (.d (.int t.1))) "size" (.d (.int t.2))) _ fun pre t post e => ⟨as_tuple (asl_cons as_name (asl_cons as_name asl_nil)), ?_⟩
    obtain ⟨z0, z1⟩ := hz t (by rw [e]; simp)
    refine ex_cons (ex_assign (u := .own ((waysL rank t).map Pt.d)) (ρ₁ := upd (upd (I pre) "at" (.d (.int t.1))) "size" (.d (.int t.2))) (γ₁ := γ) (ev_ifS (tst_cmp (ev_name (by trivial)) (ev_name (by trivial)) op_eqi) (fun e => ?_) fun e => ?_) as_name) ?_
    · have e' : t.1 = rank := by simpa using e
      have : (waysL rank t).map Pt.d = [.none] := by unfold waysL; rw [if_pos e']; rfl
      rw [this]
      exact ev_list (evs_cons ev_none evs_nil) (Nat.le_of_ble_eq_true rfl)
    · have e' : ¬ t.1 = rank := by simpa using e
      rw [← ways_eq rank t e' z0]
      exact ev_bcall G rfl (evs_cons (ev_bcall G rfl (evs_cons ev_int (evs_cons (ev_binop (ev_name (by trivial)) ev_int op_add) evs_nil)) op_range2) evs_nil) (op_list_range (by decide) (by decide) (by omega) (by omega))
    · refine ex_freeze (x := "ways") (by trivial) ?_
      refine ex_cons (ex_lcc (γ₂ := γ) (out := (chosenL rank (pre ++ [t])).map fun ps => D.list (ps.map Pt.d)) (σ := upd e0 "chosen" (.d (.list ((chosenL rank pre).map fun ps => D.list (ps.map Pt.d))))) (evit_data (ev_name (by trivial)) (.list _)) (by trivial) (by rw [List.length_map]; have := hlen (pre ++ [t]) post (by rw [e]; simp); omega) ?_ (by trivial)) (ex_end (by trivial))
      rw [chosenL_snoc, chosenStep, List.map_flatMap]
      simp only [List.map_map]
      refine comp_nest Pt.d (fun _ => chosenL rank pre) (fun ps => D.list (ps.map Pt.d)) (fun w ps => D.list ((ps ++ [w]).map Pt.d))
        (fun w => upd (upd e0 "chosen" (.d (.list ((chosenL rank pre).map fun ps => D.list (ps.map Pt.d))))) "way" (.d w.d))
        (fun w ps => upd (upd (upd e0 "chosen" (.d (.list ((chosenL rank pre).map fun ps => D.list (ps.map Pt.d))))) "way" (.d w.d)) "parts" (.d (.list (ps.map Pt.d)))) (waysL rank t) (fun w hw => ⟨as_name, by trivial, evit_data (ev_name (by trivial)) (.list _), fun ps hps => ⟨as_name, ev_sub_v (ev_op (Ev.data (ev_binop (ev_name (by trivial)) (Ev.data (ev_list (evs_cons (ev_name (by trivial)) evs_nil) (Nat.le_of_ble_eq_true rfl))) (op_cat_list ?_))) ?_) (by trivial)⟩⟩) (fun _ _ => rfl)
      · rw [List.length_map, chosenL_len hps]
        have h2 := congrArg List.length e
        rw [enumZ_length, List.length_append] at h2
        show _ + 1 ≤ _
        omega
      · rw [List.map_append]; rfl
  · have ht := chosenL_fits rank (v.sz l) fun z hz => (sok.small z hz).1
    refine ex_ret (ex_return (Ev.data (ev_lc (γ₂ := γ) (σ := upd (upd e0 "value" (.d v.d)) "heap" (.d (heapD CH aT))) (evit_data (ev_name (by trivial)) (.list _)) (by trivial) (by rw [List.length_map]; have := hlen (enumZ 0 (v.sz l)) [] (by simp); omega)
      ⟨_, comp_map (fun ps => D.list (ps.map Pt.d)) (fun ps => (newView v l (rowsOf ps (v.sz l))).d) (fun ps => upd (upd (upd e0 "value" (.d v.d)) "heap" (.d (heapD CH aT))) "parts" (.d (.list (ps.map Pt.d)))) _ fun ps hps => ⟨as_name, ev_sub_v (ev_fcall (G.fn 37 (by decide)) (evs_cons (ev_name (by trivial)) (evs_cons (ev_name (by trivial)) (evs_cons (ev_name (by trivial)) evs_nil))) fun f F => view_of_ok G H F ok sok (ht ps hps).1 ((ht ps hps).taken fun z hz => by have := sok.small z hz; omega).1 ((ht ps hps).taken fun z hz => by have := sok.small z hz; omega).2) (by trivial)⟩⟩ (by trivial))))
end
section
variable {c : Cx} {k : Nat} {S : Scope} {ρ ρ' ρ₁ ρ₂ ρ₃ σ : Vars} {γ γ' γ₁ γ₂ γ₃ : GS} {fn : Bool} {aM aT CT CH : Addr}
inductive WhR (c : Cx) (k : Nat) (S : Scope) (test : Expr) (body : List Stmt) : Vars → GS → Out → Prop
  | done {ρ ρ₁ : Vars} {γ γ₁ : GS} : TstE c k S ρ γ test false ρ₁ γ₁ → WhR c k S test body ρ γ (.next ρ₁ γ₁)
  | turn {ρ ρ₁ ρ₂ : Vars} {γ γ₁ γ₂ : GS} {o : Out} : TstE c k S ρ γ test true ρ₁ γ₁ → ExB c k S ρ₁ γ₁ body (.next ρ₂ γ₂) → WhR c k S test body ρ₂ γ₂ o → WhR c k S test body ρ γ o
theorem whileTurn_run {prog : Program} {w : World} {A : Around} {test : Expr} {body : List Stmt} {env : Env} {R : Result → Shared → Prop} {s : Shared}
    (h : wpAny (model prog w) A (isTrue test env (eval test env)) (fun b s₁ => match b with
      | false => R (.ok .next) s₁
      | true => wpAny (model prog w) A (execs body env) (fun f s₄ => match f with
          | .next | .cont => codeAny (model prog w) A (.whileLoop test body [] env) R s₄
          | .brk => R (.ok .next) s₄
          | .ret v => R (.ok (.ret v)) s₄) (notedBy (model prog w) A env fun e s' => R (.error e) s') s₁) (notedBy (model prog w) A env fun e s' => R (.error e) s') s) :
    codeAny (model prog w) A (.whileLoop test body [] env) R s := by
  refine codeAny_of_tree ?_
  show wpAny _ _ ((whileTurn test body [] env).onRaise (fun x => do noteFrame x env; theTreesLotGoes x)) _ _ s
  refine wpAny_noted ?_
  simp only [whileTurn]
  refine wpAny_bind (wpAny_mono h (fun r s₁ h₁ => ?_) fun _ _ h' => h')
  cases r with
  | false => exact wpAny_bind (wpAny_execs_nil (wpAny_pure h₁))
  | true =>
    refine wpAny_bind (wpAny_mono h₁ (fun f s₄ h₄ => ?_) fun _ _ h' => h')
    cases f with
    | next => exact wpAny_pure ⟨rfl, h₄⟩
    | cont => exact wpAny_pure ⟨rfl, h₄⟩
    | brk => exact wpAny_pure h₄
    | ret v => exact wpAny_pure h₄
theorem ex_while {test : Expr} {body : List Stmt} {pos : Pos} {o : Out} (h : WhR c k S test body ρ γ o) : ExS c k S ρ γ (.While test body [] pos) o := by
  intro A env W Z s Q E hs hf rm R q
  refine wpAny_While ?_
  have key : ∀ {ρ : Vars} {γ : GS} {o : Out}, WhR c k S test body ρ γ o → ∀ (W : Addr → Prop) (s : Shared), Rel c γ env W Z ρ s → OutOk c env W Z s Q o →
      codeAny (model c.prog c.w) A (.whileLoop test body [] env) (fun r s' => match r with | .ok f => Q f s' | .error e => cameBackBy (model c.prog c.w) A env E e s') s := by
    intro ρ γ o h
    induction h with
    | done ht =>
      intro W s R q
      exact whileTurn_run (ht A env W Z s _ _ hs rm R fun s₁ W₁ x₁ R₁ => q s₁ W₁ x₁.toExt R₁)
    | turn ht hb _ ih =>
      intro W s R q
      refine whileTurn_run (ht A env W Z s _ _ hs rm R fun s₁ W₁ x₁ R₁ => ?_)
      exact hb A env W₁ Z s₁ _ _ hs hf rm R₁ fun s₂ W₂ x₂ R₂ => ih W₂ s₂ R₂ (q.ext (x₁.toExt.trans x₂))
  exact key h W s R q
noncomputable def knot (γ : GS) (many : Int) : Int × GS :=
  if γ.m0 > 0 then (γ.m0 % many, { γ with m0 := γ.m0 / many }) else (((γ.m1 * 163 + 5011) % 65381) / 4 % many, { γ with m1 := (γ.m1 * 163 + 5011) % 65381 })
theorem knot_bound (γ : GS) {many : Int} (h : 0 < many) : 0 ≤ (knot γ many).1 ∧ (knot γ many).1 < many := by
  unfold knot
  split
  · exact ⟨Int.emod_nonneg _ (by omega), Int.emod_lt_of_pos _ h⟩
  · exact ⟨Int.emod_nonneg _ (by omega), Int.emod_lt_of_pos _ h⟩
theorem knot_th (γ : GS) (many : Int) : (knot γ many).2.th = γ.th := by unfold knot; split <;> rfl
theorem ev_mast0 {p pos q : Pos} {j : Nat} (H : HM c aM aT CT) (hx : ρ "mast" = some (.d (.raw (.ref aM)))) : EvE c k S ρ γ (.Subscript (.Name "mast" p) (.Constant (.int 0) j q) pos) (.d (.int γ.m0)) ρ γ :=
  ev_subR (ev_name hx) ev_int (opR_item_mast H (.inl ⟨rfl, rfl⟩) fun _ _ => rfl)
theorem ev_mast1 {p pos q : Pos} {j : Nat} (H : HM c aM aT CT) (hx : ρ "mast" = some (.d (.raw (.ref aM)))) : EvE c k S ρ γ (.Subscript (.Name "mast" p) (.Constant (.int 1) j q) pos) (.d (.int γ.m1)) ρ γ :=
  ev_subR (ev_name hx) ev_int (opR_item_mast H (.inr ⟨rfl, rfl⟩) fun _ _ => rfl)
theorem knot_ok {f : Addr} {many : Int} (G : Gr c) (H : HM c aM aT CT) (F : FnIs c (dR 41).name (dR 41) [] f) (h0 : 0 < many) (h1 : many ≤ 1000) : FnOk c k f [.raw (.ref aM), .int many] γ (.int (knot γ many).1) (knot γ many).2 := by
  refine fn_ok ["mast", "many"] F (ρ₀ := upd (upd e0 "many" (.d (.int many))) "mast" (.d (.raw (.ref aM)))) (o := .ret _ _) ?_ (.inl rfl)
  by_cases hm : γ.m0 > 0
  · have e : knot γ many = (γ.m0 % many, { γ with m0 := γ.m0 / many }) := by unfold knot; rw [if_pos hm]
    rw [e]
    refine ex_take (tst_is (tst_cmp (ev_mast0 H (by trivial)) ev_int op_gt) (by simp [hm])) ?_
    refine ex_cons (ex_assign (ev_binop (ev_mast0 H (by trivial)) (ev_name (by trivial)) (op_mod h0)) as_name) ?_
    refine ex_cons (ex_setmast H (ev_binop (ev_mast0 H (by trivial)) (ev_name (by trivial)) (op_div h0 (by omega))) (ev_name (by trivial)) ev_int (.inl ⟨rfl, rfl⟩)) ?_
    exact ex_ret (ex_return (ev_name (by trivial)))
  · have e : knot γ many = (((γ.m1 * 163 + 5011) % 65381) / 4 % many, { γ with m1 := (γ.m1 * 163 + 5011) % 65381 }) := by unfold knot; rw [if_neg hm]
    rw [e]
    refine ex_skip (tst_is (tst_cmp (ev_mast0 H (by trivial)) ev_int op_gt) (by simp [hm])) ?_
    refine ex_cons (ex_setmast H (ev_binop (ev_binop (ev_binop (ev_mast1 H (by trivial)) ev_int (op_mul (mulOk_small (.inr (by decide))))) ev_int op_add) ev_int (op_mod (by decide))) (ev_name (by trivial)) ev_int (.inr ⟨rfl, rfl⟩)) ?_
    exact ex_ret (ex_return (ev_binop (ev_binop (ev_mast1 H (by trivial)) ev_int (op_div (by decide) (by decide))) (ev_name (by trivial)) (op_mod h0)))
noncomputable def fitDown (f s z : Int) : Nat → Nat
  | 0 => 0
  | m + 1 => if 1 ≤ f + s * ((m + 1 : Nat) - 1 : Int) ∧ f + s * ((m + 1 : Nat) - 1 : Int) ≤ z then m + 1 else fitDown f s z m
theorem fitDown_spec (f s z : Int) (hf : 1 ≤ f ∧ f ≤ z) : ∀ (m : Nat), 1 ≤ m → 1 ≤ fitDown f s z m ∧ fitDown f s z m ≤ m ∧ 1 ≤ f + s * ((fitDown f s z m : Int) - 1) ∧ f + s * ((fitDown f s z m : Int) - 1) ≤ z
  | 0, h => by omega
  | 1, _ => by
    have e : f + s * (((0 + 1 : Nat) : Int) - 1) = f := by simp
    have : fitDown f s z 1 = 1 := by unfold fitDown; rw [e, if_pos hf]
    rw [this]
    refine ⟨by omega, by omega, ?_⟩
    simpa using hf
  | m + 2, _ => by
    unfold fitDown
    split
    · rename_i h
      exact ⟨by omega, by omega, h⟩
    · obtain ⟨a, b, d⟩ := fitDown_spec f s z hf (m + 1) (by omega)
      exact ⟨a, by omega, d⟩
noncomputable def stepOf (i : Int) : Int := if i = 0 then 1 else if i = 1 then 2 else if i = 2 then -1 else -2
noncomputable def pick (f s m : Int) : List Int := (below m).map fun a => f + s * a
noncomputable def partOf (γ : GS) (z : Int) : Pt × List Int × GS :=
  let w := knot γ 3
  if w.1 = 0 then (.all, ifrom 1 z.toNat, w.2) else
  let f := knot w.2 z
  if w.1 = 1 then (.one (1 + f.1), [1 + f.1], f.2) else
  let s := knot f.2 4
  let m := knot s.2 3
  let n : Int := fitDown (1 + f.1) (stepOf s.1) z (1 + m.1).toNat
  (.row (1 + f.1) (stepOf s.1) n, pick (1 + f.1) (stepOf s.1) n, m.2)
theorem partOf_th (γ : GS) (z : Int) : (partOf γ z).2.2.th = γ.th := by
  unfold partOf
  simp only
  split
  · exact knot_th _ _
  · split
    · rw [knot_th, knot_th]
    · rw [knot_th, knot_th, knot_th, knot_th]
noncomputable abbrev pairPD (t : Pt × List Int) : D := .tuple [t.1.d, .list (t.2.map D.int)]
theorem while_down {test : Expr} {body : List Stmt} (f s z : Int) (hf : 1 ≤ f ∧ f ≤ z) (I : Nat → Vars)
    (ht : ∀ m : Nat, 1 ≤ m → m ≤ 3 → TstE c k S (I m) γ test (!(decide (1 ≤ f + s * ((m : Int) - 1)) && decide (f + s * ((m : Int) - 1) ≤ z))) (I m) γ) (hb : ∀ m : Nat, m + 1 ≤ 3 → ExB c k S (I (m + 1)) γ body (.next (I m) γ)) :
    ∀ m : Nat, 1 ≤ m → m ≤ 3 → WhR c k S test body (I m) γ (.next (I (fitDown f s z m)) γ)
  | 0, h, _ => by omega
  | m + 1, h, h3 => by
    unfold fitDown
    split
    · rename_i hh
      have h0 := ht (m + 1) h h3
      rw [decide_eq_true hh.1, decide_eq_true hh.2] at h0
      exact .done h0
    · rename_i hh
      have h0 := ht (m + 1) h h3
      have e : (!(decide (1 ≤ f + s * (((m + 1 : Nat) : Int) - 1)) && decide (f + s * (((m + 1 : Nat) : Int) - 1) ≤ z))) = true := by
        simp only [Bool.not_eq_true', Bool.and_eq_false_iff, decide_eq_false_iff_not]
        exact Decidable.or_iff_not_imp_left.mpr fun n n' => hh ⟨Decidable.not_not.mp n, n'⟩
      rw [e] at h0
      have hm : 1 ≤ m := by
        rcases Nat.eq_zero_or_pos m with rfl | h
        · exact absurd (by simpa using hf) hh
        · exact h
      exact .turn h0 (hb m h3) (while_down f s z hf I ht hb m hm (by omega))
theorem part_ok {f : Addr} {z : Int} (G : Gr c) (H : HM c aM aT CT) (F : FnIs c (dR 42).name (dR 42) [] f) (h0 : 0 < z) (h1 : z ≤ 4) :
    FnOk c (k + 1) f [.raw (.ref aM), .int z] γ (pairPD ((partOf γ z).1, (partOf γ z).2.1)) (partOf γ z).2.2 := by
  refine fn_ok ["mast", "size"] F (ρ₀ := upd (upd e0 "size" (.d (.int z))) "mast" (.d (.raw (.ref aM)))) (o := .ret _ _) ?_ (.inl rfl)
  refine ex_cons (ex_assign (ev_fcall (G.fn 41 (by decide)) (evs_cons (ev_name (by trivial)) (evs_cons ev_int evs_nil)) fun f F => knot_ok G H F (by decide) (by decide)) as_name) ?_
  by_cases w0 : (knot γ 3).1 = 0
  · refine ex_take (tst_is (tst_cmp (ev_name (by trivial)) ev_int op_eqi) (by simp [w0])) ?_
    have e : partOf γ z = (.all, ifrom 1 z.toNat, (knot γ 3).2) := by unfold partOf; simp only [if_pos w0]
    rw [e]
    refine ex_ret (ex_return (ev_op (ev_tuple (evs_cons ev_none (evs_cons (Ev.data (ev_bcall G rfl (evs_cons (ev_bcall G rfl (evs_cons ev_int (evs_cons (ev_binop (ev_name (by trivial)) ev_int op_add) evs_nil)) op_range2) evs_nil) (op_list_range (by decide) (by decide) (by omega) (by omega)))) evs_nil)) (Nat.le_of_ble_eq_true rfl)) ?_))
    rw [intsFrom_eq, Int.add_sub_cancel]; rfl
  refine ex_skip (tst_is (tst_cmp (ev_name (by trivial)) ev_int op_eqi) (by simp [w0])) ?_
  have fb := knot_bound (knot γ 3).2 h0
  refine ex_cons (ex_assign (ev_binop ev_int (ev_fcall (G.fn 41 (by decide)) (evs_cons (ev_name (by trivial)) (evs_cons (ev_name (by trivial)) evs_nil)) fun f F => knot_ok G H F h0 (by omega)) op_add) as_name) ?_
  by_cases w1 : (knot γ 3).1 = 1
  · refine ex_take (tst_is (tst_cmp (ev_name (by trivial)) ev_int op_eqi) (by simp [w1])) ?_
    have e : partOf γ z = (.one (1 + (knot (knot γ 3).2 z).1), [1 + (knot (knot γ 3).2 z).1], (knot (knot γ 3).2 z).2) := by unfold partOf; simp only [if_neg w0, if_pos w1]
    rw [e]
    exact ex_ret (ex_return (ev_tuple (evs_cons (ev_name (by trivial)) (evs_cons (Ev.data (ev_list (evs_cons (ev_name (by trivial)) evs_nil) (Nat.le_of_ble_eq_true rfl))) evs_nil)) (Nat.le_of_ble_eq_true rfl)))
  refine ex_skip (tst_is (tst_cmp (ev_name (by trivial)) ev_int op_eqi) (by simp [w1])) ?_
  have sb := knot_bound (knot (knot γ 3).2 z).2 (show (0 : Int) < 4 by decide)
  have mb := knot_bound (knot (knot (knot γ 3).2 z).2 4).2 (show (0 : Int) < 3 by decide)
  have e : partOf γ z = (.row (1 + (knot (knot γ 3).2 z).1) (stepOf (knot (knot (knot γ 3).2 z).2 4).1) (fitDown (1 + (knot (knot γ 3).2 z).1) (stepOf (knot (knot (knot γ 3).2 z).2 4).1) z (1 + (knot (knot (knot (knot γ 3).2 z).2 4).2 3).1).toNat : Nat),
    pick (1 + (knot (knot γ 3).2 z).1) (stepOf (knot (knot (knot γ 3).2 z).2 4).1) (fitDown (1 + (knot (knot γ 3).2 z).1) (stepOf (knot (knot (knot γ 3).2 z).2 4).1) z (1 + (knot (knot (knot (knot γ 3).2 z).2 4).2 3).1).toNat : Nat), (knot (knot (knot (knot γ 3).2 z).2 4).2 3).2) := by
    unfold partOf; simp only [if_neg w0, if_neg w1]
  rw [e]
  refine ex_cons (ex_assign (ev_sub (Ev.data (ev_list (evs_cons ev_int (evs_cons ev_int (evs_cons (ev_unop ev_int op_neg) (evs_cons (ev_unop ev_int op_neg) evs_nil)))) (Nat.le_of_ble_eq_true rfl))) (ev_fcall (G.fn 41 (by decide)) (evs_cons (ev_name (by trivial)) (evs_cons ev_int evs_nil)) fun f F => knot_ok G H F (by decide) (by decide)) (op_item_list (d := .int (stepOf (knot (knot (knot γ 3).2 z).2 4).1)) sb.1 ?_ (fun _ _ => rfl) (Nat.le_of_ble_eq_true rfl))) as_name) ?_
  · generalize (knot (knot (knot γ 3).2 z).2 4).1 = i at sb ⊢
    have : i = 0 ∨ i = 1 ∨ i = 2 ∨ i = 3 := by omega
    rcases this with rfl | rfl | rfl | rfl <;> rfl
  refine ex_cons (ex_assign (ev_binop ev_int (ev_fcall (G.fn 41 (by decide)) (evs_cons (ev_name (by trivial)) (evs_cons ev_int evs_nil)) fun f F => knot_ok G H F (by decide) (by decide)) op_add) as_name) ?_
  generalize (knot (knot (knot (knot γ 3).2 z).2 4).2 3).1 = m at mb ⊢
  generalize (knot (knot (knot (knot γ 3).2 z).2 4).2 3).2 = γ₁
  have hs9 : -1000 ≤ stepOf (knot (knot (knot γ 3).2 z).2 4).1 ∧ stepOf (knot (knot (knot γ 3).2 z).2 4).1 ≤ 1000 := by
    unfold stepOf; split
    · decide
    · split
      · decide
      · split <;> decide
  generalize stepOf (knot (knot (knot γ 3).2 z).2 4).1 = s at hs9 ⊢
  generalize (knot (knot γ 3).2 z).1 = fi at fb ⊢
  let I : Nat → Vars := fun n => upd (upd (upd (upd e0 "size" (.d (.int z))) "first" (.d (.int (1 + fi)))) "step" (.d (.int s))) "many" (.d (.int n))
  have hm0 : ((1 + m).toNat : Int) = 1 + m := by omega
  refine ex_from (ρ₁ := I (1 + m).toNat) ?_ (by show SubV (upd (upd (upd (upd e0 "size" (.d (.int z))) "first" (.d (.int (1 + fi)))) "step" (.d (.int s))) "many" (.d (.int (1 + m).toNat))) _; rw [hm0]; trivial)
  have mspec := fitDown_spec (1 + fi) s z (by omega) (1 + m).toNat (by omega)
  refine ex_cons (ex_while (while_down (γ := γ₁) (1 + fi) s z (by omega) I (fun n n1 n3 => ?_) (fun n n3 => ?_) (1 + m).toNat (by omega) (by omega))) ?_
  · exact tst_not (tst_chain ev_int (ev_binop (ev_name (by trivial)) (ev_binop (ev_name (by trivial)) (ev_binop (ev_name (by trivial)) ev_int op_sub) (op_mul (mulOk_small (.inl (by constructor <;> omega))))) op_add) op_le (fun _ => ev_name (by trivial)) fun _ => op_le)
  · refine ex_cons (ex_assign (ev_is (ev_binop (ev_name (by trivial)) ev_int op_sub) (d' := .int n) (by congr 1; omega)) as_name) (ex_end (by trivial))
  · generalize fitDown (1 + fi) s z (1 + m).toNat = n at mspec ⊢
    refine ex_ret (ex_return (ev_tuple (evs_cons (ev_tuple (evs_cons (ev_name (by trivial)) (evs_cons (ev_name (by trivial)) (evs_cons (ev_name (by trivial)) evs_nil))) (Nat.le_of_ble_eq_true rfl)) (evs_cons (Ev.data (ev_lc (γ₂ := γ₁) (out := (pick (1 + fi) s n).map D.int) (σ := upd (upd e0 "first" (.d (.int (1 + fi)))) "step" (.d (.int s))) (evit_data (ev_bcall G rfl (evs_cons (ev_name (by trivial)) evs_nil) op_range1) (iter_below (z := n) (by omega) (by omega))) (by trivial) (by unfold pick; rw [List.length_map, List.length_map, below_length]; omega) ?_ (by trivial))) evs_nil)) (Nat.le_of_ble_eq_true rfl)))
    unfold pick
    rw [List.map_map]
    exact ⟨_, comp_map D.int (fun a => .int (1 + fi + s * a)) (fun a => upd (upd (upd e0 "first" (.d (.int (1 + fi)))) "step" (.d (.int s))) "at" (.d (.int a))) _ fun a ha => ⟨as_name, ev_sub_v (ev_binop (ev_name (by trivial)) (ev_binop (ev_name (by trivial)) (ev_name (by trivial)) (op_mul (mulOk_small (.inl (by constructor <;> omega))))) op_add) (by trivial)⟩⟩
end
section
variable {c : Cx} {k : Nat} {S : Scope} {ρ ρ' ρ₁ ρ₂ ρ₃ σ : Vars} {γ γ' γ₁ γ₂ γ₃ : GS} {fn : Bool} {aM aT CT CH : Addr}
theorem exl_end (l : SubV σ ρ) : ExL c k S ρ γ (fun env => execs [] env) σ γ := (ex_end l).toL
theorem exl_cons {st : Stmt} {b : List Stmt} (h1 : ExS c k S ρ γ st (.next ρ₁ γ₁)) (h2 : ExL c k S ρ₁ γ₁ (fun env => execs b env) ρ₂ γ₂) : ExL c k S ρ γ (fun env => execs (st :: b) env) ρ₂ γ₂ :=
  fun A env W Z s Q E hs hf rm R q => wpAny_execs_cons (h1 A env W Z s _ E hs hf rm R fun s₁ W₁ x₁ R₁ => h2 A env W₁ Z s₁ Q E hs hf rm R₁ fun s₂ W₂ x₂ R₂ => q s₂ W₂ (x₁.trans x₂) R₂)
noncomputable def ExK (c : Cx) (k : Nat) (S : Scope) (ρ : Vars) (γ : GS) (t : Env → Sem Flow) (ρ' : Vars) (γ' : GS) : Prop :=
  ∀ (A : Around) (env : Env) (W Z : Addr → Prop) (s : Shared) (Q : Flow → Shared → Prop) (E : Value → Shared → Prop), env.scope = S → FnEnv env → Room A k → Rel c γ env W Z ρ s →
    (∀ s' W', Ext W s W' s' → Rel c γ' env W' Z ρ' s' → Q .cont s') → wpAny (model c.prog c.w) A (t env) Q E s
theorem exk_continue {pos : Pos} {b : List Stmt} (l : SubV σ ρ) : ExK c k S ρ γ (fun env => execs (.Continue pos :: b) env) σ γ :=
  fun A env W Z s Q E hs hf rm R q => wpAny_execs_cons (wpAny_Continue (q s W (Ext.refl W s) (R.forget l)))
theorem exk_cons {st : Stmt} {b : List Stmt} (h1 : ExS c k S ρ γ st (.next ρ₁ γ₁)) (h2 : ExK c k S ρ₁ γ₁ (fun env => execs b env) ρ₂ γ₂) : ExK c k S ρ γ (fun env => execs (st :: b) env) ρ₂ γ₂ :=
  fun A env W Z s Q E hs hf rm R q => wpAny_execs_cons (h1 A env W Z s _ E hs hf rm R fun s₁ W₁ x₁ R₁ => h2 A env W₁ Z s₁ Q E hs hf rm R₁ fun s₂ W₂ x₂ R₂ => q s₂ W₂ (x₁.trans x₂) R₂)
theorem exl_if_cont {test : Expr} {body b : List Stmt} {pos : Pos} (h : TstE c k S ρ γ test true ρ γ) (h2 : ExK c k S ρ γ (fun env => execs body env) ρ₂ γ₂) : ExL c k S ρ γ (fun env => execs (.If test body [] pos :: b) env) ρ₂ γ₂ :=
  fun A env W Z s Q E hs hf rm R q => wpAny_execs_cons (wpAny_If (h A env W Z s _ E hs rm R fun s₁ W₁ x₁ R₁ => h2 A env W₁ Z s₁ _ E hs hf rm R₁ fun s₂ W₂ x₂ R₂ => (q s₂ W₂ (x₁.toExt.trans x₂) R₂).2))
theorem for_preL {β : Type} (I : List β → Vars) (g : β → D) (T : List β → β → Vars) {tgt : Expr} {body : List Stmt} (l : List β)
    (h : ∀ pre b post, l = pre ++ b :: post → As c S true tgt (.d (g b)) (I pre) (T pre b) ∧ ExL c k S (T pre b) γ (fun env => execs body env) (I (pre ++ [b])) γ) : ForR c k S tgt body (l.map g) (I []) γ (.next (I l) γ) := by
  have key : ∀ (post pre : List β), l = pre ++ post → ForR c k S tgt body (post.map g) (I pre) γ (.next (I l) γ) := by
    intro post
    induction post with
    | nil => intro pre e; rw [e, List.append_nil]; exact .nil
    | cons b post ih =>
      intro pre e
      obtain ⟨h1, h2⟩ := h pre b post e
      exact .cons h1 h2 (ih (pre ++ [b]) (by rw [e, List.append_assoc]; rfl))
  exact key l [] rfl
noncomputable def gridStep (found : List (List Int)) (z : Int) : List (List Int) := (ifrom 1 z.toNat).flatMap fun i => found.map fun row => row ++ [i]
noncomputable def gridL (s : List Int) : List (List Int) := s.foldl gridStep [[]]
theorem gridL_snoc (s : List Int) (z : Int) : gridL (s ++ [z]) = gridStep (gridL s) z := by unfold gridL; rw [List.foldl_append]; rfl
theorem gridStep_length (found : List (List Int)) (z : Int) : (gridStep found z).length = z.toNat * found.length := by
  unfold gridStep
  rw [List.length_flatMap]
  simp only [List.length_map]
  rw [List.map_const', ifrom_length, List.sum_replicate_nat]
theorem foldGrid_length : ∀ (s : List Int) (found : List (List Int)), (∀ z ∈ s, 0 ≤ z) → ((s.foldl gridStep found).length : Int) = found.length * prodI s
  | [], found, _ => by show (found.length : Int) = found.length * 1; omega
  | z :: s, found, h => by
    rw [List.foldl_cons, foldGrid_length s _ fun y hy => h y (.tail _ hy), gridStep_length, prodI_cons]
    have hz := h z (.head _)
    have e : ((z.toNat * found.length : Nat) : Int) = z * found.length := by rw [Int.natCast_mul]; congr 1; omega
    rw [e, ← Int.mul_assoc, Int.mul_comm z]
theorem gridL_length (s : List Int) (h : ∀ z ∈ s, 0 ≤ z) : ((gridL s).length : Int) = prodI s := by
  have := foldGrid_length s [[]] h
  simpa [gridL] using this
theorem gridStep_row {found : List (List Int)} {z : Int} {n : Nat} (h : ∀ r ∈ found, r.length = n) : ∀ r ∈ gridStep found z, r.length = n + 1 := fun r hr => by
  obtain ⟨i, _, hr⟩ := List.mem_flatMap.mp hr
  obtain ⟨q, hq, rfl⟩ := List.mem_map.mp hr
  rw [List.length_append, h q hq]; rfl
theorem foldGrid_row : ∀ (s : List Int) (found : List (List Int)) (n : Nat), (∀ r ∈ found, r.length = n) → ∀ r ∈ s.foldl gridStep found, r.length = n + s.length
  | [], found, n, h, r, hr => h r hr
  | z :: s, found, n, h, r, hr => by
    rw [List.foldl_cons] at hr
    rw [List.length_cons, Nat.add_comm s.length 1, ← Nat.add_assoc]
    exact foldGrid_row s _ (n + 1) (gridStep_row h) r hr
theorem gridL_row {s : List Int} {r : List Int} (h : r ∈ gridL s) : r.length = s.length := by
  have := foldGrid_row s [[]] 0 (fun r hr => by rw [List.mem_singleton.mp hr]; rfl) r h
  simpa using this
theorem grid_ok {f : Addr} {s : List Int} (G : Gr c) (F : FnIs c (dR 43).name (dR 43) [] f) (hl : s.length ≤ 3) (h : ∀ z ∈ s, 0 < z ∧ z ≤ 4) : FnOk c k f [.ints s] γ (.list ((gridL s).map fun r => .ints r)) γ := by
  refine fn_ok ["sizes"] F (ρ₀ := upd e0 "sizes" (.d (.ints s))) (o := .ret _ γ) ?_ (.inl rfl)
  refine ex_cons (ex_assign (ev_list (evs_cons (ev_tuple evs_nil) evs_nil) (Nat.le_of_ble_eq_true rfl)) as_name) ?_
  refine ex_freeze (x := "found") (by trivial) ?_
  let I : List Int → Vars := fun pre => upd e0 "found" (.d (.list ((gridL pre).map fun r => D.ints r)))
  refine ex_cons (ex_for (o := .next (I s) γ) (evit_sub (σ := I []) (evit_data (ev_name (by trivial)) (.tuple _)) (by show SubV (upd e0 "found" (.d (.list [.tuple []]))) _; trivial)) ?_) ?_
  · refine for_pre (γ := γ) I D.int (fun pre z => upd (I pre) "size" (.d (.int z))) s fun pre z post e => ⟨as_name, ?_⟩
    obtain ⟨z0, z1⟩ := h z (by rw [e]; simp)
    have hpl : pre.length + 1 ≤ 3 := by
      have := congrArg List.length e
      rw [List.length_append, List.length_cons] at this
      omega
    have hlen := gridL_length (pre ++ [z]) fun y hy => by have := (h y (by rw [e]; simp at hy ⊢; rcases hy with q | q <;> simp [q])).1; omega
    have hsm := prodI_small (pre ++ [z]) (by rw [List.length_append]; exact hpl) fun y hy => h y (by rw [e]; simp at hy ⊢; rcases hy with q | q <;> simp [q])
    refine ex_cons (ex_lcc (γ₂ := γ) (out := (gridL (pre ++ [z])).map fun r => D.ints r) (σ := upd e0 "found" (.d (.list ((gridL pre).map fun r => D.ints r)))) (evit_data (its := (ifrom 1 z.toNat).map D.int) (ev_bcall G rfl (evs_cons ev_int (evs_cons (ev_binop (ev_name (by trivial)) ev_int op_add) evs_nil)) op_range2) ?_) (by trivial) (by rw [List.length_map]; omega) ?_ (by trivial)) (ex_end (by trivial))
    · have := Iter.range 1 (z + 1) (by decide) (by decide) (by omega) (by omega)
      rw [intsFrom_eq, Int.add_sub_cancel] at this
      exact this
    · rw [gridL_snoc, gridStep, List.map_flatMap]
      simp only [List.map_map]
      refine comp_nest D.int (fun _ => gridL pre) (fun r => D.ints r) (fun i r => D.ints (r ++ [i]))
        (fun i => upd (upd e0 "found" (.d (.list ((gridL pre).map fun r => D.ints r)))) "index" (.d (.int i)))
        (fun i r => upd (upd (upd e0 "found" (.d (.list ((gridL pre).map fun r => D.ints r)))) "index" (.d (.int i))) "row" (.d (.ints r))) (ifrom 1 z.toNat) (fun i hi => ⟨as_name, by trivial, evit_data (ev_name (by trivial)) (.list _), fun r hr => ⟨as_name, ev_sub_v (ev_op (ev_binop (ev_name (by trivial)) (ev_tuple (evs_cons (ev_name (by trivial)) evs_nil) (Nat.le_of_ble_eq_true rfl)) (op_cat_tuple ?_)) ?_) (by trivial)⟩⟩) (fun _ _ => rfl)
      · rw [List.length_map, gridL_row hr]; show _ + 1 ≤ _; omega
      · show D.tuple _ = D.tuple _
        rw [List.map_append]; rfl
  · exact ex_ret (ex_return (ev_name (by trivial)))
noncomputable def backStep (a : List Int × Int) (far : Int) : List Int × Int := ([a.2 / far + 1] ++ a.1, a.2 % far)
noncomputable def backL (st : List Int) (place : Int) : List Int := (st.reverse.foldl backStep ([], place)).1
theorem back_len : ∀ (l : List Int) (a : List Int × Int), (l.foldl backStep a).1.length = a.1.length + l.length
  | [], a => rfl
  | z :: l, a => by rw [List.foldl_cons, back_len l, List.length_cons]; unfold backStep; rw [List.length_append, List.length_singleton]; omega
theorem back_ok {f : Addr} {s : List Int} {p : Int} (G : Gr c) (F : FnIs c (dR 44).name (dR 44) [] f) (hl : s.length ≤ 3) (h : ∀ z ∈ s, 0 < z ∧ z ≤ 4) (hst : ∀ z ∈ strides 1 s, 0 < z ∧ z ≤ 1000) : FnOk c (k + 1) f [.ints s, .int p] γ (.ints (backL (strides 1 s) p)) γ := by
  refine fn_ok ["sizes", "place"] F (ρ₀ := upd (upd e0 "place" (.d (.int p))) "sizes" (.d (.ints s))) (o := .ret _ γ) ?_ (.inl rfl)
  refine ex_cons (ex_assign (ev_list evs_nil) as_name) ?_
  refine ex_freeze (x := "found") (by trivial) ?_
  let I : List Int → Vars := fun pre => upd (upd e0 "found" (.d (.list ((pre.foldl backStep ([], p)).1.map D.int)))) "place" (.d (.int (pre.foldl backStep ([], p)).2))
  have sm : ∀ z ∈ s, Small z := fun z hz => by obtain ⟨a, b⟩ := h z hz; constructor <;> omega
  refine ex_cons (ex_for (o := .next (I (strides 1 s).reverse) γ) (evit_sub (σ := I []) (evit_data (its := (strides 1 s).reverse.map D.int) (ev_rev (ev_fcall (G.fn 21 (by decide)) (evs_cons (ev_name (by trivial)) evs_nil) fun f F => strides_of_ok G F sm (by omega)) (ev_unop ev_int op_neg) (by rw [List.length_map, strides_length]; omega)) (by rw [List.map_reverse]; exact .tuple _)) (by show SubV (upd (upd e0 "found" (.d (.list []))) "place" (.d (.int p))) _; trivial)) ?_) ?_
  · refine for_pre (γ := γ) I D.int (fun pre z => upd (I pre) "far" (.d (.int z))) _ fun pre z post e => ⟨as_name, ?_⟩
    obtain ⟨z0, z1⟩ := hst z (by rw [← List.mem_reverse, e]; simp)
    have hpl : pre.length ≤ 3 := by
      have := congrArg List.length e
      rw [List.length_append, List.length_cons, List.length_reverse, strides_length] at this
      omega
    refine ex_cons (ex_assign (ev_binop (Ev.data (ev_list (evs_cons (ev_binop (ev_binop (ev_name (by trivial)) (ev_name (by trivial)) (op_div z0 (by omega))) ev_int op_add) evs_nil) (Nat.le_of_ble_eq_true rfl))) (ev_name (by trivial)) (op_cat_list (by rw [List.length_map, back_len]; show 1 + (0 + pre.length) ≤ _; omega))) as_name) ?_
    refine ex_freeze (x := "found") (by trivial) ?_
    refine ex_cons (ex_assign (ev_binop (ev_name (by trivial)) (ev_name (by trivial)) (op_mod z0)) as_name) (ex_end ?_)
    show SubV (upd (upd e0 "found" (.d (.list (((pre ++ [z]).foldl backStep ([], p)).1.map D.int)))) "place" (.d (.int ((pre ++ [z]).foldl backStep ([], p)).2))) _
    rw [List.foldl_append]
    show SubV (upd (upd e0 "found" (.d (.list (([(pre.foldl backStep ([], p)).2 / z + 1] ++ (pre.foldl backStep ([], p)).1).map D.int)))) "place" (.d (.int ((pre.foldl backStep ([], p)).2 % z)))) _
    rw [List.map_append]
    trivial
  · exact ex_ret (ex_return (ev_bcall G rfl (evs_cons (ev_name (by trivial)) evs_nil) (op_tuple_list (by unfold backL; rw [List.length_map, back_len, List.length_reverse, strides_length]; show 0 + _ ≤ _; omega))))
end
section
variable {c : Cx} {k : Nat} {S : Scope} {ρ ρ' ρ₁ ρ₂ ρ₃ σ : Vars} {γ γ' γ₁ γ₂ γ₃ : GS} {fn : Bool} {aM aT CT CH : Addr}
theorem op_not {b : Bool} : Op c k (op1 (unaryOp .Not)) [.bool b] (.d (.bool (!b))) := by
  intro A s X vs Q E rm ok base lv rs q
  obtain ⟨v, vs, rfl, r1, rs⟩ := rs.cons_inv
  obtain rfl := rs.nil_inv
  rw [rep_bool r1]
  show wpAny _ A (holding [.bool b] (do let b ← truthy (.bool b); pure (.bool (!b)))) Q E s
  exact wpAny_holding (wpAny_bind (wpAny_truthy_bool (wpAny_pure (q _ s (Grow.refl s) (.bool _)))))
noncomputable def isOne : Pt → Bool
  | .one _ => true
  | _ => false
theorem isi_pt' (p : Pt) : Op c k (callOp (.builtin "isinstance")) [p.d, .raw (.type "int")] (.d (.bool (isOne p))) := by
  cases p with
  | all => exact isi_none_int
  | one i => exact isi_int_int
  | row f s m => exact isi_tuple_int
noncomputable def isRow : Pt → Bool
  | .row _ _ _ => true
  | _ => false
theorem isi_pt_tuple (p : Pt) : Op c k (callOp (.builtin "isinstance")) [p.d, .raw (.type "tuple")] (.d (.bool (isRow p))) := by
  cases p with
  | all => exact isi_none_tuple
  | one i => exact isi_int_tuple
  | row f s m => exact isi_tuple_tuple
noncomputable def keptL (ps : List (Pt × List Int)) : List (List Int) := (ps.filter fun t => !isOne t.1).map fun t => t.2
theorem kept_ok {f : Addr} {ps : List (Pt × List Int)} (G : Gr c) (F : FnIs c (dR 45).name (dR 45) [] f) (hl : ps.length ≤ 1000) : FnOk c k f [.list (ps.map pairPD)] γ (.list ((keptL ps).map fun r => .list (r.map D.int))) γ := by
  refine fn_ok ["pairs"] F (ρ₀ := upd e0 "pairs" (.d (.list (ps.map pairPD)))) (o := .ret _ γ) ?_ (.inl rfl)
  have e : (keptL ps).map (fun r => D.list (r.map D.int)) = (ps.filter fun t => !isOne t.1).map fun t => D.list (t.2.map D.int) := by unfold keptL; rw [List.map_map]; rfl
  rw [e]
  refine ex_ret (ex_return (Ev.data (ev_lc (γ₂ := γ) (σ := e0) (evit_data (ev_name (by trivial)) (.list _)) (by trivial) (by rw [List.length_map]; have := List.length_filter_le (fun t => !isOne t.1) ps; omega)
    ⟨_, comp_filter pairPD (fun t => .list (t.2.map D.int)) (fun t => !isOne t.1) (fun t => upd (upd e0 "part" (.d t.1.d)) "indices" (.d (.list (t.2.map D.int)))) ps fun t ht => ⟨as_tuple (asl_cons as_name (asl_cons as_name asl_nil)), tst_not (tst_value (ev_isi G (by trivial) rfl (isi_pt' t.1) (G.bi _ (by decide)))), by trivial, fun _ => ev_sub_v (ev_name (by trivial)) (by trivial)⟩⟩ (by trivial))))
noncomputable abbrev Held := List (List Int × Bool)
noncomputable abbrev heldD (t : List Int × Bool) : D := .tuple [.list (t.1.map D.int), .bool t.2]
noncomputable def sel (l : List Int) (own : List Int) : List Int := own.map fun i => (l[(i - 1).toNat]?).getD 0
noncomputable def putL : Held → List (Pt × List Int) → Held
  | [], _ => []
  | (l, false) :: h, ps => (l, false) :: putL h ps
  | (l, true) :: h, p :: ps => (sel l p.2, !isOne p.1) :: putL h ps
  | (_, true) :: _, [] => []
noncomputable def heldKept (h : Held) : Nat := (h.filter fun t => t.2).length
theorem putL_append : ∀ (a : Held) (b : Held) (ps : List (Pt × List Int)), heldKept a ≤ ps.length → putL (a ++ b) ps = putL a (ps.take (heldKept a)) ++ putL b (ps.drop (heldKept a))
  | [], b, ps, _ => by simp [putL, heldKept]
  | (l, false) :: a, b, ps, h => by
    have e : heldKept ((l, false) :: a) = heldKept a := by simp [heldKept]
    rw [e] at h ⊢
    rw [List.cons_append, putL, putL_append a b ps h, putL, List.cons_append]
  | (l, true) :: a, b, [], h => by simp [heldKept] at h
  | (l, true) :: a, b, p :: ps, h => by
    have e : heldKept ((l, true) :: a) = heldKept a + 1 := by simp [heldKept]
    rw [e] at h ⊢
    rw [List.cons_append, putL, putL_append a b ps (by simpa using h), List.take_succ_cons, List.drop_succ_cons, putL, List.cons_append]
theorem putL_length : ∀ (h : Held) (ps : List (Pt × List Int)), heldKept h ≤ ps.length → (putL h ps).length = h.length
  | [], _, _ => rfl
  | (l, false) :: a, ps, h => by rw [putL, List.length_cons, List.length_cons, putL_length a ps (by simpa [heldKept] using h)]
  | (l, true) :: a, [], h => by simp [heldKept] at h
  | (l, true) :: a, p :: ps, h => by rw [putL, List.length_cons, List.length_cons, putL_length a ps (by simpa [heldKept] using h)]
theorem putL_drop_cons {a : Held} {ps : List (Pt × List Int)} {l : List Int} {post : Held} (h : heldKept (a ++ (l, true) :: post) ≤ ps.length) : ∃ p, ps[heldKept a]? = some p := by
  have : heldKept a < ps.length := by
    have e : heldKept (a ++ (l, true) :: post) = heldKept a + (heldKept post + 1) := by unfold heldKept; rw [List.filter_append, List.length_append]; simp
    omega
  exact ⟨_, List.getElem?_eq_getElem this⟩
theorem put_ok' {f : Addr} {h : Held} {ps : List (Pt × List Int)} (G : Gr c) (F : FnIs c (dR 47).name (dR 47) [] f) (hl : ps.length ≤ 1000) (hh : h.length ≤ 1000) (hk : heldKept h ≤ ps.length) (hi : ∀ t ∈ h, t.1.length ≤ 1000) (hp : ∀ p ∈ ps, p.2.length ≤ 1000)
    (hin : ∀ a l b, h = a ++ (l, true) :: b → ∀ p, ps[heldKept a]? = some p → ∀ i ∈ p.2, 1 ≤ i ∧ i ≤ l.length) : FnOk c k f [.list (h.map heldD), .list (ps.map pairPD)] γ (.list ((putL h ps).map heldD)) γ := by
  refine fn_ok ["held", "pairs"] F (ρ₀ := upd (upd e0 "pairs" (.d (.list (ps.map pairPD)))) "held" (.d (.list (h.map heldD)))) (o := .ret _ γ) ?_ (.inl rfl)
  refine ex_cons (ex_pair_g (ev_bcall G rfl (evs_cons (ev_name (by trivial)) evs_nil) (op_list_seq (.inl rfl) (by rw [List.length_map]; omega))) evg_nil) ?_
  let I : Held → Vars := fun pre => upd (upd e0 "left" (.own ((ps.drop (heldKept pre)).map pairPD))) "found" (.own ((putL pre (ps.take (heldKept pre))).map heldD))
  refine ex_cons (ex_for (o := .next (I h) γ) (evit_sub (σ := I []) (evit_data (ev_name (by trivial)) (.list _)) (by show SubV (upd (upd e0 "left" (.own (ps.map pairPD))) "found" (.own [])) _; trivial)) ?_) ?_
  · refine for_preL (γ := γ) I heldD (fun pre t => upd (upd (I pre) "indices" (.d (.list (t.1.map D.int)))) "is_kept" (.d (.bool t.2))) h fun pre t post e => ⟨as_tuple (asl_cons as_name (asl_cons as_name asl_nil)), ?_⟩
    have hkp : heldKept (pre ++ t :: post) ≤ ps.length := by rw [← e]; exact hk
    have hkp' : heldKept pre ≤ ps.length := by
      refine Nat.le_trans ?_ hkp
      unfold heldKept; rw [List.filter_append, List.length_append]; omega
    have hpl : (putL pre (ps.take (heldKept pre))).length ≤ 1000 := by
      rw [putL_length _ _ (by rw [List.length_take]; omega)]
      have := congrArg List.length e
      rw [List.length_append] at this
      omega
    obtain ⟨l, b⟩ := t
    cases b with
    | false =>
      refine exl_if_cont (tst_is (tst_not (tst_value (ev_name (by trivial)))) rfl) (exk_cons (ex_append (by trivial) (ev_tuple (evs_cons (ev_name (by trivial)) (evs_cons ev_bool evs_nil)) (Nat.le_of_ble_eq_true rfl)) (by trivial) (by rw [List.length_map]; omega)) (exk_continue ?_))
      have e1 : heldKept (pre ++ [(l, false)]) = heldKept pre := by unfold heldKept; rw [List.filter_append]; simp
      show SubV (upd (upd e0 "left" (.own ((ps.drop (heldKept (pre ++ [(l, false)]))).map pairPD))) "found" (.own ((putL (pre ++ [(l, false)]) (ps.take (heldKept (pre ++ [(l, false)])))).map heldD))) _
      rw [e1, putL_append pre _ _ (by rw [List.length_take]; omega), List.map_append, List.take_take, Nat.min_self]
      simp only [putL, List.map_cons, List.map_nil]
      trivial
    | true =>
      obtain ⟨p, hpp⟩ := putL_drop_cons hkp
      have hd : ps.drop (heldKept pre) = p :: ps.drop (heldKept pre + 1) := by
        have hlt : heldKept pre < ps.length := by
          rcases Nat.lt_or_ge (heldKept pre) ps.length with q | q
          · exact q
          · rw [List.getElem?_eq_none q] at hpp; cases hpp
        rw [List.drop_eq_getElem_cons hlt]
        rw [List.getElem?_eq_getElem hlt] at hpp
        cases hpp; rfl
      have hpin := List.mem_of_getElem? hpp
      have hidx := hin pre l post e p hpp
      refine exl_cons (ex_if_f (tst_is (tst_not (tst_value (ev_name (by trivial)))) rfl) ex_nil) ?_
      have hltp : heldKept pre < ps.length := by
        rcases Nat.lt_or_ge (heldKept pre) ps.length with q | q
        · exact q
        · rw [List.getElem?_eq_none q] at hpp; cases hpp
      have eL : I pre "left" = some (.own (pairPD p :: (ps.drop (heldKept pre + 1)).map pairPD)) := by
        show some (V.own ((ps.drop (heldKept pre)).map pairPD)) = _
        rw [hd]; rfl
      have hlp : ((ps.drop (heldKept pre + 1)).map pairPD).length ≤ 1000 := by rw [List.length_map, List.length_drop]; omega
      refine exl_cons (ex_assign (ev_pop (upd_other (by decide) (upd_other (by decide) eL)) (by rw [List.length_cons]; omega)) (as_tuple (asl_cons as_name (asl_cons as_name asl_nil)))) ?_
      refine exl_cons (ex_append (by trivial) (ev_tuple (evs_cons (Ev.data (ev_lc (γ₂ := γ) (out := (sel l p.2).map D.int) (σ := upd e0 "indices" (.d (.list (l.map D.int)))) (evit_data (ev_name (by trivial)) (.list _)) (by trivial) (by unfold sel; rw [List.length_map, List.length_map]; have := hp p hpin; omega) ?_ (by trivial))) (evs_cons (ev_unop (ev_isi G (by trivial) rfl (isi_pt' p.1) (G.bi _ (by decide))) op_not) evs_nil)) (Nat.le_of_ble_eq_true rfl)) (by trivial) (by rw [List.length_map]; omega)) (exl_end ?_)
      · unfold sel
        rw [List.map_map]
        refine ⟨_, comp_map D.int (fun i => .int ((l[(i - 1).toNat]?).getD 0)) (fun i => upd (upd e0 "indices" (.d (.list (l.map D.int)))) "index" (.d (.int i))) p.2 fun i hi' => ⟨as_name, ev_sub_v (ev_sub (ev_name (by trivial)) (ev_binop (ev_name (by trivial)) ev_int op_sub) (op_item_list (by have := (hidx i hi').1; omega) ?_ (fun _ _ => rfl) ?_)) (by trivial)⟩⟩
        · obtain ⟨i1, i2⟩ := hidx i hi'
          have hlt : (i - 1).toNat < l.length := by omega
          rw [List.getElem?_map, List.getElem?_eq_getElem hlt]; rfl
        · have := hi (l, true) (by rw [e]; simp); rw [List.length_map]; show l.length ≤ _; have : l.length ≤ 1000 := this; omega
      · have e1 : heldKept (pre ++ [(l, true)]) = heldKept pre + 1 := by unfold heldKept; rw [List.filter_append, List.length_append]; simp
        have e2 : (ps.take (heldKept pre + 1)).drop (heldKept pre) = [p] := by
          rw [List.drop_take, hd, Nat.add_sub_cancel_left]; rfl
        show SubV (upd (upd e0 "left" (.own ((ps.drop (heldKept (pre ++ [(l, true)]))).map pairPD))) "found" (.own ((putL (pre ++ [(l, true)]) (ps.take (heldKept (pre ++ [(l, true)])))).map heldD))) _
        rw [e1, putL_append pre _ _ (by rw [List.length_take]; omega), List.map_append, List.take_take, e2, Nat.min_eq_left (Nat.le_succ _)]
        simp only [putL, List.map_cons, List.map_nil]
        trivial
  · refine ex_freeze (x := "found") (by trivial) ?_
    have e : putL h (ps.take (heldKept h)) = putL h ps := by
      have := putL_append h [] ps hk
      rw [List.append_nil] at this
      rw [this]; simp [putL]
    rw [← e]
    exact ex_ret (ex_return (ev_name (by trivial)))
end
open Builtin Builtin.ObjectAttr
structure ExcCls (K : Frag) (C : Addr) (bm : List Value) : Prop where
  obj : ∃ nm q N bs sn sub ab col dd k0 k1 k2 k3 k5, K.lookup C = some (excClassObj nm q C N bs bm true sn sub ab col dd k0 k1 k2 k3 k5 "Exception.__new__")
  hasE : bm.contains (.type "Exception") = true
  hasB : bm.contains (.type "BaseException") = true
  hasO : bm.contains (.type "object") = true
  noA : bm.contains (.type "AttributeError") = false
  noN : bm.contains (.type "NameError") = false
  passes : ∀ self, refuseLoop self "__setattr__" bm = pure ()
  sa : findIn K (.ref C) "__setattr__" = some (some (.builtin "object.__setattr__"))
  ga : findIn K (.ref C) "__getattribute__" = some (some (.builtin "BaseException.__getattribute__"))
  gt : findIn K (.ref C) "__getattr__" = some none
  tk : ∀ n ∈ (["message", "spot", "value"] : List Str), takerIn K C n = some none
  fd : ∀ n ∈ (["message", "spot", "value"] : List Str), findIn K (.ref C) n = some none
theorem ExcCls.cd {K : Frag} {C : Addr} {bm : List Value} (x : ExcCls K C bm) : ∃ cd : ClassData, clsIn K C = some cd ∧ cd.mro = .ref C :: bm ∧ cd.hasDict = true := by
  obtain ⟨nm, q, N, bs, sn, sub, ab, col, dd, k0, k1, k2, k3, k5, h⟩ := x.obj
  refine ⟨_, by unfold clsIn; rw [h], rfl, rfl⟩
structure ExAt (hb h : Heap) (e C : Addr) (od : Option Addr) (mA : Str → Option Value) : Prop where
  keep : ∀ b o, hb.get? b = some o → h.get? b = some o
  new : hb.get? e = none
  obj : ∃ t, h.get? e = some { cls := .ref C, dict := od, data := .fields #[.ref t, .none, .none, .none, .bool false, .none] }
  names : match od with | none => ∀ n, mA n = none | some dx => dx ≠ e ∧ hb.get? dx = none ∧ h.Ns1 dx mA
theorem ExAt.grow {hb h h' : Heap} {e C : Addr} {od : Option Addr} {mA : Str → Option Value} (x : ExAt hb h e C od mA) (k : ∀ b o, h.get? b = some o → h'.get? b = some o) : ExAt hb h' e C od mA := by
  obtain ⟨x1, x2, ⟨t, x3⟩, x4⟩ := x
  refine ⟨fun b o q => k b o (x1 b o q), x2, ⟨t, k _ _ x3⟩, ?_⟩
  cases od with
  | none => exact x4
  | some dx => exact ⟨x4.1, x4.2.1, x4.2.2.keeps k⟩
theorem ExAt.inst {hb h : Heap} {e C : Addr} {od : Option Addr} {mA : Str → Option Value} (x : ExAt hb h e C od mA) : ∃ ox od', W.InstAt h e ox C od' := by
  obtain ⟨x1, x2, ⟨t, x3⟩, x4⟩ := x
  cases od with
  | none => exact ⟨_, none, x3, rfl, rfl, trivial⟩
  | some dx =>
    obtain ⟨o, ho⟩ := ns_live x4.2.2.ns
    exact ⟨_, some o, x3, rfl, rfl, ho⟩
section
variable {prog : Program} {w : World} {A : Around} {E : Value → Shared → Prop} {K : Frag} {C : Addr} {bm : List Value} {hb : Heap} {e : Addr} {od : Option Addr} {mA : Str → Option Value} {name : Str} {v : Value}
theorem exc_set_open {s : Shared} {Q : Unit → Shared → Prop} (X : K.In s.heap) (x : ExcCls K C bm) (ht : takerIn K C name = some none) (I : ExAt hb s.heap e C od mA)
    (h : ∀ A' b, wpAny (model prog w) A' (storeInOwnDict (.ref e) (.ref C) (.str name s.toks) name v b) (fun fin s' => fin = .done (.ret .none) ∧ Q () s') (fun _ _ => False) { s with toks := s.toks + 1 }) :
    wpAny (model prog w) A (setAttr (.ref e) name v) Q E s := by
  obtain ⟨ox, od', I1⟩ := I.inst
  obtain ⟨cd, hc, hm, hd⟩ := x.cd
  refine set_plain X I1 x.sa ?_
  have SF := PySem.F.store_object
  have sub : Looks (model prog w) s.heap (isInstance (.ref e) (.type "object")) true := I1.type.andThen (looks_mroIn X (by unfold mroIn; rw [hc, Option.bind_some, if_neg (by rw [hm]; exact Bool.false_ne_true), hm, List.contains_cons, x.hasO, Bool.or_true]))
  refine codeAny_call_builtin SF.slot.plain SF.entry (@check_slot (model prog w) _ _ { s with toks := s.toks + 1 } "object.__setattr__" "object" "__setattr__" (.ref e) [.str name s.toks, v] [] _ SF.kind SF.split sub (SF.args (.ref e) (.str name s.toks) v) ?_)
  obtain ⟨attr, ha, hr⟩ := Option.bind_eq_some_iff.mp ht
  have hmro : Looks (model prog w) s.heap (mroOf (.ref C)) (.ref C :: bm) := hm ▸ (looks_clsIn X hc).andThen .now
  have L3 : Looks (model prog w) s.heap (storeTaker? attr) none := by
    cases attr with
    | none => exact .now
    | some a =>
      obtain ⟨b, hb, hbr⟩ := Option.map_eq_some_iff.mp hr
      refine (looks_takesIn X hb).andThen ?_
      cases b with
      | true => cases hbr
      | false => exact .now
  have type' := I1.type (M := model prog w)
  have L2 := looks_findIn (M := model prog w) X ha
  obtain ⟨hh, g, dr, t, os⟩ := s
  dsimp only at *
  rw [osa_eq, refuse_eq]
  refine wpAny_bind (wpAny_bind (type'.at (wpAny_bind (hmro.at ?_))))
  rw [refuseLoop_ref, x.passes]
  refine wpAny_pure (wpAny_bind (type'.at (wpAny_bind (L2.at (wpAny_bind (L3.at ?_))))))
  refine wpAny_mono (h _ _) (fun fin s' z => ?_) fun _ _ z => z.elim
  obtain ⟨rfl, z⟩ := z
  exact z
theorem exc_set0 {s : Shared} {Q : Unit → Shared → Prop} (X : K.In s.heap) (x : ExcCls K C bm) (ht : takerIn K C name = some none) (I : ExAt hb s.heap e C none mA)
    (q : ∀ h' tk dx, s.heap.get? dx = none → ExAt hb h' e C (some dx) (fun y => if y = name then some v else none) → (∀ b o, b ≠ e → s.heap.get? b = some o → h'.get? b = some o) → Q () { s with heap := h', toks := tk }) :
    wpAny (model prog w) A (setAttr (.ref e) name v) Q E s := by
  obtain ⟨cd, hc, hm, hd⟩ := x.cd
  refine exc_set_open X x ht I fun A' b => ?_
  obtain ⟨hh, g, dr, t, os⟩ := s
  dsimp only at *
  obtain ⟨k1, k2, ⟨tt, k3⟩, hmA⟩ := I
  refine wpAny_bind (wpAny_pure (wpAny_bind (wpAny_bind (wpAny_loadPart_at k3 (wpAny_bind ((looks_clsIn X hc).at ?_))))))
  rw [hd]
  have hx₁ : (hh.push emptyDict).get? e = some { cls := .ref C, dict := none, data := .fields #[.ref tt, .none, .none, .none, .bool false, .none] } := Heap.get?_push_of_some _ k3
  have hxs : e ≠ hh.objs.size := Nat.ne_of_lt (Heap.lt_size k3)
  refine wpAny_bind (wpAny_alloc' ?_)
  refine wpAny_bind (wpAny_update' hx₁ ?_)
  refine wpAny_pure (wpAny_bind ?_)
  refine wpAny_pure ?_
  have hgd : ((hh.push emptyDict).update e fun o => { cls := o.cls, dict := some hh.objs.size, data := o.data, slots := o.slots }).get? hh.objs.size = some emptyDict :=
    (Heap.get?_update_ne _ _ _ _ hxs.symm).trans (Heap.get?_push_at rfl rfl)
  have hnd : ((hh.push emptyDict).update e fun o => { cls := o.cls, dict := some hh.objs.size, data := o.data, slots := o.slots }).Ns hh.objs.size (fun _ => none) :=
    ⟨_, #[], _, hgd, rfl, fun e he => absurd he (by simp), fun _ => rfl⟩
  show wpAny _ _ (storeInDict hh.objs.size (.str name t) name v) _ _ _
  unfold storeInDict newKeyGuard
  refine wpAny_bind (wpAny_pure (wpAny_bind (wpAny_nsSet1 (Heap.Ns1.of_empty hnd) fun h' hn' hs => ?_)))
  obtain ⟨oD, esD, epD, hoD, hdD, hcD⟩ := hn'.count (PySem.Within.cons name v PySem.Within.nil)
  refine wpAny_bind (wpAny_lookBehind hoD (by rw [hdD]; exact pastItsLine_dict (Nat.le_trans hcD (by rw [List.length_cons, List.length_nil, sizeLine_eq]; omega))) ?_)
  refine wpAny_pure ⟨rfl, ?_⟩
  have hx' : h'.get? e = some { cls := .ref C, dict := some hh.objs.size, data := .fields #[.ref tt, .none, .none, .none, .bool false, .none] } := (hs.2 e hxs).trans (Heap.get?_update_self _ hx₁ rfl)
  have kk : ∀ b o, b ≠ e → hh.get? b = some o → h'.get? b = some o := fun b o n q => (hs.2 b (Nat.ne_of_lt (Heap.lt_size q))).trans ((Heap.get?_update_ne _ _ _ _ n).trans (Heap.get?_push_of_some _ q))
  refine q h' _ hh.objs.size (fresh_size hh) ⟨fun b o e' => kk b o (fun z => by rw [z, k2] at e'; cases e') (k1 b o e'), k2, ⟨tt, hx'⟩, hxs.symm, ?_, hn'⟩ kk
  cases z : hb.get? hh.objs.size with
  | none => rfl
  | some o => exact absurd (Heap.lt_size (k1 _ _ z)) (Nat.lt_irrefl _)
theorem exc_set1 {s : Shared} {Q : Unit → Shared → Prop} {ns : List Str} {dx : Addr} (X : K.In s.heap) (x : ExcCls K C bm) (ht : takerIn K C name = some none) (I : ExAt hb s.heap e C (some dx) mA) (hw : PySem.Within mA ns) (hsz : ns.length ≤ 100)
    (q : ∀ h' tk, ExAt hb h' e C (some dx) (fun y => if y = name then some v else mA y) → (∀ b o, b ≠ dx → s.heap.get? b = some o → h'.get? b = some o) → Q () { s with heap := h', toks := tk }) :
    wpAny (model prog w) A (setAttr (.ref e) name v) Q E s := by
  obtain ⟨cd, hc, hm, hd⟩ := x.cd
  refine exc_set_open X x ht I fun A' b => ?_
  obtain ⟨hh, g, dr, t, os⟩ := s
  dsimp only at *
  obtain ⟨k1, k2, ⟨tt, k3⟩, hne, hnb, hns⟩ := I
  refine wpAny_bind (wpAny_pure (wpAny_bind (wpAny_bind (wpAny_loadPart_at k3 (wpAny_bind ((looks_clsIn X hc).at ?_))))))
  rw [hd]
  refine wpAny_pure (wpAny_bind ?_)
  refine wpAny_pure ?_
  show wpAny _ _ (storeInDict dx (.str name t) name v) _ _ _
  unfold storeInDict newKeyGuard
  refine wpAny_bind (wpAny_pure (wpAny_bind (wpAny_nsSet1 hns fun h' hn' hs => ?_)))
  obtain ⟨oD, esD, epD, hoD, hdD, hcD⟩ := hn'.count (PySem.Within.cons name v hw)
  refine wpAny_bind (wpAny_lookBehind hoD (by rw [hdD]; exact pastItsLine_dict (Nat.le_trans hcD (by rw [List.length_cons, sizeLine_eq]; omega))) ?_)
  refine wpAny_pure ⟨rfl, ?_⟩
  exact q h' _ ⟨fun b o e' => (hs.2 b fun z => by rw [z, hnb] at e'; cases e').trans (k1 b o e'), k2, ⟨tt, (hs.2 e hne.symm).trans k3⟩, hne, hnb, hn'⟩ fun b o n z => (hs.2 b n).trans z
end
open Builtin Builtin.ObjectAttr
noncomputable abbrev excFresh (C t : Addr) : Obj := { cls := .ref C, data := .fields #[.ref t, .none, .none, .none, .bool false, .none] }
section
variable {prog : Program} {w : World} {M : Model} {A : Around} {E : Value → Shared → Prop} {R : Result → Shared → Prop} {h : Heap} {g : Array GenState} {d : Drawn} {t : Nat} {os : OsState}
variable {nm q : Str} {C N : Addr} {bs bm : List Value} {sn : List Str} {sub : List Value} {ab : Bool} {col : Option Bool} {dd : Option Addr} {k0 k1 k2 k3 k5 : Option Value}
theorem xc_check_new (hE : bm.contains (.type "Exception") = true) {rest : List Value} {Q : Unit → Shared → Prop} (hC : h.get? C = some (excClassObj nm q C N bs bm true sn sub ab col dd k0 k1 k2 k3 k5 "Exception.__new__"))
    (hq : Q () ⟨h, g, d, t, os⟩) : wpAny M A (checkBuiltinCall "Exception.__new__" ⟨.ref C :: rest, []⟩) Q E ⟨h, g, d, t, os⟩ := by
  have F := PySem.F.excBase_Exception
  have hcont : (Value.ref C :: bm).contains (.type "Exception") = true := by rw [List.contains_cons, hE, Bool.or_true]
  have hstar := F.noStar
  simp only [checkBuiltinCall, F.newKind, F.newSplit, F.newRow]
  repeat (first | refine wpAny_loadPart_at hC ?_ | (refine wpAny_isSubtype_exc hC ?_; rw [hcont]) | refine wpAny_staticBase_exc hC ?_ | refine wpAny_madeBy_exc hC ?_ | simp only [bne_self_eq_false, Bool.false_eq_true, if_false] | wp_step)
  exact hq
theorem xc_check_init (hE : bm.contains (.type "Exception") = true) {e : Addr} {oe : Obj} {rest : List Value} {Q : Unit → Shared → Prop} (hC : h.get? C = some (excClassObj nm q C N bs bm true sn sub ab col dd k0 k1 k2 k3 k5 "Exception.__new__"))
    (he : h.get? e = some oe) (hcls : oe.cls = .ref C) (hq : Q () ⟨h, g, d, t, os⟩) : wpAny M A (checkBuiltinCall "Exception.__init__" ⟨.ref e :: rest, []⟩) Q E ⟨h, g, d, t, os⟩ := by
  have F := PySem.F.excBase_Exception
  have hcB : (Value.ref C :: bm).contains (.type "Exception") = true := by rw [List.contains_cons, hE, Bool.or_true]
  have hshort := F.noStar
  simp only [checkBuiltinCall, F.initKind, F.initSplit, F.initRow]
  repeat (first | (with_reducible refine wpAny_loadPart_at he ?_; rw [hcls]) | with_reducible refine wpAny_loadPart_at hC ?_ | (with_reducible refine wpAny_isSubtype_exc hC ?_; rw [hcB]) | wp_step)
  refine wpAny_onRaise ?_
  rw [show ∀ (a b : String) (n : Nat), Bind.check ⟨.positional, "*", "Exception", .self, [⟨"args", .varPos, false⟩]⟩ a b n (List.map (fun x => x.fst) ({ pos := Value.ref e :: rest } : Args).kw) = pure () from
    fun a b n => check_star_args _ _ _ _ _ _]
  exact wpAny_pure hq
theorem xc_new (hE : bm.contains (.type "Exception") = true) (nA : bm.contains (.type "AttributeError") = false) (nN : bm.contains (.type "NameError") = false) {rest : List Value}
    (hC : h.get? C = some (excClassObj nm q C N bs bm true sn sub ab col dd k0 k1 k2 k3 k5 "Exception.__new__"))
    (hq : R (.ok (.ret (.ref (h.objs.size + 1)))) ⟨(h.push (tupObj rest)).push (excFresh C h.objs.size), g, d, t, os⟩) (hrest : rest.length ≤ sizeLine) :
    codeAny (model prog w) A (.builtin "Exception.__new__" ⟨.ref C :: rest, []⟩) R ⟨h, g, d, t, os⟩ := by
  have F := PySem.F.excBase_Exception
  have hends := F.ends
  have hcB : (Value.ref C :: bm).contains (.type "Exception") = true := by rw [List.contains_cons, hE, Bool.or_true]
  have hcA : (Value.ref C :: bm).contains (.type "AttributeError") = false := by rw [List.contains_cons, nA]; rfl
  have hcN : (Value.ref C :: bm).contains (.type "NameError") = false := by rw [List.contains_cons, nN]; rfl
  refine codeAny_builtinAt F.entry ?_
  unfold Builtin.«BaseException.__new__»
  refine PySem.wpAt_bind ?_
  show PySem.wpAt _ _ _ (stack >>= _) _ _ _
  refine PySem.wpAt_bind (PySem.wpAt_stack fun p below => PySem.wpAt_of_wpAny ?_)
  wp_walk
  refine PySem.wpAt_of_wpAny ?_
  rw [F.owner]
  repeat (first | with_reducible refine wpAny_madeHere_exc F.canon hC ?_ | with_reducible refine wpAny_loadPart_at hC ?_ | (with_reducible refine wpAny_isSubtype_exc hC ?_; first | rw [hcB] | rw [hcA] | rw [hcN]) | wp_step)
  show R _ _
  rw [Heap.size_push]
  exact hq
theorem xc_make {K : Frag} {rest : List Value} {fI : Addr} (X : K.In h) (x : ExcCls K C bm) (hi : findIn K (.ref C) "__init__" = some (some (.ref fI))) (hf : typeIn K (.ref fI) = some (.type "function")) (hrest : rest.length ≤ sizeLine)
    (hq : codeAny (model prog w) (A.under (.builtin "type.__call__" ⟨.ref C :: rest, []⟩)) (.call (.ref fI) ⟨.ref (h.objs.size + 1) :: rest, []⟩) (InitBack (h.objs.size + 1) R) ⟨(h.push (tupObj rest)).push (excFresh C h.objs.size), g, d, t, os⟩) :
    codeAny (model prog w) A (.call (.ref C) ⟨rest, []⟩) R ⟨h, g, d, t, os⟩ := by
  obtain ⟨nm, q, N, bs, sn, sub, ab, col, dd, k0, k1, k2, k3, k5, hC⟩ := x.obj
  replace hC := X _ _ hC
  have F := PySem.F.excBase_Exception
  have f1 := tc_lookup
  have f2 := tc_bind (.ref C)
  have hT : (⟨h, g, d, t, os⟩ : Shared).TypeIs (.ref C) "type" := ⟨_, hC, rfl⟩
  have hrr : wpAny (model prog w) (A.under (.builtin "type.__call__" ⟨.ref C :: rest, []⟩)) (Builtin.«type.__call__» ⟨.ref C :: rest, []⟩) (fun fin s' => match fin with | .done f => R (.ok f) s' | .again c' => c'.quiet = true ∧ codeAny (model prog w) A c' R s') (fun e s' => R (.error e) s') ⟨h, g, d, t, os⟩ := by
    repeat (first | with_reducible refine wpAny_loadPart_at hC ?_ | with_reducible refine wpAny_madeBy_exc hC ?_ | wp_step)
    refine codeAny_call_builtin_code (Code.quiet_builtin _ F.quiet) (xc_check_new x.hasE hC ?_)
    refine xc_new x.hasE x.noA x.noN hC ?_ hrest
    show wpAny _ _ _ _ _ _
    have k : ∀ b o, h.get? b = some o → ((h.push (tupObj rest)).push (excFresh C h.objs.size)).get? b = some o := fun b o e => Heap.get?_push_of_some _ (Heap.get?_push_of_some _ e)
    have hC₁ := k _ _ hC
    have hget : ((h.push (tupObj rest)).push (excFresh C h.objs.size)).get? (h.objs.size + 1) = some (excFresh C h.objs.size) := by heap_get
    have hcC : (Value.ref C :: bm).contains (.ref C) = true := by simp
    have i1 := (looks_findIn (M := model prog w) X hi).keeps k
    have b1 := (bind_fn (M := model prog w) X (.ref (h.objs.size + 1)) hf).keeps k
    unfold isInstance
    repeat (first | with_reducible refine wpAny_loadPart_at hget ?_ | (with_reducible refine wpAny_isSubtype_exc hC₁ ?_; rw [hcC]) | wp_step)
    show wpAny _ _ (typeLookup (.ref C) _) _ _ _
    refine i1.at ?_
    refine wpAny_holding (wpAny_bind (b1.at ?_))
    refine wpAny_bind (wpAny_call ?_)
    refine codeAny_mono hq fun r s' z => ?_
    rcases r with e | (v | _ | _ | _) <;> first | exact z | exact z.elim | skip
    obtain ⟨rfl, z⟩ := z
    exact wpAny_pure (wpAny_pure z)
  refine codeAny_of_tree ?_
  show wpAny _ _ (callAny (.ref C) _) _ _ _
  repeat (any_goals (first | assumption | with_reducible refine wpAny_loadPart_at hC ?_ | wp_step))
  refine ⟨rfl, ?_⟩
  exact codeAny_call_builtin_at (Code.quiet_builtin _ (by decide +kernel)) entry_typeCall (wpAny_check_type_call_sub hC hrr)
end
open Builtin Builtin.ObjectAttr
section
variable {c : Cx} {A : Around} {E : Value → Shared → Prop} {K : Frag} {C : Addr} {bm : List Value} {hb : Heap} {e : Addr} {od : Option Addr} {mA : Str → Option Value} {v : Value}
theorem find_exc_init : findCls [] (.type "Exception") (.type "type") "__init__" = some (.val (.builtin "Exception.__init__")) := by kernel_rfl
theorem look_type_exc {M : Model} {h : Heap} : Looks M h (typeOf (.type "Exception")) (.type "type") := Looks.of_pure (by kernel_rfl)
theorem look_opaque_exc {M : Model} {h : Heap} : Looks M h (opaqueClassAbove (.type "Exception")) none := Looks.of_pure (by kernel_rfl)
theorem ga_type : findIn [] (.type "type") "__getattribute__" = some (some (.builtin "type.__getattribute__")) := by decide +kernel
theorem hook_none : (if onTheHeap (Value.type "type") = true then findIn [] (.type "type") "__getattr__" else some none) = some none := by decide +kernel
theorem sub_type : subIn [] (.type "type") (.type "type") = some true := by decide +kernel
theorem in_nil (h : Heap) : Frag.In [] h := fun a o e => by cases e
theorem method_exc_init {s : Shared} {pl : Sem Bool} {Q : Value × List Value → Shared → Prop} (q : ∀ tk, Q (.builtin "Exception.__init__", []) { s with toks := tk }) : wpAny (model c.prog c.w) A (getMethod (.type "Exception") "__init__" pl) Q E s := by
  have X := in_nil s.heap
  unfold getMethod specialOf
  refine wpAny_bind (wpAny_bind (look_type_exc.here ((looks_findIn X ga_type).here ?_)))
  dsimp only
  rw [if_pos canon_tga]
  refine wpAny_bind (cls_open X look_opaque_exc look_type_exc ga_type (looks_hook X hook_none) sub_type find_exc_init ?_)
  refine wpAny_pure ?_
  show wpAny _ _ (handedOut (.builtin "Exception.__init__")) _ _ _
  rw [handedOut_of (by decide +kernel)]
  exact wpAny_pure (wpAny_pure (q _))
theorem call_exc_init {s : Shared} {Q : Value → Shared → Prop} (X : K.In s.heap) (x : ExcCls K C bm) (I : ExAt hb s.heap e C od mA)
    (q : ∀ h', ExAt hb h' e C od mA → (∀ b o, b ≠ e → s.heap.get? b = some o → h'.get? b = some o) → Q .none { s with heap := h' }) : wpAny (model c.prog c.w) A (call (.builtin "Exception.__init__") [.ref e, v]) Q E s := by
  have F := PySem.F.excBase_Exception
  obtain ⟨nm, qq, N, bs, sn, sub, ab, col, dd, k0, k1, k2, k3, k5, hC⟩ := x.obj
  replace hC := X _ _ hC
  obtain ⟨x1, x2, ⟨t, x3⟩, x4⟩ := I
  obtain ⟨hh, g, dr, tk, os⟩ := s
  dsimp only at *
  refine wpAny_call (codeAny_call_builtin F.init.plain F.initEntry (xc_check_init x.hasE hC x3 rfl ?_))
  wp_walk
  have ne : e ≠ hh.objs.size := Nat.ne_of_lt (Heap.lt_size x3)
  have up : (hh.push (tupObj [v])).get? e = some _ := Heap.get?_push_of_some _ x3
  have kk : ∀ b o, b ≠ e → hh.get? b = some o → ((hh.push (tupObj [v])).update e (Obj.mapFields fun y => y.setIfInBounds 0 (.ref hh.objs.size))).get? b = some o := fun b o n z => by
    rw [Heap.get?_update_other _ _ (Ne.symm n)]; exact Heap.get?_push_of_some _ z
  refine q _ ⟨fun b o z => kk b o (fun y => by rw [y, x2] at z; cases z) (x1 b o z), x2, ⟨hh.objs.size, ?_⟩, ?_⟩ kk
  · rw [Heap.get?_update_self _ up rfl]; rfl
  · cases od with
    | none => exact x4
    | some dx => exact ⟨x4.1, x4.2.1, x4.2.2.at fun o z => kk dx o x4.1 z⟩
end
open Builtin Builtin.ObjectAttr
structure ThrK (c : Cx) (K : Frag) (CT CR fT fR : Addr) (bm : List Value) : Prop where
  inn : K.In c.h0
  cls : ExcCls K CT bm
  keep : keepIn K (.ref CT) = true
  initT : findIn K (.ref CT) "__init__" = some (some (.ref fT))
  initTf : typeIn K (.ref fT) = some (.type "function")
  fnT : FnIs c "Thrown.__init__" (mR 4 0) [] fT
  fnR : FnIs c "RowsError.__init__" (mR 2 0) [.none] fR
  gaR : specialIn K (.ref CR) "__getattribute__" = some (some (.builtin "type.__getattribute__"))
  tyR : typeIn K (.ref CR) = some (.type "type")
  opR : ∀ (M : Model), Looks M c.h0 (opaqueClassAbove (.ref CR)) none
  fiR : findCls K (.ref CR) (.type "type") "__init__" = some (.val (.ref fR))
structure ThrownOk (c : Cx) (CT CR : Addr) : Prop where
  globT : c.mg "Thrown" = some (.ref CT)
  globR : c.mg "RowsError" = some (.ref CR)
  exc : c.mg "Exception" = none
  k : ∃ K fT fR bm, ThrK c K CT CR fT fR bm
section
variable {c : Cx} {A : Around} {E : Value → Shared → Prop} {K : Frag} {C : Addr} {bm : List Value} {hb : Heap} {e : Addr} {od : Option Addr} {mA : Str → Option Value} {v : Value}
theorem ExAt.base {h : Heap} (hb0 : ∀ b o, c.h0.get? b = some o → hb.get? b = some o) (I : ExAt hb h e C od mA) : ∀ b o, c.h0.get? b = some o → h.get? b = some o := fun b o z => I.keep b o (hb0 b o z)
theorem ns_keep {h h' : Heap} {L : Addr} {m : Str → Option Value} (n : h.Ns L m) (k : ∀ o, h.get? L = some o → h'.get? L = some o) : h'.Ns L m := n.at' k
theorem ns_ne_exc {h : Heap} {L : Addr} {m : Str → Option Value} (n : h.Ns L m) (I : ExAt hb h e C od mA) : L ≠ e := by
  rintro rfl
  obtain ⟨o, es, ep, h1, h2, _⟩ := n
  obtain ⟨t, h3⟩ := I.obj
  rw [h1] at h3; cases h3; cases h2
structure InitFr (c : Cx) (env : Env) (h : Heap) (m : Str → Option Value) : Prop where
  ki : env.scope.kind = .function
  gl : env.globals = mainGlobals
  bl : env.builtins = builtinsNs
  ns : h.Ns env.locals m
theorem xs_base {env : Env} {s : Shared} {Q : Flow → Shared → Prop} {p p1 p2 apos pos spos : Pos} {y : Str} {m : Str → Option Value} (ok : CxOk c) (hEx : c.mg "Exception" = none) (hb0 : ∀ b o, c.h0.get? b = some o → hb.get? b = some o)
    (I0 : InitFr c env s.heap m) (kE : env.scope.names.lookup ("Exception" : Str) = some .globalImplicit) (h1 : env.scope.names.lookup ("self" : Str) = some .local) (h2 : env.scope.names.lookup y = some .local) (hself : m ("self" : Str) = some (.ref e)) (hy : m y = some v)
    (X : K.In c.h0) (x : ExcCls K C bm) (I : ExAt hb s.heap e C od mA) (q : ∀ h' tk, ExAt hb h' e C od mA → (∀ b o, b ≠ e → s.heap.get? b = some o → h'.get? b = some o) → Q .next { s with heap := h', toks := tk })
    (hd : (y == ("__debug__" : Str)) = false := by decide)
    (hp : ∀ env, (backTo pos (starEach [.Name "self" p1, .Name y p2] env)).any (·.1) = false := by intro _; rfl)
    (he : ∀ env, ∃ pl : Value → Sem Bool, eval (.Call (.Attribute (.Name "Exception" p) "__init__" apos) [.Name "self" p1, .Name y p2] [] pos) env = (do
      let ov ← eval (.Name "Exception" p) env
      standAt apos.atName
      let (f, first) ← holding [ov] (getMethod ov "__init__" (pl ov))
      callWith pos f first (backTo pos (starEach [.Name "self" p1, .Name y p2] env)) []) := by intro _; exact ⟨_, rfl⟩) :
    wpAny (model c.prog c.w) A (exec (.Expr (.Call (.Attribute (.Name "Exception" p) "__init__" apos) [.Name "self" p1, .Name y p2] [] pos) spos) env) Q E s := by
  have base := I.base hb0
  refine wpAny_Expr ?_ (interactive_fn I0.ki) rfl
  obtain ⟨pl, he⟩ := he env
  rw [he]
  have Ng : s.heap.Ns env.globals c.mg := I0.gl ▸ ok.g.keeps base
  have Nb : s.heap.Ns env.builtins c.mb := I0.bl ▸ ok.b.keeps base
  refine wpAny_bind (Name_function_global I0.ki kE (loadGlobal_builtin Ng hEx Nb ((ok.bi _ (by decide)).trans rfl) ?_) (by decide))
  refine wpAny_bind (wpAny_standAt (wpAny_bind (wpAny_holding (method_exc_init fun tk => ?_))))
  refine callWith_builtin (hp env) (evalArgs_of (hp env) (wpAny_items_cons (looks_name I0.ki h1 I0.ns hself (wpAny_items_cons (looks_name I0.ki h2 I0.ns hy (wpAny_items_nil ?_) hd) rfl)) rfl))
  show wpAny _ _ (call (.builtin "Exception.__init__") [.ref e, v]) _ _ _
  refine call_exc_init (K := K) (X.keeps base) x I fun h' I' k => ?_
  exact q h' tk I' k
theorem InitFr.grow {env : Env} {h h' : Heap} {m : Str → Option Value} (I : InitFr c env h m) (k : ∀ o, h.get? env.locals = some o → h'.get? env.locals = some o) : InitFr c env h' m := ⟨I.ki, I.gl, I.bl, ns_keep I.ns k⟩
theorem xs_set0 {env : Env} {s : Shared} {Q : Flow → Shared → Prop} {p1 p2 p3 p4 : Pos} {n y : Str} {m : Str → Option Value} (hb0 : ∀ b o, c.h0.get? b = some o → hb.get? b = some o)
    (I0 : InitFr c env s.heap m) (h1 : env.scope.names.lookup ("self" : Str) = some .local) (h2 : env.scope.names.lookup y = some .local) (hself : m ("self" : Str) = some (.ref e)) (hy : m y = some v)
    (X : K.In c.h0) (x : ExcCls K C bm) (ht : takerIn K C n = some none) (I : ExAt hb s.heap e C none mA)
    (q : ∀ h' tk dx, s.heap.get? dx = none → ExAt hb h' e C (some dx) (fun z => if z = n then some v else none) → (∀ b o, b ≠ e → s.heap.get? b = some o → h'.get? b = some o) → InitFr c env h' m → Q .next { s with heap := h', toks := tk })
    (hd : (y == ("__debug__" : Str)) = false := by decide) (hs : swapsWith (.Name y p3) (some (.Attribute (.Name "self" p1) n p2)) p4.line env = pure false := by rfl) :
    wpAny (model c.prog c.w) A (exec (.Assign [.Attribute (.Name "self" p1) n p2] (.Name y p3) p4) env) Q E s := by
  refine plainObj_wpAny_Assign_Attribute (looks_name I0.ki h2 I0.ns hy (looks_name I0.ki h1 I0.ns hself ?_) hd) hs
  refine exc_set0 (X.keeps (I.base hb0)) x ht I fun h' tk dx f I' k => ?_
  exact q h' tk dx f I' k (I0.grow fun o z => k _ o (ns_ne_exc I0.ns I) z)
theorem xs_set1 {env : Env} {s : Shared} {Q : Flow → Shared → Prop} {p1 p2 p3 p4 : Pos} {n y : Str} {m : Str → Option Value} {ns : List Str} {dx : Addr} (hb0 : ∀ b o, c.h0.get? b = some o → hb.get? b = some o)
    (I0 : InitFr c env s.heap m) (h1 : env.scope.names.lookup ("self" : Str) = some .local) (h2 : env.scope.names.lookup y = some .local) (hself : m ("self" : Str) = some (.ref e)) (hy : m y = some v)
    (X : K.In c.h0) (x : ExcCls K C bm) (ht : takerIn K C n = some none) (I : ExAt hb s.heap e C (some dx) mA) (hw : PySem.Within mA ns) (hsz : ns.length ≤ 100) (hL : env.locals ≠ dx)
    (q : ∀ h' tk, ExAt hb h' e C (some dx) (fun z => if z = n then some v else mA z) → (∀ b o, b ≠ dx → s.heap.get? b = some o → h'.get? b = some o) → InitFr c env h' m → Q .next { s with heap := h', toks := tk })
    (hd : (y == ("__debug__" : Str)) = false := by decide) (hs : swapsWith (.Name y p3) (some (.Attribute (.Name "self" p1) n p2)) p4.line env = pure false := by rfl) :
    wpAny (model c.prog c.w) A (exec (.Assign [.Attribute (.Name "self" p1) n p2] (.Name y p3) p4) env) Q E s := by
  refine plainObj_wpAny_Assign_Attribute (looks_name I0.ki h2 I0.ns hy (looks_name I0.ki h1 I0.ns hself ?_) hd) hs
  refine exc_set1 (X.keeps (I.base hb0)) x ht I hw hsz fun h' tk I' k => ?_
  exact q h' tk I' k (I0.grow fun o z => k _ o hL z)
theorem rows_init {s : Shared} {R : Result → Shared → Prop} {CR fT fR : Addr} (ok : CxOk c) (hEx : c.mg "Exception" = none) (T : ThrK c K C CR fT fR bm) (hb0 : ∀ b o, c.h0.get? b = some o → hb.get? b = some o) (hdp : A.depth < recursionLimit) (I : ExAt hb s.heap e C none mA)
    (q : ∀ h' tk dx mA', s.heap.get? dx = none → ExAt hb h' e C (some dx) mA' → PySem.Within mA' ["spot", "message"] → (∀ b o, b ≠ e → s.heap.get? b = some o → h'.get? b = some o) → R (.ok (.ret .none)) { s with heap := h', toks := tk }) :
    codeAny (model c.prog c.w) A (.call (.ref fR) ⟨[.ref e, v], []⟩) R s := by
  have base := I.base hb0
  obtain ⟨fd, F, e1, e2, hd⟩ := T.fnR.fun ⟨rfl, rfl, rfl, rfl, rfl, rfl, rfl⟩
  obtain ⟨_, Td, o', n, vs', hT, ho', hs, rs'⟩ := hd.elim (fun q => absurd q.1 (by simp)) _root_.id
  obtain ⟨vd, ws, rfl, r1, r2⟩ := rs'.cons_inv
  obtain rfl := r2.nil_inv
  obtain rfl := rep_none r1
  have hbind : ∃ kk : Option (Array Value) → Sem (List (Str × Value)), bindArgs fd ⟨[.ref e, v], []⟩ = seqItems? fd.defaults >>= kk ∧ kk (some #[Value.none]) = pure ((["self", "message", "spot"] : List Str).zip [.ref e, v, Value.none]) := by
    unfold bindArgs; rw [e2]; exact ⟨_, rfl, rfl⟩
  obtain ⟨kk, k1, k2⟩ := hbind
  refine init_enter (names := ["self", "message", "spot"]) (ws := [.ref e, v, .none]) F (BindsTo.of_defaults hT (base _ _ ho') hs k1 k2) (by rw [e1]; decide) (by decide) rfl hdp ok base ?_
  intro env h₁ tk m hsc hgl hbl keep hloc hns hm
  have ki : env.scope.kind = .function := by rw [hsc]; exact F.ki
  have I0 : InitFr c env h₁ m := ⟨ki, hgl, hbl, hns⟩
  have ms := hm "self" _ (List.Mem.head _)
  have mm := hm "message" v (List.Mem.tail _ (List.Mem.head _))
  have mp := hm "spot" .none (List.Mem.tail _ (List.Mem.tail _ (List.Mem.head _)))
  have I1 := I.grow keep
  refine wpAny_execs_cons (xs_base (s := { s with heap := h₁, toks := tk }) ok hEx hb0 I0 (by rw [hsc, e1]; rfl) (by rw [hsc, e1]; rfl) (by rw [hsc, e1]; rfl) ms mm T.inn T.cls I1 fun h₂ t₂ I2 k2 => ?_)
  have I02 : InitFr c env h₂ m := I0.grow fun o z => k2 _ o (ns_ne_exc I0.ns I1) z
  refine wpAny_execs_cons (xs_set0 (s := { s with heap := h₂, toks := t₂ }) hb0 I02 (by rw [hsc, e1]; rfl) (by rw [hsc, e1]; rfl) ms mm T.inn T.cls (T.cls.tk _ (by decide)) I2 fun h₃ t₃ dx f3 I3 k3 I03 => ?_)
  have hL : env.locals ≠ dx := fun z => by
    obtain ⟨o, ho⟩ := ns_live I02.ns
    rw [z] at ho
    rw [show (h₂.get? dx) = none from f3] at ho; cases ho
  refine wpAny_execs_cons (xs_set1 (s := { s with heap := h₃, toks := t₃ }) hb0 I03 (by rw [hsc, e1]; rfl) (by rw [hsc, e1]; rfl) ms mp T.inn T.cls (T.cls.tk _ (by decide)) I3 (PySem.Within.cons _ _ PySem.Within.nil) (by decide) hL fun h₄ t₄ I4 k4 I04 => ?_)
  have fresh : ∀ b o, s.heap.get? b = some o → b ≠ e → h₂.get? b = some o := fun b o z n => k2 b o n (keep b o z)
  have hdx : ∀ b o, s.heap.get? b = some o → b ≠ dx := fun b o z y => by
    have := y ▸ z
    by_cases n : dx = e
    · obtain ⟨t, h3⟩ := I2.obj
      rw [← n, show (h₂.get? dx) = none from f3] at h3; cases h3
    · have := fresh dx o this n
      rw [show (h₂.get? dx) = none from f3] at this; cases this
  refine wpAny_execs_nil (q h₄ t₄ dx _ ?_ I4 (PySem.Within.cons _ _ (PySem.Within.cons _ _ PySem.Within.nil)) fun b o n z => k4 b o (hdx b o z) (k3 b o n (fresh b o z n)))
  cases z : s.heap.get? dx with
  | none => rfl
  | some o => exact absurd rfl (hdx dx o z)
end
open Builtin Builtin.ObjectAttr
section
variable {c : Cx} {k : Nat} {A : Around} {E : Value → Shared → Prop} {K : Frag} {C : Addr} {bm : List Value} {hb : Heap} {e : Addr} {od : Option Addr} {mA : Str → Option Value} {v : Value}
theorem method_rows {s : Shared} {pl : Sem Bool} {CR fT fR : Addr} {Q : Value × List Value → Shared → Prop} (T : ThrK c K C CR fT fR bm) (base : ∀ b o, c.h0.get? b = some o → s.heap.get? b = some o) (q : ∀ tk, Q (.ref fR, []) { s with toks := tk }) : wpAny (model c.prog c.w) A (getMethod (.ref CR) "__init__" pl) Q E s := by
  have X := T.inn.keeps base
  refine method_cls X T.gaR ?_
  refine cls_open X ((T.opR _).keeps base) (looks_typeIn X T.tyR) ga_type (looks_hook X (r := none) hook_none) sub_type T.fiR ?_
  refine wpAny_pure ?_
  show wpAny _ _ (handedOut (.ref fR)) _ _ _
  rw [handedOut_of rfl]
  exact wpAny_pure (q _)
theorem lookIn_of_find {o : Obj} {es : Array DictEntry} {n : Nat} {name : Str} {v : Value} (hd : o.data = .dict es n) (h : nsFind es name = some v) : lookIn name o = some (some v) := by
  unfold lookIn
  rw [hd]
  unfold nsFind findBy at h
  rw [← Array.find?_toList] at h
  dsimp only
  cases q : es.toList.find? (·.key.isStr name) with
  | none => rw [q] at h; cases h
  | some en => rw [q] at h; exact congrArg some h
theorem xs_rows {env : Env} {s : Shared} {Q : Flow → Shared → Prop} {p p1 p2 apos pos spos : Pos} {j : Nat} {y : Str} {m : Str → Option Value} {CR fT fR : Addr} (ok : CxOk c) (hEx : c.mg "Exception" = none) (hR : c.mg "RowsError" = some (.ref CR)) (T : ThrK c K C CR fT fR bm) (hb0 : ∀ b o, c.h0.get? b = some o → hb.get? b = some o)
    (I0 : InitFr c env s.heap m) (hdp : A.depth < recursionLimit) (kE : env.scope.names.lookup ("RowsError" : Str) = some .globalImplicit) (h1 : env.scope.names.lookup ("self" : Str) = some .local) (hself : m ("self" : Str) = some (.ref e))
    (I : ExAt hb s.heap e C none mA) (q : ∀ h' tk dx mA', s.heap.get? dx = none → ExAt hb h' e C (some dx) mA' → PySem.Within mA' ["spot", "message"] → (∀ b o, b ≠ e → s.heap.get? b = some o → h'.get? b = some o) → Q .next { s with heap := h', toks := tk })
    (hp : ∀ env, (backTo pos (starEach [.Name "self" p1, .Constant (.str y) j p2] env)).any (·.1) = false := by intro _; rfl)
    (he : ∀ env, ∃ pl : Value → Sem Bool, eval (.Call (.Attribute (.Name "RowsError" p) "__init__" apos) [.Name "self" p1, .Constant (.str y) j p2] [] pos) env = (do
      let ov ← eval (.Name "RowsError" p) env
      standAt apos.atName
      let (f, first) ← holding [ov] (getMethod ov "__init__" (pl ov))
      callWith pos f first (backTo pos (starEach [.Name "self" p1, .Constant (.str y) j p2] env)) []) := by intro _; exact ⟨_, rfl⟩) :
    wpAny (model c.prog c.w) A (exec (.Expr (.Call (.Attribute (.Name "RowsError" p) "__init__" apos) [.Name "self" p1, .Constant (.str y) j p2] [] pos) spos) env) Q E s := by
  have base := I.base hb0
  refine wpAny_Expr ?_ (interactive_fn I0.ki) rfl
  obtain ⟨pl, he⟩ := he env
  rw [he]
  have Ng : s.heap.Ns env.globals c.mg := I0.gl ▸ ok.g.keeps base
  refine wpAny_bind (Name_function_global I0.ki kE (loadGlobal_global Ng hR ?_) (by decide))
  refine wpAny_bind (wpAny_standAt (wpAny_bind (wpAny_holding (method_rows T base fun tk => ?_))))
  obtain ⟨ob, fd, ho, hdd⟩ := T.fnR.at
  refine callWith_function (o := ob) (fd := fd) (evalArgs_of (hp env) (wpAny_items_cons (looks_name I0.ki h1 I0.ns hself (wpAny_items_cons (wpAny_Constant_str (wpAny_items_nil ⟨⟨base _ _ ho, hdd⟩, ?_⟩)) rfl)) rfl))
  refine wpAny_call (rows_init (s := { s with toks := _ }) ok hEx T hb0 hdp I fun h' tk' dx mA' f I' w k => ?_)
  exact q h' tk' dx mA' f I' w k
theorem op_thrownF {CT CR : Addr} {d : D} (ok : CxOk c) (T0 : ThrownOk c CT CR) (A : Around) (s : Shared) (X : Addr → Prop) (vs : List Value) (Q : Value → Shared → Prop) (E : Value → Shared → Prop) (rm : Room A (k + 3)) (ok' : CxOk c) (base : ∀ b o, c.h0.get? b = some o → s.heap.get? b = some o) (lv : Live X s) (rs : Reps X s.heap vs [d])
    (q : ∀ ea s', Grow s s' → Rep X s'.heap (.ref ea) (.exc CT d) → s.heap.get? ea = none → Q (.ref ea) s') : wpAny (model c.prog c.w) A (callOp (.ref CT) vs) Q E s := by
  obtain ⟨vd, vs, rfl, rd, rs⟩ := rs.cons_inv
  obtain rfl := rs.nil_inv
  obtain ⟨gT, gR, hEx, K, fT, fR, bm, T⟩ := T0
  obtain ⟨fd, F, e1, e2, hd⟩ := T.fnT.fun ⟨rfl, rfl, rfl, rfl, rfl, rfl, rfl⟩
  have hdf : fd.defaults = .none := hd.elim (·.2) fun q => absurd rfl q.1
  obtain ⟨hh, g, dr, t, os⟩ := s
  dsimp only at base lv
  have X₀ := T.inn.keeps base
  show wpAny _ A (call (.ref CT) [vd]) Q E _
  refine wpAny_call (xc_make (rest := [vd]) X₀ T.cls T.initT T.initTf (by rw [sizeLine_eq, List.length_singleton]; decide) ?_)
  have g0 : ∀ b o, hh.get? b = some o → ((hh.push (tupObj [vd])).push (excFresh CT hh.objs.size)).get? b = some o := fun b o e => Heap.get?_push_of_some _ (Heap.get?_push_of_some _ e)
  have hx : ((hh.push (tupObj [vd])).push (excFresh CT hh.objs.size)).get? (hh.objs.size + 1) = some (excFresh CT hh.objs.size) := by heap_get
  have f1 : hh.get? (hh.objs.size + 1) = none := Heap.get?_none_of_le (Nat.le_succ _)
  have I : ExAt hh ((hh.push (tupObj [vd])).push (excFresh CT hh.objs.size)) (hh.objs.size + 1) CT none (fun _ => none) := ⟨g0, f1, ⟨_, hx⟩, fun _ => rfl⟩
  have d0 := rm.2.1
  refine init_enter (names := ["self", "value"]) (ws := [.ref (hh.objs.size + 1), vd]) F (BindsTo.of_eq (by unfold bindArgs; rw [e2, hdf]; rfl)) (by rw [e1]; decide) (by decide) rfl (by show A.depth + 1 < _; omega) ok (I.base base) ?_
  intro env h₁ tk m hsc hgl hbl keep hloc hns hm
  have ki : env.scope.kind = .function := by rw [hsc]; exact F.ki
  have I0 : InitFr c env h₁ m := ⟨ki, hgl, hbl, hns⟩
  have ms := hm "self" _ (List.Mem.head _)
  have mv := hm "value" vd (List.Mem.tail _ (List.Mem.head _))
  have I1 := I.grow keep
  refine wpAny_execs_cons (xs_rows (s := ⟨h₁, g, dr, tk, os⟩) ok hEx gR T base I0 (by show A.depth + 1 + 1 < _; omega) (by rw [hsc, e1]; rfl) (by rw [hsc, e1]; rfl) ms I1 fun h₂ t₂ dx mA f2 I2 w2 k2 => ?_)
  have I02 : InitFr c env h₂ m := I0.grow fun o z => k2 _ o (ns_ne_exc I0.ns I1) z
  have hL : env.locals ≠ dx := fun z => by
    obtain ⟨o, ho⟩ := ns_live hns
    rw [z] at ho
    rw [show (h₁.get? dx) = none from f2] at ho; cases ho
  refine wpAny_execs_cons (xs_set1 (s := ⟨h₂, g, dr, t₂, os⟩) base I02 (by rw [hsc, e1]; rfl) (by rw [hsc, e1]; rfl) ms mv T.inn T.cls (T.cls.tk _ (by decide)) I2 w2 (by decide) hL fun h₃ t₃ I3 k3 I03 => ?_)
  refine wpAny_execs_nil ⟨rfl, ?_⟩
  obtain ⟨x1, x2, ⟨tt, x3⟩, y1, y2, y3⟩ := I3
  have G : Grow ⟨hh, g, dr, t, os⟩ ⟨h₃, g, dr, t₃, os⟩ := ⟨x1, rfl, rfl, rfl⟩
  have nX : ∀ b, hh.get? b = none → ¬ X b := fun b e xb => by obtain ⟨o, ho⟩ := lv b xb; rw [show (⟨hh, g, dr, t, os⟩ : Shared).heap = hh from rfl, e] at ho; cases ho
  obtain ⟨oD, es, ep, hoD, hdD, _, _, hf⟩ := y3
  refine q _ _ G (.exc (nX _ x2) x3 (nX _ y2) hoD (lookIn_of_find hdD (hf _)) (Rep.carry G.carry rd)) x2
end
section
variable {c : Cx} {k : Nat} {S : Scope} {ρ ρ' ρ₁ ρ₂ ρ₃ σ : Vars} {γ γ' γ₁ γ₂ γ₃ : GS} {fn : Bool} {aM aT CT CH CE CR : Addr}
noncomputable def intD (i : Int) : D := .tuple [.str "int", .str "Int64", .int i]
noncomputable def boundsD : D := .tuple [.str "name", .str "BoundsError", .tuple []]
noncomputable def faultD (v : D) (is : List Int) : D := .tuple [.str "struct", boundsD, .tuple [v, .tuple [.str "tuple", .tuple (is.map intD)]]]
theorem int_value_ok {f : Addr} {i : Int} (F : FnIs c (dR 6).name (dR 6) [.str "Int64"] f) : FnOk c k f [.int i] γ (intD i) γ := by
  refine fn_ok_d ["number", "kind"] F (ρ₀ := upd (upd e0 "kind" (.d (.str "Int64"))) "number" (.d (.int i))) (o := .ret _ γ) ?_ (.inl rfl)
  exact ex_ret (ex_return (ev_tuple (evs_cons ev_str (evs_cons (ev_name (by trivial)) (evs_cons (ev_name (by trivial)) evs_nil))) (Nat.le_of_ble_eq_true rfl)))
theorem error_kind_ok {f : Addr} {x : Str} (F : FnIs c (dR 8).name (dR 8) [] f) : FnOk c k f [.str x] γ (.tuple [.str "name", .str x, .tuple []]) γ := by
  refine fn_ok ["name"] F (ρ₀ := upd e0 "name" (.d (.str x))) (o := .ret _ γ) ?_ (.inl rfl)
  exact ex_ret (ex_return (ev_tuple (evs_cons ev_str (evs_cons (ev_name (by trivial)) (evs_cons (ev_tuple evs_nil) evs_nil))) (Nat.le_of_ble_eq_true rfl)))
theorem error_value_ok {f : Addr} {x : Str} {ds : List D} (G : Gr c) (F : FnIs c (dR 9).name (dR 9) [] f) : FnOk c (k + 1) f [.str x, .tuple ds] γ (.tuple [.str "struct", .tuple [.str "name", .str x, .tuple []], .tuple ds]) γ := by
  refine fn_ok ["name", "parts"] F (ρ₀ := upd (upd e0 "parts" (.d (.tuple ds))) "name" (.d (.str x))) (o := .ret _ γ) ?_ (.inl rfl)
  exact ex_ret (ex_return (ev_tuple (evs_cons ev_str (evs_cons (ev_fcall (G.fn 8 (by decide)) (evs_cons (ev_name (by trivial)) evs_nil) fun f F => error_kind_ok F) (evs_cons (ev_bcall G rfl (evs_cons (ev_name (by trivial)) evs_nil) op_tuple_tuple) evs_nil))) (Nat.le_of_ble_eq_true rfl)))
end
noncomputable def FlyAt (base : Heap) (frs : List Env) (e C dx : Addr) (fl : Value) (h : Heap) : Prop :=
  base.StaysIn h ∧ base.get? e = none ∧ h.FunFrames base frs ∧ ∃ oe vs T oT ts, h.get? e = some oe ∧ oe.cls = .ref C ∧ oe.dict = some dx ∧ oe.data = .fields vs ∧ vs[1]? = some (.ref T) ∧ base.get? T = none ∧ T ≠ e ∧
    h.get? T = some oT ∧ oT.data = .fields ts ∧ ts[3]? = some fl
section
variable {M : Model} {A : Around} {E : Value → Shared → Prop} {s : Shared} {base : Heap} {env : Env} {outer frs : List Env} {L e C dx : Addr} {Q : Unit → Shared → Prop}
theorem fly_entry {oe : Obj} {vs : Array Value} {head : Value} {hadNext : Bool} (hfr : A.frames = some (env :: outer)) (hl : s.heap.FunFrames base (env :: outer)) (hf : env.frame = some L)
    (hkb : base.StaysIn s.heap) (hen : base.get? e = none) (he : s.heap.get? e = some oe) (hc : oe.cls = .ref C) (hdx : oe.dict = some dx) (hd : oe.data = .fields vs) (hsz : 1 < vs.size)
    (h : ∀ h', FlyAt base (env :: outer) e C dx (rawInt L) h' → s.heap.UpToSlots h' → Q () { s with heap := h' }) :
    wpAny M A (do let a ← frameOf env; let pl ← entryPlaceOf L hadNext; let b ← EntryCells.newEntry head a .none (rawInt L) .none pl; setField (.ref e) 1 b) Q E s := by
  have nfr : e ∉ (env :: outer).filterMap (·.frame) := fun hm => by
    obtain ⟨_, o, ho, hnf⟩ := hl.mem hm
    rw [he] at ho; cases ho; exact hnf vs hd
  refine wpAny_bind (wpAny_frameOf_fun hfr hl hf fun h₁ hs₁ => ?_)
  refine wpAny_bind (wpAny_entryPlaceOf fun pl hpl => ?_)
  unfold EntryCells.newEntry newFields
  refine wpAny_bind (wpAny_newObj_type ?_ (hpl.sizeOk5 _ _ _ _ _))
  have he₁ : h₁.get? e = some oe := (hs₁.2.1 e nfr).trans he
  have kb₁ : base.StaysIn h₁ := fun b o hbo => (hs₁.2.1 b fun hm => by rw [(hl.mem hm).1] at hbo; cases hbo).trans (hkb b o hbo)
  generalize hob : ({ cls := .type "traceback", dict := none, data := .fields ([head, .ref L, .none, rawInt L, .none] ++ (if pl.isEmpty then List.replicate 6 Value.none else pl)).toArray } : Obj) = ob
  have he₂ : (h₁.push ob).get? e = some oe := Heap.get?_push_of_some ob he₁
  refine wpAny_setField he₂ hd hsz (h _ ?_ fun b o hb hnf => ?_)
  · have hTe : h₁.objs.size ≠ e := Nat.ne_of_gt (Heap.lt_size he₁)
    have hfree : ob.isFreed = false := by rw [← hob]; rfl
    have hd₃ := Obj.data_mapFields hd (·.setIfInBounds 1 (Value.ref h₁.objs.size))
    have he₃ := Heap.get?_update_self (Obj.mapFields (·.setIfInBounds 1 (Value.ref h₁.objs.size))) he₂ (Obj.isFreed_of_fields hd₃)
    have hT₃ := (Heap.get?_update_other (h₁.push ob) (Obj.mapFields (·.setIfInBounds 1 (Value.ref h₁.objs.size))) (Ne.symm hTe)).trans (Heap.get?_push_size h₁ hfree)
    have keep : ∀ b o, b ≠ e → h₁.get? b = some o → ((h₁.push ob).update e (Obj.mapFields (·.setIfInBounds 1 (Value.ref h₁.objs.size)))).get? b = some o := fun b o n z => by
      rw [Heap.get?_update_other _ _ (Ne.symm n)]; exact Heap.get?_push_of_some _ z
    refine ⟨fun b o z => keep b o (fun q => by rw [q, hen] at z; cases z) (kb₁ b o z), hen, hl.of_keeps fun b o hb hnf => ?_, _, _, h₁.objs.size, _, ([head, .ref L, .none, rawInt L, .none] ++ (if pl.isEmpty then List.replicate 6 Value.none else pl)).toArray, he₃, ?_, ?_, hd₃, by simp [hsz], kb₁.fresh, hTe, hT₃, by rw [← hob], ?_⟩
    · obtain ⟨sl, hs⟩ := hs₁.2.2 b o hb
      exact ⟨_, keep b _ (fun q => by rw [q, he] at hb; cases hb; exact hnf vs hd) hs, rfl⟩
    · exact (Obj.cls_mapFields _ _).trans hc
    · obtain ⟨_, _, dt, _⟩ := oe; cases hd; exact hdx
    · first | (simp; done) | (rcases hpl with rfl | ⟨_, _, _, _, _, _, _, rfl⟩ <;> simp)
  · obtain ⟨sl, hs⟩ := hs₁.2.2 b o hb
    refine ⟨sl, ?_⟩
    rw [Heap.get?_update_other _ _ (fun q => by rw [← q, he] at hb; cases hb; exact hnf vs hd)]
    exact Heap.get?_push_of_some _ hs
theorem fly_first {oe : Obj} {vs : Array Value} (hfr : A.frames = some (env :: outer)) (hl : s.heap.FunFrames base (env :: outer)) (hf : env.frame = some L)
    (hkb : base.StaysIn s.heap) (hen : base.get? e = none) (he : s.heap.get? e = some oe) (hc : oe.cls = .ref C) (hdx : oe.dict = some dx) (hd : oe.data = .fields vs) (h1 : vs[1]? = some .none)
    (h : ∀ h', FlyAt base (env :: outer) e C dx (rawInt L) h' → s.heap.UpToSlots h' → Q () { s with heap := h' }) : wpAny M A (noteFrame (.ref e) env) Q E s := by
  unfold noteFrame
  simp only [hf]
  refine wpAny_bind (wpAny_field he hd h1 ?_)
  rw [if_neg (by decide)]
  exact fly_entry hfr hl hf hkb hen he hc hdx hd (Array.getElem?_eq_some_iff.mp h1).1 h
theorem fly_next (hfr : A.frames = some (env :: outer)) (hf : env.frame = some L) (F : FlyAt base (env :: outer) e C dx .none s.heap)
    (h : ∀ h', FlyAt base (env :: outer) e C dx (rawInt L) h' → s.heap.UpToSlots h' → Q () { s with heap := h' }) : wpAny M A (noteFrame (.ref e) env) Q E s := by
  obtain ⟨hkb, hen, hl, oe, vs, T, oT, ts, he, hc, hdx, hd, h1, hnT, hTe, hT, hdT, h3⟩ := F
  unfold noteFrame
  simp only [hf]
  refine wpAny_bind (wpAny_field he hd h1 ?_)
  rw [if_pos (show (Value.ref T != Value.none) = true from by simp)]
  refine wpAny_bind (wpAny_field hT hdT h3 ?_)
  rw [if_neg (show ¬ ((Value.none == rawInt L) = true) from by simp [rawInt])]
  refine wpAny_bind (wpAny_setField hT hdT (Array.getElem?_eq_some_iff.mp h3).1 ?_)
  have other : ∀ b, b ≠ T → (s.heap.update T (Obj.mapFields (·.setIfInBounds 3 Value.none))).get? b = s.heap.get? b := fun b hb => Heap.get?_update_other _ _ (Ne.symm hb)
  have noRecord : ∀ b o, s.heap.get? b = some o → (∀ vs, o.data ≠ .fields vs) → b ≠ T := fun b o hb hnf q => by
    rw [q, hT] at hb; cases hb; exact hnf ts hdT
  refine fly_entry hfr (hl.of_keeps fun b o hb hnf => ⟨o, (other b (noRecord b o hb hnf)).trans hb, rfl⟩) hf
    (fun b o hbo => (other b fun q => by rw [q, hnT] at hbo; cases hbo).trans (hkb b o hbo)) hen ((other e (Ne.symm hTe)).trans he) hc hdx hd (Array.getElem?_eq_some_iff.mp h1).1
    fun h' x1 x2 => h h' x1 fun b o hb hnf => x2 b o ((other b (noRecord b o hb hnf)).trans hb) hnf
theorem fly_set {fl : Value} (F : FlyAt base frs e C dx fl s.heap) (h : ∀ h', FlyAt base frs e C dx .none h' → s.heap.UpToSlots h' → Q () { s with heap := h' }) : wpAny M A (setFlight (.ref e) none) Q E s := by
  obtain ⟨hkb, hen, hl, oe, vs, T, oT, ts, he, hc, hdx, hd, h1, hnT, hTe, hT, hdT, h3⟩ := F
  have hsz3 : 3 < ts.size := (Array.getElem?_eq_some_iff.mp h3).1
  unfold setFlight
  refine wpAny_bind (wpAny_field he hd h1 ?_)
  rw [if_pos (show (Value.ref T != Value.none) = true from by simp)]
  have other : ∀ b, b ≠ T → (s.heap.update T (Obj.mapFields (·.setIfInBounds 3 ((none : Option Addr).elim Value.none fun f => rawInt f)))).get? b = s.heap.get? b := fun b hb => Heap.get?_update_other _ _ (Ne.symm hb)
  have noRecord : ∀ b o, s.heap.get? b = some o → (∀ vs, o.data ≠ .fields vs) → b ≠ T := fun b o hb hnf q => by
    rw [q, hT] at hb; cases hb; exact hnf ts hdT
  refine wpAny_setField hT hdT hsz3 (h _ ⟨fun b o hbo => (other b fun q => by rw [q, hnT] at hbo; cases hbo).trans (hkb b o hbo), hen, hl.of_keeps fun b o hb hnf => ⟨o, (other b (noRecord b o hb hnf)).trans hb, rfl⟩,
    oe, vs, T, _, _, (other e (Ne.symm hTe)).trans he, hc, hdx, hd, h1, hnT, hTe, Heap.get?_update_self _ hT (Obj.isFreed_of_fields (Obj.data_mapFields hdT _)), Obj.data_mapFields hdT _, by simp [hsz3]⟩ fun b o hb hnf => ⟨o.slots, (other b (noRecord b o hb hnf)).trans hb⟩)
theorem fly_leave {oe : Obj} {vs : Array Value} (hfr : A.frames = some (env :: outer)) (hl : s.heap.FunFrames base (env :: outer)) (hf : env.frame = some L)
    (hkb : base.StaysIn s.heap) (hen : base.get? e = none) (he : s.heap.get? e = some oe) (hc : oe.cls = .ref C) (hdx : oe.dict = some dx) (hd : oe.data = .fields vs) (h1 : vs[1]? = some .none)
    (h : ∀ h', FlyAt base outer e C dx .none h' → s.heap.UpToSlots h' → Q () { s with heap := h' }) : wpAny M A (leaving env (.ref e)) Q E s := by
  unfold leaving
  refine wpAny_bind (fly_first hfr hl hf hkb hen he hc hdx hd h1 fun h₁ F₁ u₁ => ?_)
  refine fly_set F₁ fun h₂ F₂ u₂ => h h₂ ?_ (u₁.trans u₂)
  obtain ⟨a, b, ⟨_, _, d⟩, f⟩ := F₂
  exact ⟨a, b, d, f⟩
end
section
variable {c : Cx} {k : Nat} {S : Scope} {ρ ρ' ρ₁ ρ₂ ρ₃ σ : Vars} {γ γ' γ₁ γ₂ γ₃ : GS} {fn : Bool}
theorem fn_raw {f : Addr} {fd : FuncData} {body : List Stmt} {names : List Str} {ds₀ ds : List D} {A : Around} {s : Shared} {X : Addr → Prop} {vs₀ : List Value} {Q : Value → Shared → Prop} {E : Value → Shared → Prop}
    (F : Fun c f fd body) (hb : Binds c fd names ds₀ ds) (hk : ∀ x ∈ names, fd.scope.names.lookup x = some .local ∨ fd.scope.names.lookup x = some .cell)
    (hcell : ∀ n x, fd.scope.names.lookup x = some .cell → ((cellsFrom n fd.scope.names []).lookup x).isSome = true)
    (hnd : names.Nodup) (hlen : ds.length = names.length) (rm : Room A (k + 1)) (ok : CxOk c) (g : GRel c γ X s) (rs₀ : Reps X s.heap vs₀ ds₀)
    (h : ∀ (env : Env) (W : Addr → Prop) (s₁ : Shared), env.scope = fd.scope → FnEnv env → env.frame = some env.locals → s.heap.get? env.locals = none → Grow s s₁ → (∀ b, W b → c.M b ∨ s.heap.get? b = none) → (∀ b, c.M b → W b) → Rel c γ env W X (bindV (names.zip ds)) s₁ → Room (A.deeper env) k →
      wpAny (model c.prog c.w) (A.deeper env) (execs body env) (fun fl s' => Q (match fl with | .ret v => v | _ => .none) s')
        (fun e s' => wpAny (model c.prog c.w) (A.deeper env) (leaving env e) (fun _ s'' => E e s'') (fun e' s'' => E e' s'') s') s₁) : wpAny (model c.prog c.w) A (call (.ref f) vs₀) Q E s := by
  obtain ⟨vs, rs, hbind⟩ := hb s X vs₀ g.base g.xbase rs₀
  obtain ⟨ob, hob, hdat⟩ := F.obj
  refine wpAny_call (codeAny_call_function (by have := rm.2.1; omega) (g.base _ _ hob) hdat F.co F.ge F.body (F.code.keeps g.base) ?_)
  refine hbind _ _ _ _ ?_
  rw [F.cl]
  have hbk : ∀ x ∈ names.zip vs, fd.scope.names.lookup x.1 = some .local ∨ (fd.scope.names.lookup x.1 = some .cell ∧ ((cellsFrom (s.heap.objs.size + 1) fd.scope.names []).lookup x.1).isSome = true) := fun x hx =>
    (hk x.1 (List.of_mem_zip hx).1).imp _root_.id fun y => ⟨y, hcell _ _ y⟩
  refine (wpAny_newFunctionEnv_cells F.ki hbk fun env he s' x => ?_)
  have hL : env.locals = s.heap.objs.size := by rw [he]; rfl
  have hfr : env.frame = some env.locals := by rw [he]; rfl
  have hsc : env.scope = fd.scope := by rw [he]; rfl
  have hce : env.cells = cellsFrom (s.heap.objs.size + 1) fd.scope.names [] := by rw [he]; rfl
  have hfu : env.func = some f := by rw [he]; rfl
  have hgl : env.globals = mainGlobals := by rw [he]; exact F.gl
  have hbl : env.builtins = builtinsNs := by rw [he]; exact F.bl
  obtain ⟨h₁, tk, rfl, keep⟩ := x.done
  have G : Grow s { s with heap := h₁, toks := tk } := ⟨keep, rfl, rfl, rfl⟩
  refine ⟨ok.lim.keeps fun b o e => keep b o (g.base b o e), codeAny_func ?_⟩
  have hcl : ∀ n a, env.cells.lookup n = some a → s.heap.get? a = none := fun n a e => by
    have := x.above n a (mem_of_lookup e)
    rw [hL] at this
    cases q : s.heap.get? a with
    | none => rfl
    | some o => exact absurd (Heap.lt_size q) (Nat.not_lt.mpr (Nat.le_of_lt this))
  let W : Addr → Prop := fun b => ML c b ∨ b = env.locals ∨ ∃ n, env.cells.lookup n = some b
  have hWn : ∀ b, W b → X b ∨ s.heap.get? b = none := fun b w => by
    rcases w with w | w | ⟨n, w⟩
    · exact .inl (g.xM b w)
    · exact .inr (by rw [w, hL]; exact fresh_size _)
    · exact .inr (hcl n b w)
  have gl := g.grow G
  have lvW : ∀ b, W b → ∃ o, h₁.get? b = some o := fun b w => by
    rcases w with w | w | ⟨n, w⟩
    · exact gl.live b (g.xM b w)
    · exact w ▸ ns_live x.toInCall.ns
    · exact cell_live (x.cell n b w)
  have R : Rel c γ env W X (bindV (names.zip ds)) { s with heap := h₁, toks := tk } := by
    refine ⟨ok, g.more G (fun b h => .inl h) (fun b h => h.elim .inl (hWn b)) (fun b h => h.elim (gl.live b) (lvW b)), by rw [hsc]; exact F.ki, hgl, hbl, ⟨_, x.toInCall.ns⟩, .inr (.inl rfl), fun b m => .inl m,
      fun a b d e1 e2 => name_of_addr x.apart (mem_of_lookup e1) (mem_of_lookup e2), fun n a e => ⟨_, x.cell n a e⟩, fun _ n a e => .inr (.inr ⟨n, e⟩), fun y u hy => ?_, fun y z es fs v h1 h2 => ?_⟩
    · obtain ⟨d, rfl, hm⟩ := bindV_mem hy
      obtain ⟨v, hv, hr⟩ := zip_rep rs hm
      have cy : Carry X s.heap (un X W) h₁ := ⟨fun b o _ e => keep b o e, fun b o n e y => y.elim n fun w => (hWn b w).elim n fun q => by rw [q] at e; cases e⟩
      have nd : ((names.zip vs).map (·.1)).Nodup := by rw [zip_names (by rw [rs.length, hlen])]; exact hnd
      refine ⟨v, ?_, Rep.carry cy hr⟩
      have hyk : env.kindOf y = some .local ∨ env.kindOf y = some .cell := by
        unfold Env.kindOf; rw [hsc]
        exact hk y (List.of_mem_zip hm).1
      unfold VarAt
      rcases hyk with e | e
      · rw [e]; exact ⟨_, x.toInCall.ns, bindL_mem nd hv e⟩
      · rw [e]
        have hc : (env.cells.lookup y).isSome = true := by rw [hce]; exact hcell _ _ (by rw [← hsc]; exact e)
        obtain ⟨a, ha⟩ := Option.isSome_iff_exists.mp hc
        refine ⟨a, ha, ?_⟩
        have := x.cell y a ha
        rwa [bindC_mem nd hv (by rw [e]; decide)] at this
    · obtain ⟨d, e, _⟩ := bindV_mem h1; cases e
  have fe : FnEnv env := ⟨by rw [hfu]; rfl, fun n e => by rw [hce]; exact hcell _ _ (by rw [← hsc]; exact e)⟩
  refine wpAny_mono (h env W _ hsc fe hfr (by rw [hL]; exact fresh_size _) G (fun b w => ?_) (fun b m => .inl m) R (rm.deeper env)) (fun fl s' z => z) fun e s' z => z
  rcases w with w | w | ⟨n, w⟩
  · exact .inl w
  · exact .inr (by rw [w, hL]; exact fresh_size _)
  · exact .inr (hcl n b w)
end
section
variable {c : Cx} {k : Nat} {S : Scope} {ρ ρ' ρ₁ ρ₂ ρ₃ σ : Vars} {γ γ' γ₁ γ₂ γ₃ : GS} {fn : Bool} {aM aT CT CH CE CR : Addr}
noncomputable def EvF (c : Cx) (k : Nat) (S : Scope) (ρ : Vars) (γ : GS) (e : Expr) (CE : Addr) (d : D) : Prop :=
  ∀ (A : Around) (env : Env) (W Z : Addr → Prop) (s : Shared) (Q : Value → Shared → Prop) (E : Value → Shared → Prop), env.scope = S → Room A k → Rel c γ env W Z ρ s →
    (∀ ea s' W', ExtE env W s W' s' → Rel c γ env W' Z ρ s' → Rep (un Z W') s'.heap (.ref ea) (.exc CE d) → s.heap.get? ea = none → Q (.ref ea) s') → wpAny (model c.prog c.w) A (eval e env) Q E s
noncomputable def FnOkF (c : Cx) (k : Nat) (f : Addr) (ds : List D) (γ : GS) (CE : Addr) (d : D) : Prop :=
  ∀ (A : Around) (s : Shared) (X : Addr → Prop) (vs : List Value) (Q : Value → Shared → Prop) (E : Value → Shared → Prop), Room A (k + 1) → CxOk c → GRel c γ X s → Reps X s.heap vs ds →
    (∀ ea s', KeptF c s s' → GRel c γ X s' → Rep X s'.heap (.ref ea) (.exc CE d) → s.heap.get? ea = none → Q (.ref ea) s') → wpAny (model c.prog c.w) A (call (.ref f) vs) Q E s
theorem Ext.none {W W' : Addr → Prop} {s s' : Shared} (x : Ext W s W' s') {b : Addr} (h : s'.heap.get? b = none) : s.heap.get? b = none := by
  cases q : s.heap.get? b with
  | none => rfl
  | some o => obtain ⟨o', e'⟩ := x.live b o q; rw [h] at e'; cases e'
theorem evF_fcall {i : Nat} {dfl : List D} {x : Str} {p pos : Pos} {args : List Expr} {ds : List D} {d : D} (G : Glob c (dR i) dfl) (h1 : Evs c (k + 1) S ρ γ args ds ρ γ) (h2 : ∀ f, FnIs c (dR i).name (dR i) dfl f → FnOkF c k f ds γ CE d)
    (hx : S.names.lookup x = some .globalImplicit := by rfl) (hn : (dR i).name = x := by rfl) (hd : (x == ("__debug__" : Str)) = false := by decide)
    (hfe : ∀ env, eval (.Call (.Name x p) args [] pos) env = (do callWith pos (← eval (.Name x p) env) [] (backTo pos (starEach args env)) (backToKw pos (keywordEach [] env))) := by intro _; rfl)
    (hp : ∀ env, (backTo pos (starEach args env)).any (·.1) = false := by intro _; rfl) : EvF c (k + 1) S ρ γ (.Call (.Name x p) args [] pos) CE d := by
  obtain ⟨f, hm, F⟩ := G
  intro A env W Z s Q E hs rm R q
  show wpAny _ A (eval (.Call (.Name x p) args [] pos) env) Q E s
  rw [hfe env]
  refine wpAny_bind ((ev_glob hx (hn ▸ hm) hd : EvE c (k + 1) S ρ γ (.Name x p) _ ρ γ) A env W Z s _ E hs rm R fun v s₁ W₁ x₁ R₁ o₁ f₁ => ?_)
  rw [rep_raw o₁.1]
  obtain ⟨o, fd, ho, hd⟩ := F.at
  refine callWith_function (o := o) (fd := fd) (evalArgs_of (hp env) (h1 pos A env W₁ Z s₁ _ E hs rm R₁ fun vs s₂ W₂ x₂ R₂ rs => ⟨⟨R₂.g.base _ _ ho, hd⟩, ?_⟩))
  refine h2 f F A s₂ (un Z W₂) vs Q E rm R₂.ok R₂.g rs fun ea s₃ kp g r nw => ?_
  obtain ⟨x₃, R₃⟩ := R₂.call kp g
  exact q ea s₃ W₂ (x₁.trans (x₂.trans x₃)) R₃ r (x₁.toExt.none (x₂.toExt.none nw))
theorem fnF_of {f : Addr} {fd : FuncData} {e : Expr} {pos : Pos} {names : List Str} {ds₀ ds : List D} {d : D} (F : Fun c f fd [.Return (some e) pos]) (hb : Binds c fd names ds₀ ds) (hk : ∀ x ∈ names, fd.scope.names.lookup x = some .local ∨ fd.scope.names.lookup x = some .cell)
    (hcell : ∀ n x, fd.scope.names.lookup x = some .cell → ((cellsFrom n fd.scope.names []).lookup x).isSome = true)
    (hnd : names.Nodup) (hlen : ds.length = names.length) (h : EvF c k fd.scope (bindV (names.zip ds)) γ e CE d) : FnOkF c k f ds₀ γ CE d := by
  intro A s X vs Q E rm ok g rs q
  refine fn_raw F hb hk hcell hnd hlen rm ok g rs fun env W s₁ hsc fe hfr hL G hW hM R rm' => ?_
  refine wpAny_execs_cons (wpAny_Return_some (h _ env W X s₁ _ _ hsc rm' R fun ea s₂ W₂ x R₂ r nw => ?_))
  have old : ∀ b, s₁.heap.get? b = none → s.heap.get? b = none := fun b e => (Ext.grow (W := W) G).none e
  refine q ea s₂ (fun b o n z => x.keep b o (fun w => (hW b w).elim n fun q => by rw [q] at z; cases z) (G.keep b o z)) (R₂.g.less (fun b h => .inl h) g.xM) (Rep.carry (Carry.less fun b h => .inl h) r) (old _ nw)
theorem fnF_ok (names : List Str) {qual : Str} {dr : DefRec} {f : Addr} {ds : List D} {d : D} {ρ₀ : Vars} {e : Expr} {pos : Pos} (F : FnIs c qual dr [] f) (hbody : dr.body = [.Return (some e) pos])
    (h : EvF c k dr.scope ρ₀ γ e CE d) (hρ : bindV (names.zip ds) = ρ₀ := by rfl) (hlen : ds.length = names.length := by rfl)
    (hc : chkFn dr names = true := by rfl)
    (hb : ∀ fd : FuncData, fd.params = dr.params → fd.defaults = .none → ∀ vs, vs.length = names.length → bindArgs fd ⟨vs, []⟩ = pure (names.zip vs) := by
      (intro fd hp hd vs hl; unfold bindArgs; rw [hp, hd]; rcases vs with _ | ⟨_, _ | ⟨_, _ | ⟨_, _ | ⟨_, _ | _⟩⟩⟩⟩ <;> first | (simp at hl; done) | rfl)) : FnOkF c k f ds γ CE d := by
  obtain ⟨pl, hk, nd⟩ := chk_plain hc
  obtain ⟨fd, F', e1, e2, hd⟩ := F.fun pl
  subst hρ
  rw [hbody] at F'
  have hd : fd.defaults = .none := hd.elim (·.2) fun q => absurd rfl q.1
  refine fnF_of F' (ds := ds) (names := names) (fun s X vs _ _ rs => ⟨vs, rs, BindsTo.of_eq (hb fd e2 hd vs (by rw [rs.length, hlen]))⟩) (fun x hx => by rw [e1]; exact hk x hx) (fun n x hx => cells_lookup n [] (.inl hx)) nd hlen (by rw [e1]; exact h)
theorem evF_thrown {p pos : Pos} {args : List Expr} {d : D} (T : ThrownOk c CE CR) (h1 : Evs c (k + 3) S ρ γ args [d] ρ γ)
    (hx : S.names.lookup ("Thrown" : Str) = some .globalImplicit := by rfl)
    (hfe : ∀ env, eval (.Call (.Name "Thrown" p) args [] pos) env = (do callWith pos (← eval (.Name "Thrown" p) env) [] (backTo pos (starEach args env)) (backToKw pos (keywordEach [] env))) := by intro _; rfl)
    (hp : ∀ env, (backTo pos (starEach args env)).any (·.1) = false := by intro _; rfl) : EvF c (k + 3) S ρ γ (.Call (.Name "Thrown" p) args [] pos) CE d := by
  intro A env W Z s Q E hs rm R q
  obtain ⟨K, fT, fR, bm, T1⟩ := T.k
  rw [hfe env]
  refine wpAny_bind ((ev_glob hx T.globT (by decide) : EvE c (k + 3) S ρ γ (.Name "Thrown" p) _ ρ γ) A env W Z s _ E hs rm R fun v s₁ W₁ x₁ R₁ o₁ f₁ => ?_)
  rw [rep_raw o₁.1]
  refine callWith_of (P := fun h => K.In h) (by rw [hp env]; rfl) (keeps_K T1.keep) (evalArgs_of (hp env) ?_)
  refine h1 pos A env W₁ Z s₁ _ E hs rm R₁ fun vs s₂ W₂ x₂ R₂ rs => ⟨T1.inn.keeps R₂.g.base, ?_⟩
  refine op_thrownF R₂.ok T A s₂ (un Z W₂) vs Q E rm R₂.ok R₂.g.base R₂.g.live rs fun ea s₃ G r nw => ?_
  exact q ea s₃ W₂ (x₁.trans (x₂.trans (ExtE.grow G))) (R₂.grow G) r (x₁.toExt.none (x₂.toExt.none nw))
theorem thrownF_ok {f : Addr} {x : Str} {ds : List D} (G : Gr c) (ok : CxOk c) (T : ThrownOk c CE CR) (F : FnIs c (dR 10).name (dR 10) [] f) : FnOkF c (k + 3) f [.str x, .tuple ds] γ CE (.tuple [.str "struct", .tuple [.str "name", .str x, .tuple []], .tuple ds]) :=
  fnF_ok ["name", "parts"] F (ρ₀ := upd (upd e0 "parts" (.d (.tuple ds))) "name" (.d (.str x))) rfl
    (evF_thrown T (evs_cons (ev_fcall (G.fn 9 (by decide)) (evs_cons (ev_name (by trivial)) (evs_cons (ev_name (by trivial)) evs_nil)) fun f F => error_value_ok G F) evs_nil))
theorem bounds_faultF_ok {f : Addr} {v : D} {is : List Int} (G : Gr c) (ok : CxOk c) (T : ThrownOk c CE CR) (hl : is.length ≤ 1000) (F : FnIs c (dR 24).name (dR 24) [] f) : FnOkF c (k + 4) f [v, .list (is.map D.int)] γ CE (faultD v is) := by
  refine fnF_ok ["value", "indices"] F (ρ₀ := upd (upd e0 "indices" (.d (.list (is.map D.int)))) "value" (.d v)) rfl
    (evF_fcall (G.fn 10 (by decide)) (evs_cons ev_str (evs_cons (ev_tuple (evs_cons (ev_name (by trivial)) (evs_cons (ev_tuple (evs_cons ev_str (evs_cons (ev_bcall G rfl (evs_cons (Ev.data (ev_lc (γ₂ := γ) (out := is.map intD) (σ := e0) (evit_data (ev_name (by trivial)) (.list _)) (by trivial) (by rw [List.length_map]; omega) ?_ (by trivial))) evs_nil) (op_tuple_list (by rw [List.length_map]; omega))) evs_nil)) (Nat.le_of_ble_eq_true rfl)) evs_nil)) (Nat.le_of_ble_eq_true rfl)) evs_nil)) fun f F => thrownF_ok G ok T F)
  exact ⟨_, comp_map D.int intD (fun i => upd e0 "index" (.d (.int i))) is fun i hi => ⟨as_name, ev_sub_v (ev_fcall G.int_value (evs_cons (ev_name (by trivial)) evs_nil) fun f F => int_value_ok F) (by trivial)⟩⟩
end
mutual
/-- no object of this data keeps its data in fields -/
noncomputable def D.nof : D → Bool
  | .none => true
  | .bool _ => true
  | .int _ => true
  | .str _ => true
  | .raw _ => true
  | .tuple ds => nofs ds
  | .list ds => nofs ds
  | .wlist ds => nofs ds
  | .inst _ _ ds => nofs ds
  | _ => false
noncomputable def nofs : List D → Bool
  | [] => true
  | d :: ds => d.nof && nofs ds
end
theorem nofs_map {α : Type} (g : α → D) : ∀ (l : List α), (∀ x ∈ l, (g x).nof = true) → nofs (l.map g) = true
  | [], _ => by simp [nofs]
  | a :: l, h => by rw [List.map_cons, nofs, h a (.head _), nofs_map g l fun x hx => h x (.tail _ hx)]; rfl
noncomputable abbrev plus (X : Addr → Prop) (e : Addr) : Addr → Prop := fun b => X b ∨ b = e
section
variable {X : Addr → Prop} {h : Heap} {e : Addr} {oe : Obj} {fs : Array Value}
theorem ne_of_data {a : Addr} {o : Obj} (he : h.get? e = some oe) (hf : oe.data = .fields fs) (ha : h.get? a = some o) (hn : ∀ vs, o.data ≠ .fields vs) : a ≠ e := by
  rintro rfl; rw [ha] at he; cases he; exact hn _ hf
mutual
theorem Rep.avoid (he : h.get? e = some oe) (hf : oe.data = .fields fs) : ∀ {v : Value} {d : D}, Rep X h v d → d.nof = true → Rep (plus X e) h v d
  | _, _, .none, _ => .none
  | _, _, .bool b, _ => .bool b
  | _, _, .int i t, _ => .int i t
  | _, _, .str x t, _ => .str x t
  | _, _, .raw v, _ => .raw v
  | _, _, .obj n q, hn => by simp [D.nof] at hn
  | _, _, .range n q, hn => by simp [D.nof] at hn
  | _, _, .exc _ _ _ _ _ _, hn => by simp [D.nof] at hn
  | _, _, .tuple n ⟨k, q⟩ rs, hn => .tuple (fun z => z.elim n (ne_of_data he hf q (by simp))) ⟨k, q⟩ (Reps.avoid he hf rs (by simpa [D.nof] using hn))
  | _, _, .list n ⟨k, q⟩ rs, hn => .list (fun z => z.elim n (ne_of_data he hf q (by simp))) ⟨k, q⟩ (Reps.avoid he hf rs (by simpa [D.nof] using hn))
  | _, _, .wlist n ⟨o, q, q1, k, q2⟩ rs, hn => .wlist (fun z => z.elim n (ne_of_data he hf q (by simp [q2]))) ⟨o, q, q1, k, q2⟩ (Reps.avoid he hf rs (by simpa [D.nof] using hn))
  | _, _, .inst n q m q' f nm rs, hn => .inst (fun z => z.elim n (ne_of_data he hf q (by simp [instObjOf]))) q (fun z => z.elim m (ne_of_data he hf q' (fun vs z => by have := nm "object" (by decide); unfold lookIn at this; rw [z] at this; cases this))) q' f nm (Reps.avoid he hf rs (by simpa [D.nof] using hn))
theorem Reps.avoid (he : h.get? e = some oe) (hf : oe.data = .fields fs) : ∀ {vs : List Value} {ds : List D}, Reps X h vs ds → nofs ds = true → Reps (plus X e) h vs ds
  | _, _, .nil, _ => .nil
  | _, _, .cons (d := d) (ds := ds) r rs, hn => by
    have hn' : d.nof = true ∧ nofs ds = true := by simpa [nofs] using hn
    exact .cons (Rep.avoid he hf r hn'.1) (Reps.avoid he hf rs hn'.2)
end
end
section
variable {c : Cx} {k : Nat} {S : Scope} {ρ ρ' ρ₁ ρ₂ ρ₃ σ : Vars} {γ γ' γ₁ γ₂ γ₃ : GS} {fn : Bool} {aM aT CT CH CE CR : Addr}
theorem nof_thing (l : List Int) : (thingD CT l).nof = true := by
  show nofs [.tuple (l.map D.int)] = true
  rw [nofs, D.nof, nofs_map _ _ fun x _ => by rfl]; rfl
theorem GRel.avoid {X : Addr → Prop} {s : Shared} {e : Addr} {oe : Obj} {fs : Array Value} (H : HM c aM aT CT) (g : GRel c γ X s) (he : s.heap.get? e = some oe) (hf : oe.data = .fields fs) (h0 : c.h0.get? e = none) : GRel c γ (plus X e) s := by
  refine ⟨g.base, fun b h => h.elim (g.xbase b) fun q => q ▸ h0, fun b h => h.elim (g.live b) fun q => ⟨oe, q ▸ he⟩, g.gens, g.os, g.drawn, fun b m => .inl (g.xM b m), g.mpl, ?_⟩
  have I := g.inv
  rw [H.inv] at I ⊢
  obtain ⟨a, vs, b, rs⟩ := I
  exact ⟨a, vs, b, rs.avoid he hf (nofs_map _ _ fun l _ => nof_thing l)⟩
theorem GRel.land {X X₂ N : Addr → Prop} {s₂ s' : Shared} (g : GRel c γ X₂ s₂) (sub : ∀ b, X b → X₂ b) (hM : ∀ b, c.M b → X b) (nX : ∀ b, N b → X₂ b) (nM : ∀ b, N b → ¬ c.M b)
    (kp : ∀ b o, ¬ N b → s₂.heap.get? b = some o → s'.heap.get? b = some o) (lv : ∀ b, N b → X b → ∃ o, s'.heap.get? b = some o) (e1 : s'.gens = s₂.gens) (e2 : s'.os = s₂.os) (e3 : s'.drawn = s₂.drawn) : GRel c γ X s' := by
  refine ⟨fun b o e => kp b o (fun n => by have := g.xbase b (nX b n); rw [e] at this; cases this) (g.base b o e), fun b h => g.xbase b (sub b h), fun b h => ?_, e1.trans g.gens, e2.trans g.os, e3.trans g.drawn, hM, fun b m => ?_, c.invCarry _ _ _ _ _ g.inv ⟨fun b o n e => kp b o (fun h => n (nX b h)) e, fun b o n _ x => n (sub b x)⟩ fun b o m e => kp b o (fun h => nM b h m) e⟩
  · by_cases n : N b
    · exact lv b n h
    · obtain ⟨o, e⟩ := g.live b (sub b h); exact ⟨o, kp b o n e⟩
  · obtain ⟨i, hi⟩ := g.mpl b m
    exact ⟨i, isList_at hi fun o e => kp b o (fun h => nM b h m) e⟩
theorem raise_exc {A : Around} {env : Env} {s : Shared} {Q : Flow → Shared → Prop} {E : Value → Shared → Prop} {e : Expr} {pos : Pos} (T : ThrownOk c CE CR) (hh : A.handled = none)
    (h : wpAny (model c.prog c.w) A (eval e env) (fun v s₁ => ∃ ea dx t, v = .ref ea ∧ (∀ b o, c.h0.get? b = some o → s₁.heap.get? b = some o) ∧ s₁.heap.get? ea = some (excObjOf CE dx t) ∧ E (.ref ea) s₁) E s) :
    wpAny (model c.prog c.w) A (exec (.Raise (some e) none pos) env) Q E s := by
  obtain ⟨K, fT, fR, bm, T1⟩ := T.k
  obtain ⟨nm, q, N, bs, sn, sub, ab, col, dd, k0, k1, k2, k3, k5, hC₀⟩ := T1.cls.obj
  have hcB : (Value.ref CE :: bm).contains (.type "BaseException") = true := by rw [List.contains_cons, T1.cls.hasB, Bool.or_true]
  show wpAny _ A (do standAt pos; raiseStmt env (some (do let v ← eval e env; standAt pos; pure v)) none) Q E s
  refine wpAny_bind (wpAny_standAt ?_)
  unfold raiseStmt
  dsimp only
  refine wpAny_bind (wpAny_bind (wpAny_mono h (fun v s₁ h₁ => wpAny_bind (wpAny_standAt (wpAny_pure ?_))) fun _ _ x => x))
  obtain ⟨ea, dx, t, rfl, base, he, hE⟩ := h₁
  have hC := T1.inn.keeps base _ _ hC₀
  unfold excObjOf at he
  obtain ⟨hp, g, d, tk, os⟩ := s₁
  repeat (first | with_reducible refine wpAny_loadPart_at he ?_ | with_reducible refine wpAny_loadPart_at hC ?_ | (with_reducible refine wpAny_isSubtype_exc hC ?_; rw [hcB]) | wp_step)
  exact wpAny_raiseNew_none hh hE
end
noncomputable abbrev fsOf (frs : List Env) : List Addr := frs.filterMap (·.frame)
structure Frs (A : Around) (frs : List Env) (X : Addr → Prop) (h : Heap) : Prop where
  stack : A.frames = some frs
  each : ∀ env ∈ frs, env.scope.kind = .function ∧ ∃ L m, env.frame = some L ∧ X L ∧ h.Ns L m
theorem Frs.at {A : Around} {frs : List Env} {X : Addr → Prop} {h : Heap} (F : Frs A frs X h) {b : Addr} (hb : b ∈ fsOf frs) : X b ∧ ∃ m, h.Ns b m := by
  obtain ⟨env, he, hf⟩ := List.mem_filterMap.mp hb
  obtain ⟨_, L, m, e1, e2, e3⟩ := F.each env he
  rw [e1] at hf; cases hf
  exact ⟨e2, m, e3⟩
theorem frs_fun {base h : Heap} : ∀ {frs : List Env}, (∀ env ∈ frs, env.scope.kind = .function ∧ ∃ L m, env.frame = some L ∧ h.Ns L m) → (∀ L ∈ fsOf frs, base.get? L = none) → h.FunFrames base frs
  | [], _, _ => trivial
  | env :: r, hh, hb => by
    obtain ⟨k, L, m, e1, e2⟩ := hh env (.head _)
    obtain ⟨o, es, ep, ho, hd, _⟩ := e2
    refine ⟨by rw [k]; decide, ⟨L, o, e1, hb L ?_, ho, fun vs q => by rw [hd] at q; cases q⟩, frs_fun (fun env he => hh env (.tail _ he)) fun L hL => hb L ?_⟩
    · exact List.mem_filterMap.mpr ⟨env, .head _, e1⟩
    · obtain ⟨env', he, hf⟩ := List.mem_filterMap.mp hL
      exact List.mem_filterMap.mpr ⟨env', .tail _ he, hf⟩
section
variable {c : Cx} {k : Nat} {S : Scope} {ρ ρ' ρ₁ ρ₂ ρ₃ σ : Vars} {γ γ' γ₁ γ₂ γ₃ : GS} {fn : Bool} {aM aT CT CH CE CR : Addr}
theorem then_run {st : Stmt} {b : List Stmt} (h1 : ExS c k S ρ γ st (.next ρ₁ γ₁)) {A : Around} {env : Env} {W Z : Addr → Prop} {s : Shared} {Q : Flow → Shared → Prop} {E : Value → Shared → Prop} (hs : env.scope = S) (hf : FnEnv env) (rm : Room A k) (R : Rel c γ env W Z ρ s)
    (h2 : ∀ s' W', Ext W s W' s' → Rel c γ₁ env W' Z ρ₁ s' → wpAny (model c.prog c.w) A (execs b env) Q E s') : wpAny (model c.prog c.w) A (execs (st :: b) env) Q E s :=
  wpAny_execs_cons (h1 A env W Z s _ E hs hf rm R h2)
theorem if_raise {test : Expr} {body orelse b : List Stmt} {pos : Pos} (h1 : TstE c k S ρ γ test true ρ₁ γ₁) {A : Around} {env : Env} {W Z : Addr → Prop} {s : Shared} {Q : Flow → Shared → Prop} {E : Value → Shared → Prop} (hs : env.scope = S) (rm : Room A k) (R : Rel c γ env W Z ρ s)
    (h2 : ∀ s' W' (Q' : Flow → Shared → Prop), ExtE env W s W' s' → Rel c γ₁ env W' Z ρ₁ s' → wpAny (model c.prog c.w) A (execs body env) Q' E s') : wpAny (model c.prog c.w) A (execs (.If test body orelse pos :: b) env) Q E s :=
  wpAny_execs_cons (wpAny_If (h1 A env W Z s _ E hs rm R fun s' W' x R' => h2 s' W' _ x R'))
theorem raise_run {e : Expr} {pos : Pos} {b : List Stmt} {d : D} (T : ThrownOk c CE CR) (h1 : EvF c k S ρ γ e CE d) {A : Around} {env : Env} {W Z : Addr → Prop} {s : Shared} {Q : Flow → Shared → Prop} {E : Value → Shared → Prop} (hs : env.scope = S) (rm : Room A k) (R : Rel c γ env W Z ρ s)
    (h2 : ∀ ea s' W', Ext W s W' s' → Rel c γ env W' Z ρ s' → Rep (un Z W') s'.heap (.ref ea) (.exc CE d) → s.heap.get? ea = none → E (.ref ea) s') : wpAny (model c.prog c.w) A (execs (.Raise (some e) none pos :: b) env) Q E s := by
  refine wpAny_execs_cons (raise_exc T rm.1 (h1 A env W Z s _ E hs rm R fun ea s' W' x R' r nw => ?_))
  have hE := h2 ea s' W' x.toExt R' r nw
  cases r with
  | exc n he m hd hl r => exact ⟨ea, _, _, rfl, R'.g.base, he, hE⟩
theorem nof_vw (v : Vw) : v.d.nof = true := by
  cases v with
  | arr a => simp [Vw.d, D.nof, nofs]
  | view a p ks ss =>
    show nofs [.str "view", .int a, .int p, .tuple (ks.map D.int), .tuple (ss.map D.int)] = true
    simp only [nofs, D.nof, nofs_map D.int _ fun x _ => rfl]; rfl
theorem nof_fault (v : Vw) (is : List Int) : (faultD v.d is).nof = true := by
  have e : nofs (is.map intD) = true := nofs_map _ _ fun x _ => by rfl
  show nofs [.str "struct", boundsD, .tuple [v.d, .tuple [.str "tuple", .tuple (is.map intD)]]] = true
  simp only [nofs, D.nof, nof_vw, e, boundsD]; rfl
structure Flown (c : Cx) (γ : GS) (X : Addr → Prop) (frs : List Env) (CE : Addr) (d : D) (s s₂ s₃ : Shared) (X₂ : Addr → Prop) (Lv ea dx : Addr) (od : Obj) (w : Value) : Prop where
  kept : KeptF c s s₂
  newE : s.heap.get? ea = none
  newL : s.heap.get? Lv = none
  g : GRel c γ X₂ s₂
  sub : ∀ b, X b → X₂ b
  xE : X₂ ea
  xL : X₂ Lv
  ns : ∃ m, s₂.heap.Ns Lv m
  rep : Rep X₂ s₂.heap w d
  dict : s₂.heap.get? dx = some od
  xdx : ¬ X₂ dx
  look : lookIn "value" od = some (some w)
  exc : ∃ oe vs, s₂.heap.get? ea = some oe ∧ oe.data = .fields vs
  fly : FlyAt (hideAll s₂.heap (ea :: Lv :: fsOf frs)) frs ea CE dx .none s₃.heap
  slots : s₂.heap.UpToSlots s₃.heap
  same : s₃ = { s₂ with heap := s₃.heap }
theorem view_of_fault {f : Addr} {v : Vw} {l : List Int} {ps : List Pt} (G : Gr c) (T : ThrownOk c CE CR) (H : HeapOk c CH aM aT CT) (F : FnIs c (dR 37).name (dR 37) [] f) (ok : VwOk γ v l) (sok : SzOk v l) (hp : ps.length = (v.sz l).length)
    (hN : ∃ t ∈ ps.zip (v.sz l), t.1.take t.2 = none) (hm : ∀ a s m, Pt.row a s m ∈ ps → -1000 ≤ m ∧ m ≤ 1000)
    {A : Around} {s : Shared} {X : Addr → Prop} {frs : List Env} {vs : List Value} {Q : Value → Shared → Prop} {E : Value → Shared → Prop} (rm : Room A (k + 6)) (okc : CxOk c) (g : GRel c γ X s) (Fr : Frs A frs X s.heap) (rs : Reps X s.heap vs [heapD CH aT, v.d, .list (ps.map Pt.d)])
    (q : ∀ s₂ s₃ X₂ Lv ea dx od w, Flown c γ X frs CE (faultD v.d ((ps.zip (v.sz l)).map fun t => t.1.edge t.2)) s s₂ s₃ X₂ Lv ea dx od w → E (.ref ea) s₃) : wpAny (model c.prog c.w) A (call (.ref f) vs) Q E s := by
  have rk := sok.rank
  obtain ⟨pl, hk, nd⟩ := chk_plain (d := dR 37) (names := ["heap", "value", "parts"]) rfl
  obtain ⟨fd, F', e1, e2, hd⟩ := F.fun pl
  have hd : fd.defaults = .none := hd.elim (·.2) fun q => absurd rfl q.1
  refine fn_raw (k := k + 5) (names := ["heap", "value", "parts"]) (ds := [heapD CH aT, v.d, .list (ps.map Pt.d)]) F' (fun s X vs _ _ rs => ⟨vs, rs, BindsTo.of_eq (by
      have hl : vs.length = 3 := rs.length
      unfold bindArgs; rw [e2, hd]; rcases vs with _ | ⟨_, _ | ⟨_, _ | ⟨_, _ | _⟩⟩⟩ <;> first | (simp at hl; done) | rfl)⟩) (fun x hx => by rw [e1]; exact hk x hx) (fun n x hx => cells_lookup n [] (.inl hx)) nd rfl rm okc g rs fun env W s₁ hsc fe hfr hL Gw hW hM R rm' => ?_
  rw [e1] at hsc
  let ρ₀ : Vars := upd (upd (upd e0 "parts" (.d (.list (ps.map Pt.d)))) "value" (.d v.d)) "heap" (.d (heapD CH aT))
  have R : Rel c γ env W X ρ₀ s₁ := R
  refine then_run (k := k + 5) (ρ₁ := upd ρ₀ "sizes" (.d (.ints (v.sz l)))) (γ₁ := γ) (ex_assign (ev_fcall (k := k + 4) (G.fn 28 (by decide)) (evs_cons (ev_name (by trivial)) (evs_cons (ev_name (by trivial)) evs_nil)) fun f F => sizes_of_ok G H F ok) as_name) hsc fe rm' R fun s₂ W₂ x₂ R₂ => ?_
  refine then_run (k := k + 5) (ρ₁ := upd ρ₀ "sizes" (.d (.ints (v.sz l)))) (γ₁ := γ) (ex_if_f (tst_is (tst_cmp (ev_bcall G rfl (evs_cons (ev_name (by trivial)) evs_nil) (op_len_list (by rw [List.length_map]; omega))) (ev_bcall G rfl (evs_cons (ev_name (by trivial)) evs_nil) (op_len_tuple (by rw [List.length_map]; omega))) op_nei) (by simp [hp])) ex_nil) hsc fe rm' R₂ fun s₃ W₃ x₃ R₃ => ?_
  let rows : List D := (ps.zip (v.sz l)).map fun t => rowD (t.1.take t.2)
  refine then_run (k := k + 5) (ρ₁ := upd (upd ρ₀ "sizes" (.d (.ints (v.sz l)))) "rows" (.own rows)) (γ₁ := γ) (ex_lc (γ₂ := γ) (out := rows) (σ := e0) (evit_zip2 (ev_builtin rfl (G.bi "zip" (by decide)) rfl) (evs_cons (ev_name (by trivial)) (evs_cons (ev_name (by trivial)) evs_nil)) (.list _) (.tuple _)) (by trivial) (by show ((ps.zip (v.sz l)).map _).length ≤ _; rw [List.length_map, List.length_zip]; omega) ?_ (by trivial)) hsc fe rm' R₃ fun s₄ W₄ x₄ R₄ => ?_
  · rw [zip_pts]
    refine ⟨_, comp_map ptD (fun t => rowD (t.1.take t.2)) (fun t => upd (upd e0 "part" (.d t.1.d)) "size" (.d (.int t.2))) _ fun t hm => ⟨as_tuple (asl_cons as_name (asl_cons as_name asl_nil)), ev_sub_v (ev_fcall (k := k + 4) (G.fn 34 (by decide)) (evs_cons (ev_name (by trivial)) (evs_cons (ev_name (by trivial)) evs_nil)) fun f F => taken_row_ok G F ?_) (by trivial)⟩⟩
    have := sok.small t.2 (List.of_mem_zip (show (t.1, t.2) ∈ _ from hm)).2
    constructor <;> omega
  obtain ⟨W₅, x₅, R₅⟩ := R₄.freeze upd_same
  have hin : (pys rows).any (fun y => PyData.eqv y D.none.py) = true := by
    obtain ⟨t, ht, hn⟩ := hN
    show (pys ((ps.zip (v.sz l)).map fun t => rowD (t.1.take t.2))).any _ = true
    rw [pys_map, List.any_map, List.any_eq_true]
    refine ⟨t, ht, ?_⟩
    show PyData.eqv (rowD (t.1.take t.2)).py D.none.py = true
    rw [hn]; rfl
  have hpure : pures 1 rows = true := pures_map 1 _ _ fun t _ => by
    cases t.1.take t.2 with
    | none => simp [rowD, D.pure]
    | some r => exact pure_rw 0 r
  let is : List Int := (ps.zip (v.sz l)).map fun t => t.1.edge t.2
  have his : is.length ≤ 1000 := by show ((ps.zip (v.sz l)).map _).length ≤ _; rw [List.length_map, List.length_zip]; omega
  let ρ₅ : Vars := upd (upd (upd ρ₀ "sizes" (.d (.ints (v.sz l)))) "rows" (.own rows)) "rows" (.d (.list rows))
  refine if_raise (k := k + 5) (ρ := ρ₅) (ρ₁ := ρ₅) (γ₁ := γ) (tst_is (tst_cmp ev_none (ev_name (by trivial)) (op_in_list (n := 1) (by decide +kernel) hpure)) hin) hsc rm' R₅ fun s₆ W₆ Q' x₆ R₆ => ?_
  refine raise_run (k := k + 5) (ρ := ρ₅) T (evF_fcall (k := k + 4) (G.fn 24 (by decide)) (evs_cons (ev_name (by trivial)) (evs_cons (ev_op (ev_fcall (k := k + 4) (G.fn 35 (by decide)) (evs_cons (ev_name (by trivial)) (evs_cons (ev_name (by trivial)) evs_nil)) fun f F => edge_indices_ok G F (by omega) hm) (by show D.list _ = D.list (is.map D.int); rw [List.map_map]; rfl)) evs_nil)) fun f F => bounds_faultF_ok G okc T his F) hsc rm' R₆ fun ea s₇ W₇ x₇ R₇ r nw => ?_
  have x : Ext W s₁ W₇ s₇ := ((((x₂.trans x₃).trans x₄).trans x₅).trans x₆.toExt).trans x₇
  have kept : KeptF c s s₇ := fun b o n z => x.keep b o (fun w => (hW b w).elim n fun q => by rw [q] at z; cases z) (Gw.keep b o z)
  have newE : s.heap.get? ea = none := (Ext.grow (W := W) Gw).none ((((((x₂.trans x₃).trans x₄).trans x₅).trans x₆.toExt)).none nw)
  cases r with
  | exc nE he ndx hd hl rw =>
  rename_i dx t od w
  have h0E : c.h0.get? ea = none := by
    cases z : c.h0.get? ea with
    | none => rfl
    | some o => rw [g.base _ _ z] at newE; cases newE
  have neL : env.locals ≠ ea := fun z => by
    obtain ⟨m, o, es, ep, h1, h2, _⟩ := R₇.ns
    rw [z, he] at h1; cases h1; cases h2
  have frX : ∀ L ∈ fsOf frs, X L := fun L h => (Fr.at h).1
  have nsFr : ∀ env' ∈ frs, env'.scope.kind = .function ∧ ∃ L m, env'.frame = some L ∧ s₇.heap.Ns L m := fun env' he' => by
    obtain ⟨k, L, m, e1, e2, e3⟩ := Fr.each env' he'
    exact ⟨k, L, m, e1, e3.at' fun o z => kept L o (fun q => by obtain ⟨i, hi⟩ := g.mpl L q; exact list_ne_ns hi e3 rfl) z⟩
  have hide : ∀ b, b = ea ∨ b = env.locals ∨ b ∈ fsOf frs → (hideAll s₇.heap (ea :: env.locals :: fsOf frs)).get? b = none := fun b h => hideAll_none _ (by rcases h with rfl | rfl | h <;> simp [*])
  have hff : s₇.heap.FunFrames (hideAll s₇.heap (ea :: env.locals :: fsOf frs)) (env :: frs) := by
    refine frs_fun (fun env' he' => ?_) fun L hL => ?_
    · rcases List.mem_cons.mp he' with rfl | he'
      · exact ⟨R₇.kind, _, _, hfr, R₇.ns.choose_spec⟩
      · exact nsFr env' he'
    · obtain ⟨env', he', hf'⟩ := List.mem_filterMap.mp hL
      rcases List.mem_cons.mp he' with rfl | he'
      · rw [hfr] at hf'; cases hf'; exact hide _ (.inr (.inl rfl))
      · exact hide _ (.inr (.inr (List.mem_filterMap.mpr ⟨env', he', hf'⟩)))
  have gE := R₇.g.avoid H.hm he rfl h0E
  refine fly_leave (C := CE) (dx := dx) (Around.frames_deeper Fr.stack) hff hfr (fun b o z => of_hideAll _ z) (hide _ (.inl rfl)) he rfl rfl rfl rfl fun h' Fl u => ?_
  refine q s₇ { s₇ with heap := h' } (plus (un X W₇) ea) env.locals ea dx od w ⟨kept, newE, hL, gE, fun b h => .inl (.inl h), .inr rfl, .inl (.inr R₇.wl), R₇.ns, rw.avoid he rfl (nof_fault v is), hd, ?_, hl, ⟨_, _, he, rfl⟩, Fl, u, rfl⟩
  rintro (z | z)
  · exact ndx z
  · rw [z, he] at hd; cases hd
    unfold lookIn at hl; cases hl
end
open Builtin Builtin.ObjectAttr
section
variable {prog : Program} {w : World} {A : Around} {E : Value → Shared → Prop} {K : Frag} {C : Addr} {bm : List Value} {s : Shared} {e : Addr} {ox od : Obj} {v : Value}
theorem exc_get {expr : Bool} {Q : Value → Shared → Prop} (X : K.In s.heap) (x : ExcCls K C bm) (I : InstAt s.heap e ox C (some od)) (hl : lookIn "value" od = some (some v)) (hh : handedIn v = true)
    (q : ∀ tk, Q v { s with toks := tk }) : wpAny (model prog w) A (getAttr (.ref e) "value" expr) Q E s := by
  obtain ⟨cd, hc, hm, hd⟩ := x.cd
  have hfo : findObj K C (some od) "value" = some (.value v) := by
    have ho : W.ownOf cd (some od) "value" = some (some v) := by unfold W.ownOf; rw [if_pos hd]; exact hl
    unfold findObj
    rw [hc, Option.bind_some, x.fd "value" (by decide), Option.bind_some, Option.bind_some, Option.bind_some]
    show ((W.ownOf cd (some od) "value").bind _) = _
    rw [ho]; rfl
  have FB := PySem.F.attr_Exception
  have L0 := I.type (M := model prog w)
  have L1 := looks_find (M := model prog w) X I hfo
  have Lga := looks_findIn (M := model prog w) X x.ga
  have Lgt := looks_findIn (M := model prog w) X x.gt
  have sub : Looks (model prog w) s.heap (isInstance (.ref e) (.type "BaseException")) true := L0.andThen (looks_mroIn X (by unfold mroIn; rw [hc, Option.bind_some, if_neg (by rw [hm]; exact Bool.false_ne_true), hm, List.contains_cons, x.hasB, Bool.or_true]))
  obtain ⟨hp, g, dr, t, os⟩ := s
  dsimp only at *
  refine wpAny_bind (wpAny_mkText (wpAny_holding (wpAny_bind (L0.at (wpAny_bind (Lga.at ?_))))))
  dsimp only
  have hx2 : (Value.builtin "BaseException.__getattribute__" == Value.builtin "object.__getattribute__") = false := by decide +kernel
  rw [hx2, Bool.and_false, if_neg (by decide)]
  have hb : Looks (model prog w) hp (hookBefore (.ref C)) none := Lgt
  refine wpAny_bind (hb.at (wpAny_bind (wpAny_attempt (wpAny_holding ?_))))
  unfold callGetattribute
  rw [show (expr && onTheHeap (Value.builtin "BaseException.__getattribute__")) = false from Bool.and_false _, if_neg (by decide)]
  unfold boundAndCalled
  rw [FB.ga.bind]
  refine wpAny_bind (wpAny_pure ?_)
  show wpAny _ _ (call (.builtin "BaseException.__getattribute__") [.ref e, .str "value" t]) _ _ _
  refine wpAny_call (codeAny_call_builtin FB.ga.plain PySem.F.entry_bexc_ga ?_)
  refine @check_slot (model prog w) _ _ ⟨hp, g, dr, t + 1, os⟩ "BaseException.__getattribute__" "BaseException" "__getattribute__" (.ref e) [.str "value" t] [] _ (by decide +kernel) (by decide +kernel) sub (PySem.F.args_bexc_ga (.ref e) (.str "value" t)) ?_
  unfold Builtin.«object.__getattribute__»
  refine wpAny_bind (wpAny_pure (wpAny_bind (wpAny_pure (wpAny_bind (L0.at (wpAny_bind (L1.at ?_)))))))
  refine wpAny_pure ?_
  show wpAny _ _ (handedOut v) _ _ _
  rw [handedOut_of hh]
  exact wpAny_pure (q _)
end
structure KeptS (c : Cx) (frs : List Env) (s s' : Shared) : Prop where
  keep : ∀ b o, ¬ c.M b → b ∉ fsOf frs → s.heap.get? b = some o → s'.heap.get? b = some o
  slot : ∀ b o, b ∈ fsOf frs → s.heap.get? b = some o → ∃ sl, s'.heap.get? b = some { o with slots := sl }
section
variable {c : Cx} {k : Nat} {S : Scope} {ρ ρ' ρ₁ ρ₂ ρ₃ σ : Vars} {γ γ' γ₁ γ₂ γ₃ : GS} {fn : Bool} {aM aT CT CH CE CR : Addr}
theorem not_nsM {X : Addr → Prop} {s : Shared} (g : GRel c γ X s) {L : Addr} {m : Str → Option Value} (n : s.heap.Ns L m) : ¬ c.M L := fun q => by obtain ⟨i, hi⟩ := g.mpl L q; exact list_ne_ns hi n rfl
theorem fcall_run {f : Addr} {x : Str} {p pos : Pos} {args : List Expr} {ds : List D} {A : Around} {env : Env} {W Z : Addr → Prop} {s : Shared} {Q : Value → Shared → Prop} {E : Value → Shared → Prop} (hm : c.mg x = some (.ref f)) (hf : FnAt c f) (h1 : Evs c k S ρ γ args ds ρ γ) (hs : env.scope = S) (rm : Room A k) (R : Rel c γ env W Z ρ s)
    (q : ∀ vs s' W', ExtE env W s W' s' → Rel c γ env W' Z ρ s' → Reps (un Z W') s'.heap vs ds → wpAny (model c.prog c.w) A (call (.ref f) vs) Q E s')
    (hx : S.names.lookup x = some .globalImplicit := by rfl) (hd : (x == ("__debug__" : Str)) = false := by decide)
    (hfe : ∀ env, eval (.Call (.Name x p) args [] pos) env = (do callWith pos (← eval (.Name x p) env) [] (backTo pos (starEach args env)) (backToKw pos (keywordEach [] env))) := by intro _; rfl)
    (hp : ∀ env, (backTo pos (starEach args env)).any (·.1) = false := by intro _; rfl) : wpAny (model c.prog c.w) A (eval (.Call (.Name x p) args [] pos) env) Q E s := by
  show wpAny _ A (eval (.Call (.Name x p) args [] pos) env) Q E s
  rw [hfe env]
  refine wpAny_bind ((ev_glob hx hm hd : EvE c k S ρ γ (.Name x p) _ ρ γ) A env W Z s _ E hs rm R fun v s₁ W₁ x₁ R₁ o₁ f₁ => ?_)
  rw [rep_raw o₁.1]
  obtain ⟨o, fd, ho, hd⟩ := hf
  refine callWith_function (o := o) (fd := fd) (evalArgs_of (hp env) (h1 pos A env W₁ Z s₁ _ E hs rm R₁ fun vs s₂ W₂ x₂ R₂ rs => ⟨⟨R₂.g.base _ _ ho, hd⟩, ?_⟩))
  exact q vs s₂ W₂ (x₁.trans x₂) R₂ rs
theorem law_fault_ok {f : Addr} {v : Vw} {l : List Int} {ps : List Pt} (G : Gr c) (T : ThrownOk c CE CR) (H : HeapOk c CH aM aT CT) (F : FnIs c (dR 50).name (dR 50) [] f) (ok : VwOk γ v l) (sok : SzOk v l) (hp : ps.length = (v.sz l).length)
    (hN : ∃ t ∈ ps.zip (v.sz l), t.1.take t.2 = none) (hm : ∀ a s m, Pt.row a s m ∈ ps → -1000 ≤ m ∧ m ≤ 1000)
    {A : Around} {s : Shared} {X : Addr → Prop} {frs : List Env} {vs : List Value} {Q : Value → Shared → Prop} {E : Value → Shared → Prop} (rm : Room A (k + 7)) (okc : CxOk c) (g : GRel c γ X s) (Fr : Frs A frs X s.heap) (rs : Reps X s.heap vs [heapD CH aT, v.d, .list (ps.map Pt.d)])
    (q : ∀ w s', KeptS c frs s s' → GRel c γ X s' → Rep X s'.heap w (faultD v.d ((ps.zip (v.sz l)).map fun t => t.1.edge t.2)) → Q w s') : wpAny (model c.prog c.w) A (call (.ref f) vs) Q E s := by
  obtain ⟨pl, hk, nd⟩ := chk_plain (d := dR 50) (names := ["heap", "value", "parts"]) rfl
  obtain ⟨fd, F', e1, e2, hd⟩ := F.fun pl
  have hd : fd.defaults = .none := hd.elim (·.2) fun q => absurd rfl q.1
  refine fn_raw (k := k + 6) (names := ["heap", "value", "parts"]) (ds := [heapD CH aT, v.d, .list (ps.map Pt.d)]) F' (fun s X vs _ _ rs => ⟨vs, rs, BindsTo.of_eq (by
      have hl : vs.length = 3 := rs.length
      unfold bindArgs; rw [e2, hd]; rcases vs with _ | ⟨_, _ | ⟨_, _ | ⟨_, _ | _⟩⟩⟩ <;> first | (simp at hl; done) | rfl)⟩) (fun x hx => by rw [e1]; exact hk x hx) (fun n x hx => cells_lookup n [] (.inl hx)) nd rfl rm okc g rs fun env W s₁ hsc fe hfr hL Gw hW hM R rm' => ?_
  rw [e1] at hsc
  let ρ₀ : Vars := upd (upd (upd e0 "parts" (.d (.list (ps.map Pt.d)))) "value" (.d v.d)) "heap" (.d (heapD CH aT))
  have R : Rel c γ env W X ρ₀ s₁ := R
  obtain ⟨fv, hfv, Fv⟩ := G.fn 37 (by decide)
  refine wpAny_execs_cons (wpAny_Try_except (wpAny_execs_cons (wpAny_Expr ?_ (interactive_fn R.kind) rfl)))
  refine fcall_run (k := k + 6) (S := (dR 50).scope) (ρ := ρ₀) hfv Fv.at (evs_cons (ev_name (by trivial)) (evs_cons (ev_name (by trivial)) (evs_cons (ev_name (by trivial)) evs_nil))) hsc rm' R fun vs' sc Wc xc Rc rsc => ?_
  have keptC : ∀ b o, ¬ c.M b → s.heap.get? b = some o → sc.heap.get? b = some o := fun b o n z => xc.keep b o (fun w => (hW b w).elim n fun q => by rw [q] at z; cases z) (Gw.keep b o z)
  have newC : ∀ b, sc.heap.get? b = none → s.heap.get? b = none := fun b e => (Ext.grow (W := W) Gw).none (xc.toExt.none e)
  have nL : env.locals ∉ fsOf frs := fun h => by
    obtain ⟨_, m, n⟩ := Fr.at h
    obtain ⟨o, ho⟩ := ns_live n
    rw [hL] at ho; cases ho
  have Fr' : Frs (A.deeper env) (env :: frs) (un X Wc) sc.heap := by
    refine ⟨Around.frames_deeper Fr.stack, fun env' he' => ?_⟩
    rcases List.mem_cons.mp he' with rfl | he'
    · obtain ⟨m, n⟩ := Rc.ns
      exact ⟨Rc.kind, _, m, hfr, .inr Rc.wl, n⟩
    · obtain ⟨ki, L, m, a1, a2, a3⟩ := Fr.each env' he'
      exact ⟨ki, L, m, a1, .inl a2, a3.at' fun o z => keptC L o (not_nsM g a3) z⟩
  refine view_of_fault (k := k) G T H Fv ok sok hp hN hm rm' okc Rc.g Fr' rsc fun s₂ s₃ X₂ Lv ea dx od w Fl => ?_
  obtain ⟨kept, newE, newL, g₂, sub, xE, xL, ⟨mv, nsV⟩, rep, dict, xdx, look, ⟨oe₂, vs₂, exc, excd⟩, fly, slots, same⟩ := Fl
  have hfs : fsOf (env :: frs) = env.locals :: fsOf frs := by unfold fsOf; rw [List.filterMap_cons, hfr]
  rw [hfs] at fly
  obtain ⟨h₃, rfl⟩ : ∃ h₃, s₃ = { s₂ with heap := h₃ } := ⟨_, same⟩
  obtain ⟨K, fT, fR, bm, T1⟩ := T.k
  obtain ⟨nm, qq, N, bs, sn, sub', ab, col, dd, k0, k1, k2, k3, k5, hC₀⟩ := T1.cls.obj
  have hid : ∀ b, b ∈ ea :: Lv :: env.locals :: fsOf frs → (hideAll s₂.heap (ea :: Lv :: env.locals :: fsOf frs)).get? b = none := fun b h => hideAll_none _ h
  have stay : ∀ b o, b ∉ ea :: Lv :: env.locals :: fsOf frs → s₂.heap.get? b = some o → (hideAll s₂.heap (ea :: Lv :: env.locals :: fsOf frs)).get? b = some o := fun b o n z => hideAll_get _ z n
  have base₂ : ∀ b o, c.h0.get? b = some o → (hideAll s₂.heap (ea :: Lv :: env.locals :: fsOf frs)).get? b = some o := fun b o z => by
    refine stay b o (fun h => ?_) (g₂.base b o z)
    have hx : X₂ b := by
      simp only [List.mem_cons] at h
      rcases h with rfl | rfl | rfl | h
      · exact xE
      · exact xL
      · exact sub _ (.inr Rc.wl)
      · exact sub _ (.inl (Fr.at h).1)
    rw [g₂.xbase b hx] at z; cases z
  have ndx : dx ∉ ea :: Lv :: env.locals :: fsOf frs := fun h => xdx (by
    simp only [List.mem_cons] at h
    rcases h with rfl | rfl | rfl | h
    · exact xE
    · exact xL
    · exact sub _ (.inr Rc.wl)
    · exact sub _ (.inl (Fr.at h).1))
  have nsL₂ : ∃ m, s₂.heap.Ns env.locals m := by
    obtain ⟨m, n⟩ := Rc.ns
    exact ⟨m, n.at' fun o z => kept env.locals o (not_nsM Rc.g n) z⟩
  refine fly_next (s := { s₂ with heap := h₃ }) (C := CE) (dx := dx) (Around.frames_deeper Fr.stack) hfr fly fun h₄ F₄ u₄ => ?_
  refine fly_set (s := { s₂ with heap := h₄ }) F₄ fun h₅ F₅ u₅ => ?_
  have uA : s₂.heap.UpToSlots h₅ := slots.trans (u₄.trans u₅)
  refine wpAny_handleBy_cons (codeAny_handlers_test ?_) (by intro q; cases q)
  have Ng₅ : h₅.Ns env.globals c.mg := R.gl ▸ okc.g.keeps fun b o z => F₅.1 b o (base₂ b o z)
  refine Name_function_global R.kind (by unfold Env.kindOf; rw [hsc]; rfl) (loadGlobal_global Ng₅ T.globT ?_) (by decide)
  have F₅' := F₅
  obtain ⟨st₅, _, _, oe, vs₅, T₅, oT, ts, he, hc, hdx, hdd, _⟩ := F₅
  have hC₅ : h₅.get? CE = some _ := st₅ _ _ (base₂ _ _ (T1.inn _ _ hC₀))
  refine wpAny_excMatches_sub_self hC₅ he hc T1.cls.hasB ?_
  refine codeAny_handlers_suite_as ?_
  refine fly_set (s := { s₂ with heap := h₅ }) F₅' fun h₆ F₆ u₆ => ?_
  obtain ⟨m₆, ns₆⟩ : ∃ m, h₆.Ns env.locals m := by
    obtain ⟨m, n⟩ := nsL₂
    exact ⟨m, (uA.trans u₆).ns n⟩
  have hkE : env.kindOf "error" = some .local := by unfold Env.kindOf; rw [hsc]; rfl
  refine wpAny_storeName_local hkE (s := { s₂ with heap := h₆ }) ns₆ (fun h₇ ns₇ sb₇ => ?_) (by rw [R.kind]; rfl)
  obtain ⟨st₆, _, _, oe, vs₆, T₆, oT, ts, he, hc, hdx, hdd, _⟩ := F₆
  have neE : ea ≠ env.locals := fun z => by
    obtain ⟨o, es, ep, h1, h2, _⟩ := ns₆
    rw [← z, he] at h1; cases h1; rw [hdd] at h2; cases h2
  have hidL : (hideAll s₂.heap (ea :: Lv :: env.locals :: fsOf frs)).get? env.locals = none := hid _ (by simp)
  have st₇ : ∀ b o, (hideAll s₂.heap (ea :: Lv :: env.locals :: fsOf frs)).get? b = some o → h₇.get? b = some o := fun b o z => (sb₇.2 b fun q => by rw [q, hidL] at z; cases z).trans (st₆ b o z)
  have he₇ : h₇.get? ea = some oe := (sb₇.2 ea neE).trans he
  refine wpAny_execs_cons (wpAny_Return_some (Attribute_any_ (looks_name (v := .ref ea) R.kind (by rw [hsc]; rfl) ns₇ (if_pos rfl) ?_ (by decide))))
  have Id : InstAt h₇ ea oe CE (some od) := ⟨he₇, hc, by unfold notCls; rw [hdd], by rw [hdx]; exact st₇ _ _ (stay _ _ ndx dict)⟩
  have hw : handedIn w = true := by
    obtain ⟨a, ws, rfl, _⟩ := rep_tuple rep; rfl
  refine exc_get (s := { s₂ with heap := h₇, toks := _ }) (T1.inn.keeps fun b o z => st₇ b o (base₂ b o z)) T1.cls Id look hw fun tk₈ => ?_
  refine wpAny_nameGoes (s := { s₂ with heap := h₇, toks := _ }) hkE ns₇ (by rw [R.kind]; rfl) fun h₉ m₉ ns₉ sb₉ => ?_
  have kp : ∀ b o, b ∉ ea :: Lv :: env.locals :: fsOf frs → s₂.heap.get? b = some o → h₉.get? b = some o := fun b o n z => (sb₉.2 b fun q => n (by rw [q]; simp)).trans (st₇ b o (stay b o n z))
  have slot : ∀ b o, b ∈ fsOf frs → s₂.heap.get? b = some o → (∀ vs, o.data ≠ .fields vs) → ∃ sl, h₉.get? b = some { o with slots := sl } := fun b o hb z hn => by
    obtain ⟨sl, hs⟩ := (uA.trans u₆) b o z hn
    have ne : b ≠ env.locals := fun q => nL (q ▸ hb)
    exact ⟨sl, (sb₉.2 b ne).trans ((sb₇.2 b ne).trans hs)⟩
  have nfr : ∀ b ∈ fsOf frs, ∀ o, s.heap.get? b = some o → (∀ vs, o.data ≠ .fields vs) := fun b hb o z vs q => by
    obtain ⟨_, m, o', es, ep, h1, h2, _⟩ := Fr.at hb
    rw [z] at h1; cases h1; rw [q] at h2; cases h2
  have toS₂ : ∀ b o, ¬ c.M b → s.heap.get? b = some o → s₂.heap.get? b = some o := fun b o n z => kept b o n (keptC b o n z)
  have out : ∀ b o, s.heap.get? b = some o → b ∉ fsOf frs → b ∉ ea :: Lv :: env.locals :: fsOf frs := fun b o z n h => by
    simp only [List.mem_cons] at h
    rcases h with rfl | rfl | rfl | h
    · rw [newC _ newE] at z; cases z
    · rw [newC _ newL] at z; cases z
    · rw [hL] at z; cases z
    · exact n h
  have gX : ∀ b, X b → ∃ o, s.heap.get? b = some o := g.live
  refine q w _ ⟨fun b o nM n z => kp b o (out b o z n) (toS₂ b o nM z), fun b o hb z => slot b o hb (toS₂ b o (fun qM => by obtain ⟨_, m, n⟩ := Fr.at hb; exact not_nsM g n qM) z) (nfr b hb o z)⟩ ?_ ?_
  · refine g₂.land (N := fun b => b ∈ ea :: Lv :: env.locals :: fsOf frs) (fun b h => sub b (.inl h)) g.xM (fun b h => ?_) (fun b h => ?_) kp (fun b h hX => ?_) rfl rfl rfl
    · simp only [List.mem_cons] at h
      rcases h with rfl | rfl | rfl | h
      · exact xE
      · exact xL
      · exact sub _ (.inr Rc.wl)
      · exact sub _ (.inl (Fr.at h).1)
    · simp only [List.mem_cons] at h
      rcases h with rfl | rfl | rfl | h
      · intro qM
        obtain ⟨i, o, h1, _, n', h2⟩ := g₂.mpl _ qM
        rw [exc] at h1; cases h1; rw [excd] at h2; cases h2
      · exact not_nsM g₂ nsV
      · exact not_nsM g₂ nsL₂.choose_spec
      · obtain ⟨_, m, n⟩ := Fr.at h; exact not_nsM g n
    · by_cases hb : b ∈ fsOf frs
      · obtain ⟨o, ho⟩ := gX b hX
        obtain ⟨sl, hs⟩ := slot b o hb (toS₂ b o (fun qM => by obtain ⟨_, m, n⟩ := Fr.at hb; exact not_nsM g n qM) ho) (nfr b hb o ho)
        exact ⟨_, hs⟩
      · obtain ⟨o, ho⟩ := gX b hX
        exact absurd h (out b o ho hb)
  · refine Rep.carry ⟨fun b o n z => kp b o (fun h => n ?_) z, fun b o n z hX => n (sub b (.inl hX))⟩ rep
    simp only [List.mem_cons] at h
    rcases h with rfl | rfl | rfl | h
    · exact xE
    · exact xL
    · exact sub _ (.inr Rc.wl)
    · exact sub _ (.inl (Fr.at h).1)
end
section
variable {c : Cx} {k : Nat} {S : Scope} {ρ ρ' ρ₁ ρ₂ ρ₃ σ : Vars} {γ γ' γ₁ γ₂ γ₃ : GS} {fn : Bool} {aM aT CT CH CE CR : Addr}
theorem Rel.callS {env : Env} {W Z : Addr → Prop} {s s' : Shared} {frs : List Env} (R : Rel c γ env W Z ρ s) (kp : KeptS c frs s s') (hfr : ∀ b ∈ fsOf frs, un Z W b ∧ ∃ m, s.heap.Ns b m) (g : GRel c γ' (un Z W) s') :
    Rel c γ' env W Z ρ s' ∧ (∀ x v, VarAt env s.heap x v → VarAt env s'.heap x v) := by
  have nsK : ∀ L m, ¬ c.M L → s.heap.Ns L m → s'.heap.Ns L m := fun L m nM n => by
    by_cases h : L ∈ fsOf frs
    · obtain ⟨o, es, ep, ho, hd, r⟩ := n
      obtain ⟨sl, hs⟩ := kp.slot L o h ho
      exact ⟨_, es, ep, hs, hd, r⟩
    · exact n.at' fun o e => kp.keep L o nM h e
  obtain ⟨m, hn⟩ := R.ns
  have nl : ¬ c.M env.locals := R.nML
  have nc : ∀ a v, s.heap.IsCell a v → ¬ c.M a := fun a v h => R.g.Mc h
  have cy : Carry (un Z W) s.heap (un Z W) s'.heap := ⟨fun b o n e => kp.keep b o (R.g.nml n) (fun h => n (hfr b h).1) e, fun _ _ n _ => n⟩
  have hn' : s'.heap.Ns env.locals m := nsK _ _ nl hn
  have hc' : ∀ a v, s.heap.IsCell a v → s'.heap.IsCell a v := fun a v h => by
    have nf : a ∉ fsOf frs := fun q => by obtain ⟨_, m', n'⟩ := hfr a q; exact cell_ne_ns h n' rfl
    obtain ⟨o, e, d⟩ := h
    exact ⟨o, kp.keep a o (nc a v ⟨o, e, d⟩) nf e, d⟩
  have nm : ∀ x v, VarAt env s.heap x v → VarAt env s'.heap x v := fun x v a => by
    unfold VarAt at a ⊢
    split
    · rename_i e; rw [e] at a; obtain ⟨m', n', q⟩ := a; cases ns_unique hn n'; exact ⟨m, hn', q⟩
    · rename_i e; rw [e] at a; obtain ⟨b, l, q⟩ := a; exact ⟨b, l, hc' _ _ q⟩
    · rename_i e; rw [e] at a; obtain ⟨b, l, q⟩ := a; exact ⟨b, l, hc' _ _ q⟩
    · split at a <;> simp_all
  refine ⟨⟨R.ok, g, R.kind, R.gl, R.bl, ⟨m, hn'⟩, R.wl, R.wM, R.cinj, fun x a q => let ⟨v, h⟩ := R.cell x a q; ⟨v, hc' _ _ h⟩, R.cw, fun x u q => ?_, fun x y ds es v q1 q2 a1 a2 => ?_⟩, nm⟩
  · obtain ⟨v, a, r⟩ := R.vars x u q
    exact ⟨v, nm _ _ a, r.carry cy (fun _ h => h) (fun _ _ z _ => z) fun l _ nM items i => ol_at i fun o e => kp.keep l o nM (fun q => by obtain ⟨_, m', n'⟩ := hfr l q; exact list_ne_ns i.isList n' rfl) e⟩
  · obtain ⟨v1, b1, _⟩ := R.vars x _ q1
    obtain ⟨v2, b2, _⟩ := R.vars y _ q2
    have e1 := VarAt.unique (nm _ _ b1) a1
    have e2 := VarAt.unique (nm _ _ b2) a2
    subst e1; subst e2
    exact R.oinj x y ds es _ q1 q2 b1 b2
theorem KeptF.toS {A : Around} {X : Addr → Prop} {frs : List Env} {s s' : Shared} (g : GRel c γ X s) (Fr : Frs A frs X s.heap) (kp : KeptF c s s') : KeptS c frs s s' :=
  ⟨fun b o n _ z => kp b o n z, fun b o hb z => ⟨o.slots, kp b o (fun q => by obtain ⟨_, m, n⟩ := Fr.at hb; exact not_nsM g n q) z⟩⟩
noncomputable def beyondPt (i z : Int) : Pt × Int := if i = 0 then (.one (z + 1), z + 1) else if i = 1 then (.row 1 1 (z + 1), z + 1) else if i = 2 then (.row 0 1 1, 0) else (.row z (-1) (z + 1), 0)
theorem beyond_take {i z : Int} (hz : 0 < z) : (beyondPt i z).1.take z = none := by
  unfold beyondPt
  split
  · simp only [Pt.take]; rw [if_neg (by omega)]
  · split
    · simp only [Pt.take]; rw [if_neg (by omega), if_pos (by omega)]
    · split
      · simp only [Pt.take]; rw [if_neg (by omega), if_neg (by omega), if_neg (by omega)]
      · simp only [Pt.take]; rw [if_neg (by omega), if_pos (by omega)]
theorem beyond_edge {i z : Int} (hz : 0 < z) : (beyondPt i z).1.edge z = (beyondPt i z).2 := by
  unfold beyondPt
  split
  · rfl
  · split
    · simp only [Pt.edge]; rw [if_pos (by omega)]; omega
    · split
      · simp only [Pt.edge]; rw [if_neg (by omega)]
      · simp only [Pt.edge]; rw [if_pos (by omega)]; omega
noncomputable def beyondOf (γ : GS) (sz : List Int) : GS := if sz = [] then γ else (knot (knot γ sz.length).2 4).2
theorem beyondOf_th (γ : GS) (sz : List Int) : (beyondOf γ sz).th = γ.th := by
  unfold beyondOf; split
  · rfl
  · rw [knot_th, knot_th]
theorem pure_int (n : Nat) (i : Int) : (D.int i).pure n = true := by cases n <;> simp [D.pure]
theorem pures_ints (n : Nat) (l : List Int) : pures n (l.map D.int) = true := pures_map n _ _ fun x _ => pure_int n x
theorem pure_ints (n : Nat) (l : List Int) : (D.ints l).pure (n + 1) = true := by show D.pure (n + 1) (.tuple (l.map D.int)) = true; simp only [D.pure, pures_ints]
end
section
variable {c : Cx} {k : Nat} {S : Scope} {ρ ρ' ρ₁ ρ₂ ρ₃ σ : Vars} {γ γ' γ₁ γ₂ γ₃ : GS} {fn : Bool} {aM aT CT CH CE CR : Addr}
theorem VwOk.th {v : Vw} {l : List Int} (h : VwOk γ v l) (e : γ'.th = γ.th) : VwOk γ' v l := ⟨by rw [e]; exact h.at_, by rw [e]; exact h.many, h.rank, h.small⟩
theorem below_get {n : Nat} {i : Nat} (h : i < n) : (below n)[i]? = some (i : Int) := by
  unfold below
  rw [ifrom_get _ _ _ (by simpa using h), Int.zero_add]
noncomputable def ptsOf (rank : Int) (p : Pt) (l : List Int) : List Pt := (below l.length).map fun a => if a = rank then p else .all
theorem ptsOf_length (rank : Int) (p : Pt) (l : List Int) : (ptsOf rank p l).length = l.length := by unfold ptsOf; rw [List.length_map, below_length]; omega
theorem ptsOf_edge (rank : Int) (p : Pt) (z ix : Int) (l : List Int) (h0 : 0 ≤ rank) (hz : l[rank.toNat]? = some z) (he : p.edge z = ix) : ((ptsOf rank p l).zip l).map (fun t => t.1.edge t.2) = (below l.length).map fun a => if a = rank then ix else 1 := by
  apply List.ext_getElem?
  intro i
  rcases Nat.lt_or_ge i l.length with hi | hi
  · rw [List.getElem?_map, List.getElem?_map, below_get hi]
    have e1 : (ptsOf rank p l)[i]? = some (if (i : Int) = rank then p else .all) := by unfold ptsOf; rw [List.getElem?_map, below_get hi]; rfl
    have e2 : l[i]? = some l[i] := List.getElem?_eq_getElem hi
    have e3 : ((ptsOf rank p l).zip l)[i]? = some (if (i : Int) = rank then p else .all, l[i]) := by rw [List.getElem?_zip_eq_some]; exact ⟨e1, e2⟩
    rw [e3]
    show some (Pt.edge l[i] (if (i : Int) = rank then p else .all)) = some (if (i : Int) = rank then ix else 1)
    congr 1
    by_cases q : (i : Int) = rank
    · rw [if_pos q, if_pos q]
      have : rank.toNat = i := by omega
      rw [this, e2] at hz; cases hz; exact he
    · rw [if_neg q, if_neg q]; rfl
  · rw [List.getElem?_map, List.getElem?_map, List.getElem?_eq_none (by rw [List.length_zip]; omega), List.getElem?_eq_none (by rw [below_length]; omega)]; rfl
theorem pts_none (rank : Int) (p : Pt) (z : Int) (l : List Int) (h0 : 0 ≤ rank) (hz : l[rank.toNat]? = some z) (ht : p.take z = none) : ∃ t ∈ (ptsOf rank p l).zip l, t.1.take t.2 = none := by
  have hi : rank.toNat < l.length := by
    rcases Nat.lt_or_ge rank.toNat l.length with q | q
    · exact q
    · rw [List.getElem?_eq_none q] at hz; cases hz
  have e1 : (ptsOf rank p l)[rank.toNat]? = some p := by
    unfold ptsOf; rw [List.getElem?_map, below_get hi]
    show some (if ((rank.toNat : Nat) : Int) = rank then p else .all) = _
    rw [if_pos (by omega)]
  have e3 : ((ptsOf rank p l).zip l)[rank.toNat]? = some (p, z) := by rw [List.getElem?_zip_eq_some]; exact ⟨e1, hz⟩
  exact ⟨_, List.mem_of_getElem? e3, ht⟩
theorem pts_row (rank : Int) (p : Pt) (l : List Int) {a s m : Int} (h : Pt.row a s m ∈ ptsOf rank p l) : p = .row a s m := by
  obtain ⟨i, _, e⟩ := List.mem_map.mp h
  split at e
  · exact e
  · cases e
theorem beyond_m {i z a s m : Int} (hz : 0 < z ∧ z ≤ 4) (h : (beyondPt i z).1 = .row a s m) : -1000 ≤ m ∧ m ≤ 1000 := by
  unfold beyondPt at h
  split at h
  · cases h
  · split at h
    · cases h; omega
    · split at h
      · cases h; omega
      · cases h; omega
noncomputable def toldD (rank ix : Int) (n : Nat) : D := .tuple (((below n).map fun a => if a = rank then ix else 1).map intD)
theorem pure_str {x : Str} (h : (D.str x).py.canLay0 = true) (n : Nat) : (D.str x).pure n = true := by cases n <;> exact h
theorem pure_tup {ds : List D} {n : Nat} (h : pures n ds = true) : (D.tuple ds).pure (n + 1) = true := by simpa [D.pure] using h
theorem pures_one {d : D} {ds : List D} {n : Nat} (h1 : d.pure n = true) (h2 : pures n ds = true) : pures n (d :: ds) = true := by simp only [pures, h1, h2]; rfl
theorem pures_no {n : Nat} : pures n [] = true := by simp only [pures]
theorem pure_intD (x : Int) (n : Nat) : (intD x).pure (n + 1) = true := pure_tup (pures_one (pure_str (by decide +kernel) _) (pures_one (pure_str (by decide +kernel) _) (pures_one (pure_int _ _) pures_no)))
theorem pure_vw (v : Vw) (n : Nat) : v.d.pure (n + 2) = true := by
  cases v with
  | arr a => exact pure_tup (pures_one (pure_str (by decide +kernel) _) (pures_one (pure_int _ _) pures_no))
  | view a p ks ss => exact pure_tup (pures_one (pure_str (by decide +kernel) _) (pures_one (pure_int _ _) (pures_one (pure_int _ _) (pures_one (pure_ints _ _) (pures_one (pure_ints _ _) pures_no)))))
theorem pure_ds (is : List Int) (n : Nat) : (D.tuple (is.map intD)).pure (n + 2) = true := pure_tup (pures_map _ _ _ fun x _ => pure_intD x n)
theorem pure_fault (v : Vw) (is : List Int) : (faultD v.d is).pure 5 = true :=
  pure_tup (pures_one (pure_str (by decide +kernel) _) (pures_one (by decide +kernel) (pures_one (pure_tup (pures_one (pure_vw v 1) (pures_one (pure_tup (pures_one (pure_str (by decide +kernel) _) (pures_one (pure_ds is 0) pures_no))) pures_no))) pures_no)))
end
section
variable {c : Cx} {k : Nat} {S : Scope} {ρ ρ' ρ₁ ρ₂ ρ₃ σ : Vars} {γ γ' γ₁ γ₂ γ₃ : GS} {fn : Bool} {aM aT CT CH CE CR : Addr}
theorem eqv_nil (z : Int) (l : List Int) : PyData.eqv (D.ints (z :: l)).py (D.tuple []).py = false := by
  rw [show (D.ints (z :: l)).py = .tuple (pys ((z :: l).map D.int)) from py_tuple _, py_tuple]; rfl
theorem evE_run {e : Expr} {u : V} {A : Around} {env : Env} {W Z : Addr → Prop} {s : Shared} {Q : Value → Shared → Prop} {E : Value → Shared → Prop} (h : EvE c k S ρ γ e u ρ₁ γ₁) (hs : env.scope = S) (rm : Room A k) (R : Rel c γ env W Z ρ s)
    (q : ∀ v s' W', ExtE env W s W' s' → Rel c γ₁ env W' Z ρ₁ s' → VOk c env W' Z ρ₁ s' v u → FreshV s v u → Q v s') : wpAny (model c.prog c.w) A (eval e env) Q E s := h A env W Z s Q E hs rm R q
set_option maxHeartbeats 2000000 in
theorem beyond_ok {f : Addr} {v : Vw} {l : List Int} (G : Gr c) (T : ThrownOk c CE CR) (H : HeapOk c CH aM aT CT) (F : FnIs c (dR 51).name (dR 51) [] f) (ok : VwOk γ v l) (sok : SzOk v l)
    {A : Around} {s : Shared} {X : Addr → Prop} {frs : List Env} {vs : List Value} {Q : Value → Shared → Prop} {E : Value → Shared → Prop} (rm : Room A (k + 9)) (okc : CxOk c) (g : GRel c γ X s) (Fr : Frs A frs X s.heap) (rs : Reps X s.heap vs [.raw (.ref aM), heapD CH aT, v.d])
    (q : ∀ s', KeptS c frs s s' → GRel c (beyondOf γ (v.sz l)) X s' → Q (.bool true) s') : wpAny (model c.prog c.w) A (call (.ref f) vs) Q E s := by
  have rk := sok.rank
  obtain ⟨pl, hk, nd⟩ := chk_plain (d := dR 51) (names := ["mast", "heap", "view"]) rfl
  obtain ⟨fd, F', e1, e2, hd⟩ := F.fun pl
  have hd : fd.defaults = .none := hd.elim (·.2) fun q => absurd rfl q.1
  refine fn_raw (k := k + 8) (names := ["mast", "heap", "view"]) (ds := [.raw (.ref aM), heapD CH aT, v.d]) F' (fun s X vs _ _ rs => ⟨vs, rs, BindsTo.of_eq (by
      have hl : vs.length = 3 := rs.length
      unfold bindArgs; rw [e2, hd]; rcases vs with _ | ⟨_, _ | ⟨_, _ | ⟨_, _ | _⟩⟩⟩ <;> first | (simp at hl; done) | rfl)⟩) (fun x hx => by rw [e1]; exact hk x hx) (fun n x hx => cells_lookup n [] (.inl hx)) nd rfl rm okc g rs fun env W s₁ hsc fe hfr hL Gw hW hM R rm' => ?_
  rw [e1] at hsc
  let ρ₀ : Vars := upd (upd (upd e0 "view" (.d v.d)) "heap" (.d (heapD CH aT))) "mast" (.d (.raw (.ref aM)))
  have R : Rel c γ env W X ρ₀ s₁ := R
  let ρ₁ : Vars := upd ρ₀ "sizes" (.d (.ints (v.sz l)))
  refine then_run (k := k + 8) (ρ₁ := ρ₁) (γ₁ := γ) (ex_assign (ev_fcall (k := k + 7) (G.fn 28 (by decide)) (evs_cons (ev_name (by trivial)) (evs_cons (ev_name (by trivial)) evs_nil)) fun f F => sizes_of_ok G H F ok) as_name) hsc fe rm' R fun s₂ W₂ x₂ R₂ => ?_
  by_cases hz : v.sz l = []
  · have hg : beyondOf γ (v.sz l) = γ := by unfold beyondOf; rw [if_pos hz]
    rw [hg] at q
    have body : ExS c (k + 8) (dR 51).scope ρ₁ γ (nthSt (dR 51).body 1) (.ret (.bool true) γ) := ex_if_t (tst_is (tst_cmp (ev_name (by trivial)) (ev_tuple evs_nil) (op_eq (n := 1) (pure_ints 0 _) (by decide +kernel))) (by rw [hz]; rfl)) (ex_ret (ex_return ev_bool))
    refine wpAny_execs_cons (body (A.deeper env) env W₂ X s₂ _ _ hsc fe rm' R₂ fun w s₃ W₃ x₃ g₃ r₃ => ?_)
    rw [rep_bool r₃]
    have x : Ext W s₁ W₃ s₃ := x₂.trans x₃
    refine q s₃ (KeptF.toS g Fr fun b o n z => x.keep b o (fun w => (hW b w).elim n fun q => by rw [q] at z; cases z) (Gw.keep b o z)) (g₃.less (fun b h => .inl h) g.xM)
  · obtain ⟨z, r, hzr⟩ : ∃ z r, v.sz l = z :: r := by cases e : v.sz l with | nil => exact absurd e hz | cons z r => exact ⟨z, r, rfl⟩
    have hg : beyondOf γ (v.sz l) = (knot (knot γ (v.sz l).length).2 4).2 := by unfold beyondOf; rw [if_neg hz]
    rw [hg] at q
    have ln : 0 < (v.sz l).length := by rw [hzr]; simp
    have kb := knot_bound γ (many := (v.sz l).length) (by omega)
    have ib := knot_bound (knot γ (v.sz l).length).2 (show (0 : Int) < 4 by decide)
    have th1 : (knot γ (v.sz l).length).2.th = γ.th := knot_th _ _
    have th2 : (knot (knot γ (v.sz l).length).2 4).2.th = γ.th := (knot_th _ _).trans th1
    refine then_run (k := k + 8) (ρ₁ := ρ₁) (γ₁ := γ) (ex_if_f (tst_is (tst_cmp (ev_name (by trivial)) (ev_tuple evs_nil) (op_eq (n := 1) (pure_ints 0 _) (by decide +kernel))) (by rw [hzr]; exact eqv_nil z r)) ex_nil) hsc fe rm' R₂ fun s₃ W₃ x₃ R₃ => ?_
    refine then_run (k := k + 8) (ρ₁ := upd ρ₁ "rank" (.d (.int (knot γ (v.sz l).length).1))) (γ₁ := (knot γ (v.sz l).length).2) (ex_assign (ev_fcall (k := k + 7) (G.fn 41 (by decide)) (evs_cons (ev_name (by trivial)) (evs_cons (ev_bcall G rfl (evs_cons (ev_name (by trivial)) evs_nil) (op_len_tuple (by rw [List.length_map]; omega))) evs_nil)) fun f F => by rw [List.length_map]; exact knot_ok G H.hm F (by omega) (by omega)) as_name) hsc fe rm' R₃ fun s₄ W₄ x₄ R₄ => ?_
    generalize hrank : (knot γ (v.sz l).length).1 = rank at kb R₄ ⊢
    generalize hγ₁ : (knot γ (v.sz l).length).2 = γ₁ at q ib th1 th2 R₄ ⊢
    obtain ⟨sz, hsz⟩ : ∃ sz, (v.sz l)[rank.toNat]? = some sz := ⟨_, List.getElem?_eq_getElem (by omega)⟩
    have szb := sok.small sz (List.mem_of_getElem? hsz)
    have ok₁ := ok.th th1
    refine then_run (k := k + 8) (ρ₁ := upd (upd ρ₁ "rank" (.d (.int rank))) "size" (.d (.int sz))) (γ₁ := γ₁) (ex_assign (ev_sub (ev_name (by trivial)) (ev_name (by trivial)) (op_item_tuple (d := .int sz) kb.1 (by rw [List.getElem?_map, hsz]; rfl) (fun _ _ => rfl) (by rw [List.length_map]; omega))) as_name) hsc fe rm' R₄ fun s₅ W₅ x₅ R₅ => ?_
    let ρ₅ : Vars := upd (upd ρ₁ "rank" (.d (.int rank))) "size" (.d (.int sz))
    let bp := beyondPt (knot γ₁ 4).1 sz
    refine then_run (k := k + 8) (ρ := ρ₅) (ρ₁ := upd (upd ρ₅ "part" (.d bp.1.d)) "index" (.d (.int bp.2))) (γ₁ := (knot γ₁ 4).2) (ex_assign (ev_sub (Ev.data (ev_list (evs_cons (ev_tuple (evs_cons (ev_binop (ev_name (by trivial)) ev_int op_add) (evs_cons (ev_binop (ev_name (by trivial)) ev_int op_add) evs_nil)) (Nat.le_of_ble_eq_true rfl))
        (evs_cons (ev_tuple (evs_cons (ev_tuple (evs_cons ev_int (evs_cons ev_int (evs_cons (ev_binop (ev_name (by trivial)) ev_int op_add) evs_nil))) (Nat.le_of_ble_eq_true rfl)) (evs_cons (ev_binop (ev_name (by trivial)) ev_int op_add) evs_nil)) (Nat.le_of_ble_eq_true rfl))
        (evs_cons (ev_tuple (evs_cons (ev_tuple (evs_cons ev_int (evs_cons ev_int (evs_cons ev_int evs_nil))) (Nat.le_of_ble_eq_true rfl)) (evs_cons ev_int evs_nil)) (Nat.le_of_ble_eq_true rfl))
        (evs_cons (ev_tuple (evs_cons (ev_tuple (evs_cons (ev_name (by trivial)) (evs_cons (ev_unop ev_int op_neg) (evs_cons (ev_binop (ev_name (by trivial)) ev_int op_add) evs_nil))) (Nat.le_of_ble_eq_true rfl)) (evs_cons ev_int evs_nil)) (Nat.le_of_ble_eq_true rfl)) evs_nil)))) (Nat.le_of_ble_eq_true rfl)))
        (ev_fcall (k := k + 7) (G.fn 41 (by decide)) (evs_cons (ev_name (by trivial)) (evs_cons ev_int evs_nil)) fun f F => knot_ok G H.hm F (by decide) (by decide))
        (op_item_list (d := .tuple [bp.1.d, .int bp.2]) ib.1 ?_ (fun _ _ => rfl) (Nat.le_of_ble_eq_true rfl))) (as_tuple (asl_cons as_name (asl_cons as_name asl_nil)))) hsc fe rm' R₅ fun s₆ W₆ x₆ R₆ => ?_
    · show _ = some (D.tuple [(beyondPt (knot γ₁ 4).1 sz).1.d, .int (beyondPt (knot γ₁ 4).1 sz).2])
      generalize (knot γ₁ 4).1 = i at ib ⊢
      have : i = 0 ∨ i = 1 ∨ i = 2 ∨ i = 3 := by omega
      rcases this with rfl | rfl | rfl | rfl <;> rfl
    let ρ₆ : Vars := upd (upd ρ₅ "part" (.d bp.1.d)) "index" (.d (.int bp.2))
    have btk : bp.1.take sz = none := beyond_take szb.1
    have bed : bp.1.edge sz = bp.2 := beyond_edge szb.1
    have brow : ∀ a s m, bp.1 = .row a s m → -1000 ≤ m ∧ m ≤ 1000 := fun a s m h => beyond_m szb h
    have ok₂ := ok.th th2
    have R₆' : ∀ p ix γ₂, p = bp.1 → ix = bp.2 → γ₂ = (knot γ₁ 4).2 → Rel c γ₂ env W₆ X (upd (upd ρ₅ "part" (.d p.d)) "index" (.d (.int ix))) s₆ := by rintro _ _ _ rfl rfl rfl; exact R₆
    obtain ⟨p, hp⟩ : ∃ p, p = bp.1 := ⟨_, rfl⟩
    obtain ⟨ix, hix⟩ : ∃ ix, ix = bp.2 := ⟨_, rfl⟩
    obtain ⟨γ₂, hγ₂⟩ : ∃ γ₂, γ₂ = (knot γ₁ 4).2 := ⟨_, rfl⟩
    rw [← hp] at btk bed brow
    rw [← hix] at bed
    rw [← hγ₂] at q th2 ok₂
    replace R₆ := R₆' p ix γ₂ hp hix hγ₂
    let ρ₇ : Vars := upd (upd ρ₅ "part" (.d p.d)) "index" (.d (.int ix))
    have R₆ : Rel c γ₂ env W₆ X ρ₇ s₆ := R₆
    have psl : (ptsOf rank p (v.sz l)).length = (v.sz l).length := ptsOf_length _ _ _
    refine then_run (k := k + 8) (ρ := ρ₇) (ρ₁ := upd ρ₇ "parts" (.own ((ptsOf rank p (v.sz l)).map Pt.d))) (γ₁ := γ₂) (ex_lc (γ₂ := γ₂) (out := (ptsOf rank p (v.sz l)).map Pt.d) (σ := upd (upd e0 "part" (.d p.d)) "rank" (.d (.int rank)))
      (evit_data (ev_bcall G rfl (evs_cons (ev_bcall G rfl (evs_cons (ev_name (by trivial)) evs_nil) (op_len_tuple (by rw [List.length_map]; omega))) evs_nil) op_range1) (by rw [List.length_map]; exact iter_below (z := (v.sz l).length) (by omega) (by omega))) (by trivial) (by rw [List.length_map]; omega) ?_ (by trivial)) hsc fe rm' R₆ fun s₇ W₇ x₇ R₇ => ?_
    · unfold ptsOf
      rw [List.map_map]
      refine ⟨_, comp_map D.int (fun a => (if a = rank then p else Pt.all).d) (fun a => upd (upd (upd e0 "part" (.d p.d)) "rank" (.d (.int rank))) "at" (.d (.int a))) _ fun a ha => ⟨as_name, ev_sub_v (ev_ifS (tst_cmp (ev_name (by trivial)) (ev_name (by trivial)) op_eqi) (fun e => ?_) fun e => ?_) (by trivial)⟩⟩
      · exact ev_op (ev_name (by trivial)) (by rw [if_pos (by simpa using e)])
      · exact ev_op ev_none (by rw [if_neg (by simpa using e)]; rfl)
    obtain ⟨W₈, x₈, R₈⟩ := R₇.freeze upd_same
    let ρ₈ : Vars := upd (upd ρ₇ "parts" (.own ((ptsOf rank p (v.sz l)).map Pt.d))) "parts" (.d (.list ((ptsOf rank p (v.sz l)).map Pt.d)))
    have R₈ : Rel c γ₂ env W₈ X ρ₈ s₇ := R₈
    refine then_run (k := k + 8) (ρ := ρ₈) (ρ₁ := upd ρ₈ "told" (.d (toldD rank ix (v.sz l).length))) (γ₁ := γ₂) (ex_assign (ev_bcall G rfl (evs_cons (Ev.data (ev_lc (γ₂ := γ₂) (out := ((below (v.sz l).length).map fun a => if a = rank then ix else 1).map intD) (σ := upd (upd e0 "index" (.d (.int ix))) "rank" (.d (.int rank)))
      (evit_data (ev_bcall G rfl (evs_cons (ev_bcall G rfl (evs_cons (ev_name (by trivial)) evs_nil) (op_len_tuple (by rw [List.length_map]; omega))) evs_nil) op_range1) (by rw [List.length_map]; exact iter_below (z := (v.sz l).length) (by omega) (by omega))) (by trivial) (by rw [List.length_map, List.length_map, below_length]; omega) ?_ (by trivial))) evs_nil) (op_tuple_list (by rw [List.length_map, List.length_map, below_length]; omega))) as_name) hsc fe rm' R₈ fun s₉ W₉ x₉ R₉ => ?_
    · rw [List.map_map]
      refine ⟨_, comp_map D.int (fun a => intD (if a = rank then ix else 1)) (fun a => upd (upd (upd e0 "index" (.d (.int ix))) "rank" (.d (.int rank))) "at" (.d (.int a))) _ fun a ha => ⟨as_name, ev_sub_v (ev_tuple (evs_cons ev_str (evs_cons ev_str (evs_cons (ev_ifS (u := .d (.int (if a = rank then ix else 1))) (tst_cmp (ev_name (by trivial)) (ev_name (by trivial)) op_eqi) (fun e => ?_) fun e => ?_) evs_nil))) (Nat.le_of_ble_eq_true rfl)) (by trivial)⟩⟩
      · exact ev_op (ev_name (by trivial)) (by rw [if_pos (by simpa using e)])
      · exact ev_op ev_int (by rw [if_neg (by simpa using e)])
    let ρ₉ : Vars := upd ρ₈ "told" (.d (toldD rank ix (v.sz l).length))
    have R₉ : Rel c γ₂ env W₉ X ρ₉ s₉ := R₉
    have x : Ext W s₁ W₉ s₉ := ((((((x₂.trans x₃).trans x₄).trans x₅).trans x₆).trans x₇).trans x₈).trans x₉
    refine wpAny_execs_cons (wpAny_Return_some (wpAny_Compare1 ?_ (by with_unfolding_all rfl)))
    obtain ⟨ff, hff, Ff⟩ := G.fn 50 (by decide)
    refine fcall_run (k := k + 8) (S := (dR 51).scope) (ρ := ρ₉) hff Ff.at (evs_cons (ev_name (by trivial)) (evs_cons (ev_name (by trivial)) (evs_cons (ev_name (by trivial)) evs_nil))) hsc rm' R₉ fun vs' sc Wc xc Rc rsc => ?_
    have xA : Ext W s₁ Wc sc := x.trans xc.toExt
    have keptC : ∀ b o, ¬ c.M b → s.heap.get? b = some o → sc.heap.get? b = some o := fun b o n z => xA.keep b o (fun w => (hW b w).elim n fun q => by rw [q] at z; cases z) (Gw.keep b o z)
    have nL : env.locals ∉ fsOf frs := fun h => by
      obtain ⟨_, m, n⟩ := Fr.at h
      obtain ⟨o, ho⟩ := ns_live n
      rw [hL] at ho; cases ho
    have hfs : fsOf (env :: frs) = env.locals :: fsOf frs := by unfold fsOf; rw [List.filterMap_cons, hfr]
    have Fr' : Frs (A.deeper env) (env :: frs) (un X Wc) sc.heap := by
      refine ⟨Around.frames_deeper Fr.stack, fun env' he' => ?_⟩
      rcases List.mem_cons.mp he' with rfl | he'
      · obtain ⟨m, n⟩ := Rc.ns
        exact ⟨Rc.kind, _, m, hfr, .inr Rc.wl, n⟩
      · obtain ⟨ki, L, m, a1, a2, a3⟩ := Fr.each env' he'
        exact ⟨ki, L, m, a1, .inl a2, a3.at' fun o z => keptC L o (not_nsM g a3) z⟩
    refine law_fault_ok (k := k + 1) G T H Ff ok₂ sok psl (pts_none rank p sz _ kb.1 hsz btk) (fun a s m h => brow a s m (pts_row _ _ _ h)) rm' okc Rc.g Fr' rsc fun w sd ks gd rw => ?_
    rw [ptsOf_edge rank p sz ix _ kb.1 hsz bed] at rw
    obtain ⟨Rd, _⟩ := Rc.callS ks (fun b hb => Fr'.at hb) gd
    refine evE_run (k := k + 8) (S := (dR 51).scope) (ρ := ρ₉) (γ := γ₂) (ρ₁ := ρ₉) (γ₁ := γ₂) (u := .d (faultD v.d ((below (v.sz l).length).map fun a => if a = rank then ix else 1))) ?_ hsc rm' Rd fun b se We xe Re oe fe' => ?_
    · exact ev_op (ev_tuple (evs_cons ev_str (evs_cons (ev_tuple (evs_cons ev_str (evs_cons ev_str (evs_cons (ev_tuple evs_nil) evs_nil))) (Nat.le_of_ble_eq_true rfl)) (evs_cons (ev_tuple (evs_cons (ev_name (by trivial)) (evs_cons (ev_tuple (evs_cons ev_str (evs_cons (ev_name (by trivial)) evs_nil)) (Nat.le_of_ble_eq_true rfl)) evs_nil)) (Nat.le_of_ble_eq_true rfl)) evs_nil))) (Nat.le_of_ble_eq_true rfl)) rfl
    have oeq := op_eq_refl (c := c) (k := k + 8) (d := faultD v.d ((below (v.sz l).length).map fun a => if a = rank then ix else 1)) (n := 5) (pure_fault v _) (by decide)
    have rw2 := Rep.carry xe.carry rw
    refine oeq (A.deeper env) se (un X We) [w, b] _ _ rm' okc Re.g.base Re.g.live (.cons rw2 (.cons oe.1 .nil)) fun y sf Gf res => ?_
    rw [rep_bool res]
    have nWc : ∀ b o, ¬ c.M b → s.heap.get? b = some o → ¬ Wc b := fun b o n z w => by
      obtain ⟨o', e'⟩ := (Ext.grow (W := W) Gw).live b o z
      rcases xA.new b w with w | q
      · exact (hW b w).elim n fun q => by rw [q] at z; cases z
      · rw [q] at e'; cases e'
    have sdTo : ∀ b o o', ¬ c.M b → s.heap.get? b = some o → sd.heap.get? b = some o' → sf.heap.get? b = some o' := fun b o o' n z z' => Gf.keep b o' (xe.keep b o' (nWc b o n z) z')
    refine q sf ⟨fun b o n h z => sdTo b o o n z (ks.keep b o n (by rw [hfs]; exact fun h' => (List.mem_cons.mp h').elim (fun e => by rw [e, hL] at z; cases z) h) (keptC b o n z)), fun b o h z => ?_⟩ ((Re.g.grow Gf).less (fun b h => .inl h) g.xM)
    have nM : ¬ c.M b := by obtain ⟨_, m, n⟩ := Fr.at h; exact not_nsM g n
    obtain ⟨sl, hs⟩ := ks.slot b o (by rw [hfs]; exact .tail _ h) (keptC b o nM z)
    exact ⟨sl, sdTo b o _ nM z hs⟩
end
section
variable {c : Cx} {k : Nat} {S : Scope} {ρ ρ' ρ₁ ρ₂ ρ₃ σ : Vars} {γ γ' γ₁ γ₂ γ₃ : GS} {fn : Bool} {aM aT CT CH CE CR : Addr}
noncomputable def wideOf (h : Held) : List Int := (h.filter fun t => t.2).map fun t => (t.1.length : Int)
noncomputable def dueL : Held → List Int → List Int
  | [], _ => []
  | (ix, false) :: h, r => (ix[0]?).getD 0 :: dueL h r
  | (ix, true) :: h, i :: r => (ix[(i - 1).toNat]?).getD 0 :: dueL h r
  | (_, true) :: _, [] => []
theorem dueL_append : ∀ (a b : Held) (r : List Int), heldKept a ≤ r.length → dueL (a ++ b) r = dueL a (r.take (heldKept a)) ++ dueL b (r.drop (heldKept a))
  | [], b, r, _ => by simp [dueL, heldKept]
  | (ix, false) :: a, b, r, h => by
    have e : heldKept ((ix, false) :: a) = heldKept a := by simp [heldKept]
    rw [e] at h ⊢
    rw [List.cons_append, dueL, dueL_append a b r h, dueL, List.cons_append]
  | (ix, true) :: a, b, [], h => by simp [heldKept] at h
  | (ix, true) :: a, b, i :: r, h => by
    have e : heldKept ((ix, true) :: a) = heldKept a + 1 := by simp [heldKept]
    rw [e] at h ⊢
    rw [List.cons_append, dueL, dueL_append a b r (by simpa using h), List.take_succ_cons, List.drop_succ_cons, dueL, List.cons_append]
theorem dueL_length : ∀ (h : Held) (r : List Int), heldKept h ≤ r.length → (dueL h r).length = h.length
  | [], _, _ => rfl
  | (ix, false) :: a, r, h => by rw [dueL, List.length_cons, List.length_cons, dueL_length a r (by simpa [heldKept] using h)]
  | (ix, true) :: a, [], h => by simp [heldKept] at h
  | (ix, true) :: a, i :: r, h => by rw [dueL, List.length_cons, List.length_cons, dueL_length a r (by simpa [heldKept] using h)]
structure HeldOk (h : Held) (w : List Int) : Prop where
  len : h.length ≤ 3
  kept : heldKept h = w.length
  some : ∀ t ∈ h, 1 ≤ t.1.length ∧ t.1.length ≤ 4
  wide : wideOf h = w
theorem heldKept_cons_true (ix : List Int) (h : Held) : heldKept ((ix, true) :: h) = heldKept h + 1 := by simp [heldKept]
theorem heldKept_cons_false (ix : List Int) (h : Held) : heldKept ((ix, false) :: h) = heldKept h := by simp [heldKept]
theorem heldKept_append (a b : Held) : heldKept (a ++ b) = heldKept a + heldKept b := by unfold heldKept; rw [List.filter_append, List.length_append]
theorem held_fit : ∀ {h : Held} {r : List Int}, Within r (wideOf h) → ∀ {a b : Held} {ix : List Int}, h = a ++ (ix, true) :: b → ∃ i, r[heldKept a]? = some i ∧ 1 ≤ i ∧ i ≤ ix.length := by
  intro h r hw a b ix e
  have ew : (wideOf h)[heldKept a]? = some (ix.length : Int) := by
    subst e
    unfold wideOf
    rw [List.filter_append, List.map_append, List.getElem?_append_right (by rw [List.length_map]; exact Nat.le_refl _)]
    rw [List.length_map]
    unfold heldKept
    rw [Nat.sub_self]
    simp
  have hl : heldKept a < r.length := by
    have h1 : heldKept a < (wideOf h).length := by
      rcases Nat.lt_or_ge (heldKept a) (wideOf h).length with q | q
      · exact q
      · rw [List.getElem?_eq_none q] at ew; cases ew
    rw [hw.1]; exact h1
  have er : r[heldKept a]? = some r[heldKept a] := List.getElem?_eq_getElem hl
  obtain ⟨b1, b2⟩ := hw.2 _ _ _ er ew
  exact ⟨_, er, b1, b2⟩
theorem due_loop {tgt : Expr} {body : List Stmt} {h : Held} {r : List Int} (hw : Within r (wideOf h)) (hl : h.length ≤ 3) (hs : ∀ t ∈ h, 1 ≤ t.1.length ∧ t.1.length ≤ 4)
    (I : Held → Vars) (hb : ∀ pre ix post, h = pre ++ (ix, true) :: post → ∀ i, r[heldKept pre]? = some i → 1 ≤ i → i ≤ ix.length → As c S true tgt (.d (heldD (ix, true))) (I pre) (upd (upd (I pre) "indices" (.d (.list (ix.map D.int)))) "is_kept" (.d (.bool true))) ∧ ExB c k S (upd (upd (I pre) "indices" (.d (.list (ix.map D.int)))) "is_kept" (.d (.bool true))) γ body (.next (I (pre ++ [(ix, true)])) γ))
    (hf : ∀ pre ix post, h = pre ++ (ix, false) :: post → As c S true tgt (.d (heldD (ix, false))) (I pre) (upd (upd (I pre) "indices" (.d (.list (ix.map D.int)))) "is_kept" (.d (.bool false))) ∧ ExB c k S (upd (upd (I pre) "indices" (.d (.list (ix.map D.int)))) "is_kept" (.d (.bool false))) γ body (.next (I (pre ++ [(ix, false)])) γ)) :
    ForR c k S tgt body (h.map heldD) (I []) γ (.next (I h) γ) := by
  refine for_pre (γ := γ) I heldD (fun pre t => upd (upd (I pre) "indices" (.d (.list (t.1.map D.int)))) "is_kept" (.d (.bool t.2))) h fun pre t post e => ?_
  obtain ⟨ix, b⟩ := t
  cases b with
  | true =>
    obtain ⟨i, h1, h2, h3⟩ := held_fit hw e
    exact hb pre ix post e i h1 h2 h3
  | false => exact hf pre ix post e
end
section
variable {c : Cx} {k : Nat} {S : Scope} {ρ ρ' ρ₁ ρ₂ ρ₃ σ : Vars} {γ γ' γ₁ γ₂ γ₃ : GS} {fn : Bool} {aM aT CT CH CE CR : Addr}
theorem strides_le : ∀ (l : List Int) (f : Int), 0 < f → (∀ z ∈ l, 0 < z) → ∀ z ∈ strides f l, z ≤ f * prodI l
  | [], _, _, _, z, hz => by simp [strides] at hz
  | b :: l, f, hf, hl, z, hz => by
    have hb := hl b (.head _)
    have pp : ∀ (l : List Int), (∀ z ∈ l, 0 < z) → 0 < prodI l := by
      intro l; induction l with
      | nil => intro _; decide
      | cons y l ih => intro h; rw [prodI_cons]; exact Int.mul_pos (h y (.head _)) (ih fun z hz => h z (.tail _ hz))
    have pl := pp l fun z hz => hl z (.tail _ hz)
    rw [prodI_cons]
    rcases List.mem_cons.mp hz with e | h
    · rw [e]
      have : f * 1 ≤ f * (b * prodI l) := Int.mul_le_mul_of_nonneg_left (by have := Int.mul_pos hb pl; omega) (by omega)
      rwa [Int.mul_one] at this
    · have := strides_le l (f * b) (Int.mul_pos hf hb) (fun y hy => hl y (.tail _ hy)) z h
      rwa [Int.mul_assoc] at this
theorem strides_bound {l : List Int} (hl : l.length ≤ 3) (h : ∀ z ∈ l, 0 < z ∧ z ≤ 4) : ∀ z ∈ strides 1 l, 0 < z ∧ z ≤ 1000 := fun z hz => by
  have a := strides_pos l 1 (by decide) (fun z hz => (h z hz).1) z hz
  have b := strides_le l 1 (by decide) (fun z hz => (h z hz).1) z hz
  have := prodI_small l hl h
  rw [Int.one_mul] at b
  omega
theorem pure_list {ds : List D} {n : Nat} (h : pures n ds = true) : (D.list ds).pure (n + 1) = true := by simpa [D.pure] using h
theorem pure_lints (n : Nat) (l : List Int) : (D.list (l.map D.int)).pure (n + 1) = true := pure_list (pures_ints n l)
noncomputable def hereOf (v : Vw) (l r : List Int) : Int := v.pl + dot r (v.st l)
theorem dsum_eq (r s : List Int) : ((r.zip s).map fun t => (t.1 - 1) * t.2).sum = dot r s := dsum_dot r s
set_option maxHeartbeats 2000000 in
theorem view_right_ok {f : Addr} {a : Nat} {v : Vw} {l : List Int} {h : Held} (G : Gr c) (H : HeapOk c CH aM aT CT) (F : FnIs c (dR 46).name (dR 46) [] f) (oka : VwOk γ (.arr a) l) (ok : VwOk γ v l) (sok : SzOk v l) (hk : HeldOk h (v.sz l))
    (hrow : ∀ r ∈ gridL (v.sz l), backL (strides 1 l) (hereOf v l r) = dueL h r ∧ digits (hereOf v l r) l = dueL h r ∧ Within r (v.sz l))
    (hpl : placesL v.pl ((v.sz l).zip (v.st l)) = (gridL (v.sz l)).map (hereOf v l)) : FnOk c (k + 5) f [heapD CH aT, (Vw.arr a).d, v.d, .list (h.map heldD)] γ (.bool true) γ := by
  have rk := sok.rank
  have sm := sok.small
  have hlen := hk.len
  refine fn_ok ["heap", "array", "view", "held"] F (ρ₀ := upd (upd (upd (upd e0 "held" (.d (.list (h.map heldD)))) "view" (.d v.d)) "array" (.d (Vw.arr a).d)) "heap" (.d (heapD CH aT))) (o := .ret _ γ) ?_ (.inl rfl)
  refine ex_cons (ex_assign (ev_tuple (evs_cons (ev_fcall (G.fn 28 (by decide)) (evs_cons (ev_name (by trivial)) (evs_cons (ev_name (by trivial)) evs_nil)) fun f F => sizes_of_ok G H F oka) (evs_cons (ev_fcall (G.fn 29 (by decide)) (evs_cons (ev_name (by trivial)) (evs_cons (ev_name (by trivial)) evs_nil)) fun f F => layout_of_ok G H F ok) evs_nil)) (Nat.le_of_ble_eq_true rfl))
    (as_tuple (asl_cons as_name (asl_cons (as_tuple (asl_cons as_name (asl_cons as_name asl_nil))) asl_nil))) (h2 := by intro env h; obtain ⟨_, _⟩ := env; cases h; rfl)) ?_
  refine ex_cons (ex_assign (ev_bcall G rfl (evs_cons (Ev.data (ev_lc (γ₂ := γ) (out := (v.sz l).map D.int) (σ := e0) (evit_data (ev_name (by trivial)) (.list _)) (by trivial) (by rw [List.length_map]; omega) ?_ (by trivial))) evs_nil) (op_tuple_list (by rw [List.length_map]; omega))) as_name) ?_
  · have e : (v.sz l).map D.int = (h.filter fun t => t.2).map fun t => D.int t.1.length := by rw [← hk.wide]; unfold wideOf; rw [List.map_map]; rfl
    rw [e]
    exact ⟨_, comp_filter heldD (fun t => .int t.1.length) (fun t => t.2) (fun t => upd (upd e0 "indices" (.d (.list (t.1.map D.int)))) "is_kept" (.d (.bool t.2))) h fun t ht => ⟨as_tuple (asl_cons as_name (asl_cons as_name asl_nil)), tst_value (ev_name (by trivial)), by trivial, fun _ => ev_sub_v (ev_op (ev_bcall G rfl (evs_cons (ev_name (by trivial)) evs_nil) (op_len_list (by rw [List.length_map]; have := hk.some t ht; omega))) (by rw [List.length_map])) (by trivial)⟩⟩
  refine ex_skip (tst_bool (tst_is (t_or2 (a := false) (b := false) (tst_cmp (ev_fcall (G.fn 28 (by decide)) (evs_cons (ev_name (by trivial)) (evs_cons (ev_name (by trivial)) evs_nil)) fun f F => sizes_of_ok G H F ok) (ev_name (by trivial)) (op_ne_refl (pure_ints 0 _)))
    fun _ => tst_is (tst_cmp (ev_bcall G rfl (evs_cons (ev_name (by trivial)) evs_nil) (op_len_tuple (by rw [List.length_map, sok.same]; omega))) (ev_bcall G rfl (evs_cons (ev_name (by trivial)) evs_nil) (op_len_tuple (by rw [List.length_map]; omega))) op_nei) (by rw [List.length_map, List.length_map, sok.same]; simp)) rfl)) ?_
  refine ex_cons (ex_assign (ev_list evs_nil) as_name) ?_
  let B : Vars := upd (upd (upd (upd (upd (upd (upd e0 "wide" (.d (.ints (v.sz l)))) "steps" (.d (.ints (v.st l)))) "place" (.d (.int v.pl))) "sizes" (.d (.ints l))) "held" (.d (.list (h.map heldD)))) "view" (.d v.d)) "heap" (.d (heapD CH aT))
  let I : List (List Int) → Vars := fun pre => upd B "found" (.own (pre.map fun r => .int (hereOf v l r)))
  have glen := gridL_length (v.sz l) fun z hz => by have := (sm z hz).1; omega
  have gsm := prodI_small (v.sz l) rk sm
  refine ex_cons (ex_for (o := .next (I (gridL (v.sz l))) γ) (evit_sub (σ := I []) (evit_data (ev_fcall (G.fn 43 (by decide)) (evs_cons (ev_name (by trivial)) evs_nil) fun f F => grid_ok G F rk sm) (.list _)) (by show SubV (upd B "found" (.own [])) _; trivial)) ?_) ?_
  · refine for_pre (γ := γ) I (fun r => D.ints r) (fun pre r => upd (I pre) "row" (.d (.ints r))) (gridL (v.sz l)) fun pre r post e => ⟨as_name, ?_⟩
    obtain ⟨hb, hd, hw⟩ := hrow r (by rw [e]; simp)
    have hrl : r.length = (v.sz l).length := hw.1
    have hpl' : pre.length ≤ 64 := by
      have := congrArg List.length e
      rw [List.length_append] at this
      omega
    have hw' : Within r (wideOf h) := by rw [hk.wide]; exact hw
    refine ex_cons (ex_assign (ev_op (ev_binop (ev_name (by trivial)) (ev_bcall G rfl (evs_cons (Ev.data (ev_lc (γ₂ := γ) (out := ((r.zip (v.st l)).map fun t => (t.1 - 1) * t.2).map D.int) (σ := e0) (evit_zip2 (ev_builtin rfl (G.bi "zip" (by decide)) rfl) (evs_cons (ev_name (by trivial)) (evs_cons (ev_name (by trivial)) evs_nil)) (.tuple _) (.tuple _)) (by trivial) (by rw [List.length_map, List.length_map, List.length_zip]; omega) ?_ (by trivial))) evs_nil) op_sum) op_add) (d' := .int (hereOf v l r)) (by rw [dsum_eq]; rfl)) as_name) ?_
    · rw [zip_pairs, List.map_map]
      refine ⟨_, comp_map pairD (fun t => .int ((t.1 - 1) * t.2)) (fun t => upd (upd e0 "index" (.d (.int t.1))) "far" (.d (.int t.2))) _ fun t ht => ⟨as_tuple (asl_cons as_name (asl_cons as_name asl_nil)), ev_sub_v (ev_binop (ev_binop (ev_name (by trivial)) ev_int op_sub) (ev_name (by trivial)) (op_mul (mulOk_small (.inl ?_)))) (by trivial)⟩⟩
      obtain ⟨n, h1, h2⟩ := zip_get ht
      have hn : n < (v.sz l).length := by
        rcases Nat.lt_or_ge n r.length with q | q
        · omega
        · rw [List.getElem?_eq_none q] at h1; cases h1
      have w := hw.2 n _ _ h1 (List.getElem?_eq_getElem hn)
      have b := sm _ (List.getElem_mem hn)
      constructor <;> omega
    refine ex_cons (ex_append (by trivial) (ev_name (by trivial)) (by trivial) (by rw [List.length_map]; omega)) ?_
    refine ex_cons (ex_pair_g (ev_bcall G rfl (evs_cons (ev_name (by trivial)) evs_nil) (op_list_seq (.inr rfl) (by rw [List.length_map]; omega))) evg_nil) ?_
    let B' : Vars := upd (upd (upd B "found" (.own ((pre ++ [r]).map fun r => .int (hereOf v l r)))) "here" (.d (.int (hereOf v l r)))) "row" (.d (.ints r))
    let J : Held → Vars := fun pre => upd (upd B' "left" (.own ((r.drop (heldKept pre)).map D.int))) "due" (.own ((dueL pre (r.take (heldKept pre))).map D.int))
    have lk : heldKept h = r.length := by rw [hk.kept, hrl]
    have preLen : ∀ {pre' : Held} {x : List Int × Bool} {post'}, h = pre' ++ x :: post' → pre'.length ≤ 3 ∧ heldKept pre' ≤ r.length := fun {pre' x post'} e => by
      have h1 := congrArg List.length e
      rw [List.length_append] at h1
      refine ⟨by omega, ?_⟩
      rw [← lk, e, heldKept_append]; omega
    have dLen : ∀ {pre' : Held}, pre'.length ≤ 3 → heldKept pre' ≤ r.length → ((dueL pre' (r.take (heldKept pre'))).map D.int).length ≤ 16777216 := fun {pre'} h1 h2 => by
      rw [List.length_map, dueL_length _ _ (by rw [List.length_take]; omega)]; omega
    refine ex_cons (ex_for (o := .next (J h) γ) (evit_sub (σ := J []) (evit_data (ev_name (by trivial)) (.list _)) ?_) ?_) ?_
    · show SubV (upd (upd (upd (upd (upd B "found" (.own ((pre ++ [r]).map fun r => .int (hereOf v l r)))) "here" (.d (.int (hereOf v l r)))) "row" (.d (.ints r))) "left" (.own (r.map D.int))) "due" (.own [])) _
      rw [List.map_append]
      trivial
    · refine due_loop hw' hlen hk.some J (fun pre' ix post' e' i h1 h2 h3 => ⟨as_tuple (asl_cons as_name (asl_cons as_name asl_nil)), ?_⟩) fun pre' ix post' e' => ⟨as_tuple (asl_cons as_name (asl_cons as_name asl_nil)), ?_⟩
      · obtain ⟨p1, p2⟩ := preLen e'
        have hlt : heldKept pre' < r.length := by
          rcases Nat.lt_or_ge (heldKept pre') r.length with q | q
          · exact q
          · rw [List.getElem?_eq_none q] at h1; cases h1
        have hdr : r.drop (heldKept pre') = i :: r.drop (heldKept pre' + 1) := by
          rw [List.drop_eq_getElem_cons hlt]
          rw [List.getElem?_eq_getElem hlt] at h1
          cases h1; rfl
        have eL : J pre' "left" = some (.own (D.int i :: (r.drop (heldKept pre' + 1)).map D.int)) := by
          show some (V.own ((r.drop (heldKept pre')).map D.int)) = _
          rw [hdr]; rfl
        have hix := hk.some (ix, true) (by rw [e']; simp)
        have hix' : ix.length ≤ 4 := hix.2
        refine ex_cons (ex_append (by trivial) (ev_if_t (tst_value (ev_name (by trivial))) (ev_sub (ev_name (by trivial)) (ev_binop (ev_pop (upd_other (by decide) (upd_other (by decide) eL)) (by rw [List.length_cons, List.length_map, List.length_drop]; omega)) ev_int op_sub) (op_item_list (d := .int ((ix[(i - 1).toNat]?).getD 0)) (by omega) ?_ (fun _ _ => rfl) (by rw [List.length_map]; omega)))) (by trivial) (dLen p1 p2)) (ex_end ?_)
        · have hl' : (i - 1).toNat < ix.length := by omega
          rw [List.getElem?_map, List.getElem?_eq_getElem hl']; rfl
        · have e1 : heldKept (pre' ++ [(ix, true)]) = heldKept pre' + 1 := by rw [heldKept_append]; rfl
          have e2 : (r.take (heldKept pre' + 1)).drop (heldKept pre') = [i] := by rw [List.drop_take, hdr, Nat.add_sub_cancel_left]; rfl
          show SubV (upd (upd B' "left" (.own ((r.drop (heldKept (pre' ++ [(ix, true)]))).map D.int))) "due" (.own ((dueL (pre' ++ [(ix, true)]) (r.take (heldKept (pre' ++ [(ix, true)])))).map D.int))) _
          rw [e1, dueL_append pre' _ _ (by rw [List.length_take]; omega), List.map_append, List.take_take, e2, Nat.min_eq_left (Nat.le_succ _)]
          simp only [dueL, List.map_cons, List.map_nil]
          trivial
      · obtain ⟨p1, p2⟩ := preLen e'
        have hix := hk.some (ix, false) (by rw [e']; simp)
        have hix' : 1 ≤ ix.length ∧ ix.length ≤ 4 := hix
        refine ex_cons (ex_append (by trivial) (ev_if_f (tst_value (ev_name (by trivial))) (ev_sub (ev_name (by trivial)) ev_int (op_item_list (d := .int ((ix[0]?).getD 0)) (by decide) ?_ (fun _ _ => rfl) (by rw [List.length_map]; omega)))) (by trivial) (dLen p1 p2)) (ex_end ?_)
        · have hl' : 0 < ix.length := by omega
          show (ix.map D.int)[0]? = _
          rw [List.getElem?_map, List.getElem?_eq_getElem hl']; rfl
        · have e1 : heldKept (pre' ++ [(ix, false)]) = heldKept pre' := by rw [heldKept_append]; rfl
          show SubV (upd (upd B' "left" (.own ((r.drop (heldKept (pre' ++ [(ix, false)]))).map D.int))) "due" (.own ((dueL (pre' ++ [(ix, false)]) (r.take (heldKept (pre' ++ [(ix, false)])))).map D.int))) _
          rw [e1, dueL_append pre' _ _ (by rw [List.length_take]; omega), List.map_append, List.take_take, Nat.min_self]
          simp only [dueL, List.map_cons, List.map_nil]
          trivial
    · refine ex_freeze (x := "due") (by trivial) ?_
      have eD : dueL h (r.take (heldKept h)) = dueL h r := by rw [lk, List.take_length]
      rw [eD]
      have dl : (dueL h r).length ≤ 3 := by rw [dueL_length _ _ (by omega)]; omega
      refine ex_skip (tst_bool (tst_is (t_or2 (a := false) (b := false) (tst_cmp (ev_op (ev_fcall (G.fn 44 (by decide)) (evs_cons (ev_name (by trivial)) (evs_cons (ev_name (by trivial)) evs_nil)) fun f F => back_ok G F oka.rank oka.small (strides_bound oka.rank oka.small)) (by rw [hb])) (ev_bcall G rfl (evs_cons (ev_name (by trivial)) evs_nil) (op_tuple_list (by rw [List.length_map]; omega))) (op_ne_refl (pure_ints 0 _)))
        fun _ => tst_cmp (ev_op (ev_fcall (G.fn 23 (by decide)) (evs_cons (ev_name (by trivial)) (evs_cons (ev_name (by trivial)) evs_nil)) fun f F => index_of_ok G F (fun z hz => by have := oka.small z hz; omega) (by have := oka.rank; omega)) (by rw [hd])) (ev_bcall G rfl (evs_cons (ev_name (by trivial)) evs_nil) (op_tuple_list (by rw [List.length_map]; omega))) (op_ne_refl (pure_ints 0 _))) rfl)) ?_
      refine ex_skip (tst_bool (tst_is (t_and2 (b := false) (tst_cmp (ev_name (by trivial)) (ev_tuple evs_nil) (op_ne (n := 1) (pure_ints 0 _) (by decide +kernel))) fun _ => tst_is (tst_cmp (ev_fcall (G.fn 30 (by decide)) (evs_cons (ev_name (by trivial)) (evs_cons (ev_name (by trivial)) (evs_cons (ev_name (by trivial)) evs_nil))) fun f F => place_in_parent_ok G H F ok sok hw) (ev_name (by trivial)) op_nei) (by unfold hereOf; simp)) (Bool.and_false _))) ?_
      exact ex_end (by trivial)
  · refine ex_freeze (x := "found") (by trivial) ?_
    refine ex_ret (ex_return (ev_cmp (ev_op (ev_fcall (G.fn 31 (by decide)) (evs_cons (ev_name (by trivial)) (evs_cons (ev_name (by trivial)) evs_nil)) fun f F => places_of_ok G H F ok sok) (by rw [hpl, List.map_map])) (ev_name (by trivial)) (op_eq_refl (n := 1) ?_)))
    exact pure_list (pures_map 0 _ _ fun x _ => pure_int 0 _)
end
section
variable {c : Cx} {k : Nat} {S : Scope} {ρ ρ' ρ₁ ρ₂ ρ₃ σ : Vars} {γ γ' γ₁ γ₂ γ₃ : GS} {fn : Bool} {aM aT CT CH CE CR : Addr}
noncomputable def stepP : Pt → Int
  | .row _ s _ => s
  | _ => 1
noncomputable def stepsDue (st : List Int) (ps : List (Pt × List Int)) : List Int := ((st.zip ps).filter fun t => !isOne t.2.1).map fun t => t.1 * stepP t.2.1
noncomputable abbrev farPD (t : Int × (Pt × List Int)) : D := .tuple [.int t.1, pairPD t.2]
theorem zip_farp (s : List Int) (ps : List (Pt × List Int)) : List.zipWith (fun a b => D.tuple [a, b]) (s.map D.int) (ps.map pairPD) = (s.zip ps).map farPD := by
  induction s generalizing ps with
  | nil => simp
  | cons a r ih => cases ps with
    | nil => simp
    | cons b s => simp [ih]
theorem step_small (p : Pt) (h : ∀ f s m, p = .row f s m → -1000 ≤ s ∧ s ≤ 1000) : Small (stepP p) := by
  cases p with
  | all => exact ⟨by show (-1000000000 : Int) ≤ 1; decide, by show (1 : Int) ≤ 1000000000; decide⟩
  | one i => exact ⟨by show (-1000000000 : Int) ≤ 1; decide, by show (1 : Int) ≤ 1000000000; decide⟩
  | row f s m => have := h f s m rfl; exact ⟨by show -1000000000 ≤ s; omega, by show s ≤ 1000000000; omega⟩
theorem steps_right_ok {f : Addr} {e v : Vw} {l : List Int} {ps : List (Pt × List Int)} (G : Gr c) (H : HeapOk c CH aM aT CT) (F : FnIs c (dR 48).name (dR 48) [] f) (oke : VwOk γ e l) (ok : VwOk γ v l) (hps : ps.length ≤ 1000) (hst : ∀ p ∈ ps, ∀ f s m, p.1 = .row f s m → -1000 ≤ s ∧ s ≤ 1000)
    (hd : v.st l = stepsDue (e.st l) ps) : FnOk c (k + 4) f [heapD CH aT, e.d, v.d, .list (ps.map pairPD)] γ (.bool true) γ := by
  refine fn_ok ["heap", "elder", "view", "pairs"] F (ρ₀ := upd (upd (upd (upd e0 "pairs" (.d (.list (ps.map pairPD)))) "view" (.d v.d)) "elder" (.d e.d)) "heap" (.d (heapD CH aT))) (o := .ret _ γ) ?_ (.inl rfl)
  refine ex_cons (ex_assign (ev_at (ev_fcall (G.fn 29 (by decide)) (evs_cons (ev_name (by trivial)) (evs_cons (ev_name (by trivial)) evs_nil)) fun f F => layout_of_ok G H F oke) rfl) as_name) ?_
  have dl : (stepsDue (e.st l) ps).length ≤ 1000 := by
    unfold stepsDue
    rw [List.length_map]
    have := List.length_filter_le (fun t : Int × (Pt × List Int) => !isOne t.2.1) ((e.st l).zip ps)
    rw [List.length_zip] at this
    omega
  refine ex_cons (ex_lc (γ₂ := γ) (out := (stepsDue (e.st l) ps).map D.int) (σ := e0) (evit_zip2 (ev_builtin rfl (G.bi "zip" (by decide)) rfl) (evs_cons (ev_name (by trivial)) (evs_cons (ev_name (by trivial)) evs_nil)) (.tuple _) (.list _)) (by trivial) (by rw [List.length_map]; omega) ?_ (by trivial)) ?_
  · rw [zip_farp]
    unfold stepsDue
    rw [List.map_map]
    let T : Int × (Pt × List Int) → Vars := fun t => upd (upd (upd e0 "far" (.d (.int t.1))) "part" (.d t.2.1.d)) "indices" (.d (.list (t.2.2.map D.int)))
    refine ⟨_, comp_filter farPD (fun t => .int (t.1 * stepP t.2.1)) (fun t => !isOne t.2.1) T _ fun t ht => ⟨as_tuple (asl_cons as_name (asl_cons (as_tuple (asl_cons as_name (asl_cons as_name asl_nil))) asl_nil)), tst_not (tst_value (ev_isi G (by trivial) rfl (isi_pt' t.2.1) (G.bi _ (by decide)))), by trivial, fun _ => ev_sub_v (ρ₁ := T t) (ev_binop (ρ₁ := T t) (ev_name (by trivial)) ?_ (op_mul (mulOk_small (.inr (step_small _ (hst t.2 (List.of_mem_zip (show (t.1, t.2) ∈ _ from ht)).2)))))) (by trivial)⟩⟩
    obtain ⟨far, p, ix⟩ := t
    cases p with
    | all => exact ev_if_f (tst_value (ev_isi G (by trivial) rfl (isi_pt_tuple .all) (G.bi _ (by decide)))) ev_int
    | one i => exact ev_if_f (tst_value (ev_isi G (by trivial) rfl (isi_pt_tuple (.one i)) (G.bi _ (by decide)))) ev_int
    | row a s m => exact ev_if_t (tst_value (ev_isi G (by trivial) rfl (isi_pt_tuple (.row a s m)) (G.bi _ (by decide)))) (ev_at (n := 1) (ds := [.int a, .int s, .int m]) (ev_name (by trivial)) rfl)
  · refine ex_freeze (x := "due") (by trivial) ?_
    exact ex_ret (ex_return (ev_cmp (ev_op (Ev.data (ev_bcall G rfl (evs_cons (ev_at (ev_fcall (G.fn 29 (by decide)) (evs_cons (ev_name (by trivial)) (evs_cons (ev_name (by trivial)) evs_nil)) fun f F => layout_of_ok G H F ok) rfl) evs_nil) (op_list_seq (.inr rfl) (by rw [List.length_map, hd]; omega)))) (by rw [hd])) (ev_name (by trivial)) (op_eq_refl (n := 1) (pure_lints 0 _))))
theorem vwOk_new {v : Vw} {l : List Int} (ok : VwOk γ v l) (rs : List Row) : VwOk γ (newView v l rs) l := ⟨ok.at_, ok.many, ok.rank, ok.small⟩
theorem lines_right_ok {f : Addr} {a : Nat} {l : List Int} {rank far : Int} (G : Gr c) (hen : c.mg "enumerate" = none) (H : HeapOk c CH aM aT CT) (F : FnIs c (dR 49).name (dR 49) [] f) (ok : VwOk γ (.arr a) l) (sok : SzOk (.arr a) l) (h0 : 0 ≤ rank) (h1 : rank < l.length) (hfar : (strides 1 l)[rank.toNat]? = some far)
    (hst : ∀ ps ∈ chosenL rank (enumZ 0 l), (newView (.arr a) l (rowsOf ps l)).st l = [far])
    (hpl : (chosenL rank (enumZ 0 l)).map (fun ps => (newView (.arr a) l (rowsOf ps l)).pl) = (placesL 0 (l.zip (strides 1 l))).filter fun p => decide ((digits p l)[rank.toNat]? = some 1)) : FnOk c (k + 6) f [heapD CH aT, (Vw.arr a).d, .int rank] γ (.bool true) γ := by
  have rk := ok.rank
  refine fn_ok ["heap", "array", "rank"] F (ρ₀ := upd (upd (upd e0 "rank" (.d (.int rank))) "array" (.d (Vw.arr a).d)) "heap" (.d (heapD CH aT))) (o := .ret _ γ) ?_ (.inl rfl)
  refine ex_cons (ex_assign (ev_sub (ev_fcall (G.fn 21 (by decide)) (evs_cons (ev_fcall (G.fn 28 (by decide)) (evs_cons (ev_name (by trivial)) (evs_cons (ev_name (by trivial)) evs_nil)) fun f F => sizes_of_ok G H F ok) evs_nil) fun f F => strides_of_ok G F ok.sm (by show l.length ≤ 1000; omega)) (ev_name (by trivial)) (op_item_tuple (d := .int far) h0 (by rw [List.getElem?_map]; show Option.map D.int (strides 1 l)[rank.toNat]? = _; rw [hfar]; rfl) (fun _ _ => rfl) (by rw [List.length_map]; show (strides 1 l).length ≤ _; rw [strides_length]; omega))) as_name) ?_
  let vws : List Vw := (chosenL rank (enumZ 0 l)).map fun ps => newView (.arr a) l (rowsOf ps l)
  have vlen : vws.length ≤ 64 := by
    show ((chosenL rank (enumZ 0 l)).map _).length ≤ 64
    rw [List.length_map]
    refine Nat.le_trans (chosenL_length rank _ fun t ht => ok.small _ (enumZ_mem ht)) ?_
    rw [enumZ_length]
    exact Nat.le_trans (Nat.pow_le_pow_right (by decide) rk) (by decide)
  have vok : ∀ v ∈ vws, VwOk γ v l ∧ v.st l = [far] := fun v hv => by
    obtain ⟨ps, hp, rfl⟩ := List.mem_map.mp hv
    exact ⟨vwOk_new ok _, hst ps hp⟩
  refine ex_cons (ex_assign (ev_op (ev_fcall (G.fn 38 (by decide)) (evs_cons (ev_name (by trivial)) (evs_cons (ev_name (by trivial)) (evs_cons (ev_name (by trivial)) evs_nil))) fun f F => line_views_ok G hen H F ok sok) (d' := .list (vws.map Vw.d)) (by show D.list _ = D.list (((chosenL rank (enumZ 0 l)).map _).map _); rw [List.map_map]; rfl)) as_name) ?_
  refine ex_skip (tst_is (tst_cmp (Ev.data (ev_lc (γ₂ := γ) (out := (vws.filter fun _ => false).map Vw.d) (σ := upd (upd e0 "far" (.d (.int far))) "heap" (.d (heapD CH aT))) (evit_data (ev_name (by trivial)) (.list _)) (by trivial) (by rw [List.length_map]; have := List.length_filter_le (fun _ : Vw => false) vws; omega) ?_ (by trivial))) (Ev.data (ev_list evs_nil)) (op_ne (n := 1) ?_ (by decide +kernel))) ?_) ?_
  · exact ⟨_, comp_filter Vw.d Vw.d (fun _ => false) (fun v => upd (upd (upd e0 "far" (.d (.int far))) "heap" (.d (heapD CH aT))) "line" (.d v.d)) vws fun v hv => ⟨as_name, tst_cmp (ev_op (ev_at (ev_fcall (G.fn 29 (by decide)) (evs_cons (ev_name (by trivial)) (evs_cons (ev_name (by trivial)) evs_nil)) fun f F => layout_of_ok G H F (vok v hv).1) rfl) (d' := .ints [far]) (by rw [(vok v hv).2])) (ev_tuple (evs_cons (ev_name (by trivial)) evs_nil) (Nat.le_of_ble_eq_true rfl)) (op_ne_refl (n := 1) (pure_ints 0 [far])), by trivial, fun _ => ev_sub_v (ev_name (by trivial)) (by trivial)⟩⟩
  · rw [List.filter_eq_nil_iff.mpr fun _ _ => by simp]; decide +kernel
  · rw [List.filter_eq_nil_iff.mpr fun _ _ => by simp]; decide +kernel
  refine ex_cons (ex_lc (γ₂ := γ) (out := (vws.map Vw.pl).map D.int) (σ := upd e0 "heap" (.d (heapD CH aT))) (evit_data (ev_name (by trivial)) (.list _)) (by trivial) (by rw [List.length_map, List.length_map]; omega) ?_ (by trivial)) ?_
  · rw [show (vws.map Vw.pl).map D.int = vws.map (fun v => D.int v.pl) from List.map_map ..]
    exact ⟨_, comp_map Vw.d (fun v => .int v.pl) (fun v => upd (upd e0 "heap" (.d (heapD CH aT))) "line" (.d v.d)) vws fun v hv => ⟨as_name, ev_sub_v (ev_at (ev_fcall (G.fn 29 (by decide)) (evs_cons (ev_name (by trivial)) (evs_cons (ev_name (by trivial)) evs_nil)) fun f F => layout_of_ok G H F (vok v hv).1) rfl) (by trivial)⟩⟩
  refine ex_freeze (x := "firsts") (by trivial) ?_
  have plen : (placesL 0 (l.zip (strides 1 l))).length ≤ 64 := by
    refine Nat.le_trans (placesL_length 0 _ fun t ht => (ok.small _ (List.of_mem_zip (show (t.1, t.2) ∈ _ from ht)).1).2) ?_
    rw [List.length_zip]
    exact Nat.le_trans (Nat.pow_le_pow_right (by decide) (by omega)) (show 4 ^ 3 ≤ 64 by decide)
  have ev : vws.map Vw.pl = (placesL 0 (l.zip (strides 1 l))).filter fun p => decide ((digits p l)[rank.toNat]? = some 1) := by rw [← hpl]; show ((chosenL rank (enumZ 0 l)).map _).map _ = _; rw [List.map_map]; rfl
  rw [ev]
  refine ex_ret (ex_return (ev_cmp (ev_name (by trivial)) (Ev.data (ev_lc (γ₂ := γ) (out := ((placesL 0 (l.zip (strides 1 l))).filter fun p => decide ((digits p l)[rank.toNat]? = some 1)).map D.int) (σ := upd (upd (upd e0 "heap" (.d (heapD CH aT))) "array" (.d (Vw.arr a).d)) "rank" (.d (.int rank))) (evit_data (ev_fcall (G.fn 31 (by decide)) (evs_cons (ev_name (by trivial)) (evs_cons (ev_name (by trivial)) evs_nil)) fun f F => places_of_ok G H F ok sok) (.list _)) (by trivial) (by rw [List.length_map]; have := List.length_filter_le (fun p => decide ((digits p l)[rank.toNat]? = some 1)) (placesL 0 (l.zip (strides 1 l))); omega) ?_ (by trivial))) (op_eq_refl (n := 1) (pure_lints 0 _))))
  refine ⟨_, comp_filter D.int D.int (fun p => decide ((digits p l)[rank.toNat]? = some 1)) (fun p => upd (upd (upd (upd e0 "heap" (.d (heapD CH aT))) "array" (.d (Vw.arr a).d)) "rank" (.d (.int rank))) "place" (.d (.int p))) _ fun p hp => ?_⟩
  have hlt : rank.toNat < (digits p l).length := by rw [digits_length]; omega
  refine ⟨as_name, tst_is (tst_cmp (ev_sub (ev_fcall (G.fn 23 (by decide)) (evs_cons (ev_fcall (G.fn 28 (by decide)) (evs_cons (ev_name (by trivial)) (evs_cons (ev_name (by trivial)) evs_nil)) fun f F => sizes_of_ok G H F ok) (evs_cons (ev_name (by trivial)) evs_nil)) fun f F => index_of_ok G F (fun z hz => by have := ok.small z hz; omega) (by show l.length ≤ 1000; omega)) (ev_name (by trivial)) (op_item_tuple (d := .int (digits p l)[rank.toNat]) h0 (by rw [List.getElem?_map]; show Option.map D.int (digits p l)[rank.toNat]? = _; rw [List.getElem?_eq_getElem hlt]; rfl) (fun _ _ => rfl) (by rw [List.length_map]; show (digits p l).length ≤ _; rw [digits_length]; omega))) ev_int op_eqi) ?_, by trivial, fun _ => ev_sub_v (ev_name (by trivial)) (by trivial)⟩
  exact decide_eq_decide.mpr (by rw [List.getElem?_eq_getElem hlt, Option.some.injEq])
theorem law_array_ok {f : Addr} {l : List Int} {t : Tok} (G : Gr c) (H : HeapOk c CH aM aT CT) (hm : c.mg "MOST_ITEMS" = some (.int 20000 t)) (F : FnIs c (dR 52).name (dR 52) [] f) (hl : l.length ≤ 3) (h : ∀ z ∈ l, 0 < z ∧ z ≤ 4) (hn : γ.th.length ≤ 900) :
    FnOk c (k + 4) f [heapD CH aT, .ints l] γ (Vw.arr γ.th.length).d { γ with th := γ.th ++ [l] } := by
  have glen := gridL_length l fun z hz => by have := (h z hz).1; omega
  have gsm := prodI_small l hl h
  refine fn_ok ["heap", "sizes"] F (ρ₀ := upd (upd e0 "sizes" (.d (.ints l))) "heap" (.d (heapD CH aT))) (o := .ret _ _) ?_ (.inl rfl)
  refine ex_cons (ex_assign (ev_op (ev_bcall G rfl (evs_cons (ev_fcall (G.fn 43 (by decide)) (evs_cons (ev_name (by trivial)) evs_nil) fun f F => grid_ok G F hl h) evs_nil) (op_len_list (by rw [List.length_map]; omega))) (d' := .int (prodI l)) (by rw [List.length_map, glen])) as_name) ?_
  refine ex_ret (ex_return (ev_fcall (G.fn 32 (by decide)) (evs_cons (ev_name (by trivial)) (evs_cons (ev_tuple (evs_cons ev_str (evs_cons ev_str (evs_cons (ev_tuple evs_nil) evs_nil))) (Nat.le_of_ble_eq_true rfl)) (evs_cons (ev_name (by trivial)) (evs_cons (Ev.data (ev_lc (γ₂ := γ) (out := (below (prodI l)).map intD) (σ := e0) (evit_data (ev_bcall G rfl (evs_cons (ev_name (by trivial)) evs_nil) op_range1) (iter_below (by omega) (by omega))) (by trivial) (by rw [List.length_map, below_length]; omega) ?_ (by trivial))) evs_nil)))) fun f F => made_ok G H hm F hl h (by rw [List.length_map, below_length]; omega) hn))
  exact ⟨_, comp_map D.int intD (fun p => upd e0 "place" (.d (.int p))) _ fun p hp => ⟨as_name, ev_sub_v (ev_tuple (evs_cons ev_str (evs_cons ev_str (evs_cons (ev_name (by trivial)) evs_nil))) (Nat.le_of_ble_eq_true rfl)) (by trivial)⟩⟩
end
section
variable {c : Cx} {k : Nat} {S : Scope} {ρ ρ' ρ₁ ρ₂ ρ₃ σ : Vars} {γ γ' γ₁ γ₂ γ₃ : GS} {fn : Bool} {aM aT CT CH CE CR : Addr}
noncomputable def cellOf (zs : List Int) : Int := zs[0]?.getD 0
noncomputable def sailOf (zs : List Int) : Int := if cellOf zs ≥ 0 then cellOf zs else 16 - cellOf zs
noncomputable def mast0 (zs : List Int) : Int := if sailOf zs ≥ 10 ^ 15 then sailOf zs else 0
noncomputable def mast1 (zs : List Int) : Int := (sailOf zs % 999907 * 197 + 67) % 65381
set_option maxHeartbeats 2000000 in
theorem mast_ok {f : Addr} {zs : List Int} (G : Gr c) (F : FnIs c (dR 40).name (dR 40) [] f) (hM : ∀ b, ¬ c.M b) (hz : zs.length ≤ 63)
    {A : Around} {s : Shared} {X : Addr → Prop} {vs : List Value} {Q : Value → Shared → Prop} {E : Value → Shared → Prop} (rm : Room A (k + 2)) (okc : CxOk c) (g : GRel c γ X s) (rs : Reps X s.heap vs [.wlist (zs.map D.int)])
    (q : ∀ a t u s', Grow s s' → s.heap.get? a = none → OL s'.heap a #[.int (mast0 zs) t, .int (mast1 zs) u] → Q (.ref a) s') : wpAny (model c.prog c.w) A (call (.ref f) vs) Q E s := by
  obtain ⟨pl, hk, nd⟩ := chk_plain (d := dR 40) (names := ["script"]) rfl
  obtain ⟨fd, F', e1, e2, hd⟩ := F.fun pl
  have hd : fd.defaults = .none := hd.elim (·.2) fun q => absurd rfl q.1
  refine fn_raw (k := k + 1) (names := ["script"]) (ds := [.wlist (zs.map D.int)]) F' (fun s X vs _ _ rs => ⟨vs, rs, BindsTo.of_eq (by
      have hl : vs.length = 1 := rs.length
      unfold bindArgs; rw [e2, hd]; rcases vs with _ | ⟨_, _ | _⟩ <;> first | (simp at hl; done) | rfl)⟩) (fun x hx => by rw [e1]; exact hk x hx) (fun n x hx => cells_lookup n [] (.inl hx)) nd rfl rm okc g rs fun env W s₁ hsc fe hfr hL Gw hW hMW R rm' => ?_
  rw [e1] at hsc
  let ρ₀ : Vars := upd e0 "script" (.d (.wlist (zs.map D.int)))
  have R : Rel c γ env W X ρ₀ s₁ := R
  let ρ₁ : Vars := upd ρ₀ "cell" (.d (.int (cellOf zs)))
  refine then_run (k := k + 1) (ρ₁ := ρ₁) (γ₁ := γ) (ex_assign (ev_ifS (ρ := ρ₀) (tst_cmp (ev_bcall G rfl (evs_cons (ev_name (by trivial)) evs_nil) (op_len_wlist (by rw [List.length_map]; omega))) ev_int op_gt) (fun e => ?_) fun e => ?_) as_name) hsc fe rm' R fun s₂ W₂ x₂ R₂ => ?_
  · have hl : 0 < zs.length := by rw [List.length_map] at e; have := of_decide_eq_true e; omega
    refine ev_bcall G rfl (evs_cons (ev_sub (ev_name (by trivial)) ev_int (op_item_wlist (d := .int (cellOf zs)) (by decide) ?_ (fun _ _ => rfl) (by rw [List.length_map]; omega))) evs_nil) op_int
    show (zs.map D.int)[0]? = _
    rw [List.getElem?_map]
    unfold cellOf
    rw [List.getElem?_eq_getElem hl]; rfl
  · have hl : ¬ 0 < zs.length := by rw [List.length_map] at e; have := of_decide_eq_false e; omega
    refine ev_op ev_int ?_
    have : zs = [] := by cases zs with | nil => rfl | cons a r => exact absurd (Nat.succ_pos _) hl
    rw [this]; rfl
  let ρ₂ : Vars := upd ρ₁ "sail" (.d (.int (sailOf zs)))
  refine then_run (k := k + 1) (ρ := ρ₁) (ρ₁ := ρ₂) (γ₁ := γ) (ex_assign (ev_ifS (ρ := ρ₁) (tst_cmp (ev_name (by trivial)) ev_int op_ge) (fun e => ev_op (ev_name (by trivial)) ?_) fun e => ev_op (ev_binop ev_int (ev_name (by trivial)) op_sub) ?_) as_name) hsc fe rm' R₂ fun s₃ W₃ x₃ R₃ => ?_
  · unfold sailOf; rw [if_pos (of_decide_eq_true e)]
  · unfold sailOf; rw [if_neg (of_decide_eq_false e)]
  refine wpAny_execs_cons (wpAny_Return_some (evE_run (k := k + 1) (S := (dR 40).scope) (ρ := ρ₂) (γ := γ) (ρ₁ := ρ₂) (γ₁ := γ) (u := .own [.int (mast0 zs), .int (mast1 zs)]) ?_ hsc rm' R₃ fun v s₄ W₄ x₄ R₄ o₄ f₄ => ?_))
  · refine ev_list (evs_cons (ev_ifS (tst_cmp (ev_name (by trivial)) (ev_binop ev_int ev_int (op_pow (by decide) (by decide))) op_ge) (fun e => ev_op (ev_name (by trivial)) ?_) fun e => ev_op ev_int ?_) (evs_cons (ev_op (ev_binop (ev_binop (ev_binop (ev_binop (ev_name (by trivial)) ev_int (op_mod (by decide))) ev_int (op_mul (mulOk_small (.inr (by decide))))) ev_int op_add) ev_int (op_mod (by decide))) rfl) evs_nil)) (Nat.le_of_ble_eq_true rfl)
    · have e' : sailOf zs ≥ 10 ^ 15 := of_decide_eq_true e
      unfold mast0; rw [if_pos e']
    · have e' : ¬ sailOf zs ≥ 10 ^ 15 := of_decide_eq_false e
      unfold mast0; rw [if_neg e']
  obtain ⟨⟨l, vs', rfl, hw, hlZ, nM, hi, hr⟩, hu⟩ := o₄
  have x : Ext W s₁ W₃ s₃ := x₂.trans x₃
  have fresh : s.heap.get? l = none := (Ext.grow (W := W) Gw).none (x.none (f₄ l rfl))
  obtain ⟨v0, w0, rfl, r0, hr⟩ := hr.cons_inv
  obtain ⟨v1, w1, rfl, r1, hr⟩ := hr.cons_inv
  obtain rfl := hr.nil_inv
  cases r0 with
  | int _ t =>
    cases r1 with
    | int _ u =>
      refine q l t u s₄ ⟨fun b o e => ?_, by rw [R₄.g.gens, g.gens], by rw [R₄.g.os, g.os], by rw [R₄.g.drawn, g.drawn]⟩ fresh hi
      exact (x.trans x₄.toExt).keep b o (fun w => (hW b w).elim (hM b) fun q => by rw [q] at e; cases e) (Gw.keep b o e)
theorem heap_new {K : Frag} {fI : Addr} (N : NewOk c CH K fI ["things"]) (FI : FnIs c "Heap.__init__" (mR 16 0) [] fI)
    {A : Around} {s : Shared} {Q : Value → Shared → Prop} {E : Value → Shared → Prop} (rm : Room A (k + 1)) (ok : CxOk c) (base : ∀ b o, c.h0.get? b = some o → s.heap.get? b = some o)
    (q : ∀ x dx aT od s', Grow s s' → s.heap.get? aT = none → OL s'.heap aT #[] → s.heap.get? x = none → s.heap.get? dx = none → s'.heap.get? x = some (instObjOf CH dx) → s'.heap.get? dx = some od → FieldsAre od ["things"] [.ref aT] → NoMeth od → Q (.ref x) s') : wpAny (model c.prog c.w) A (call (.ref CH) []) Q E s := by
  obtain ⟨fd, F, e1, e2, hd⟩ := FI.fun ⟨rfl, rfl, rfl, rfl, rfl, rfl, rfl⟩
  obtain ⟨hh, g, dr, t, os⟩ := s
  have X₀ := N.inn.keeps base
  have hdf : fd.defaults = .none := hd.elim (·.2) fun q => absurd rfl q.1
  refine wpAny_call (make_core (rest := []) (kw := []) (makes_of X₀ N.makes) (looks_findIn X₀ N.init) (fun self => bind_fn X₀ self N.initf) (.inl rfl) ?_)
  have g0 : ∀ b o, hh.get? b = some o → ((hh.push emptyDict).push (instObj CH hh.objs.size)).get? b = some o := fun b o e => Heap.get?_push_of_some _ (Heap.get?_push_of_some _ e)
  have hx : ((hh.push emptyDict).push (instObj CH hh.objs.size)).get? (hh.objs.size + 1) = some (instObj CH hh.objs.size) := by heap_get
  have hdx : ((hh.push emptyDict).push (instObj CH hh.objs.size)).get? hh.objs.size = some emptyDict := by heap_get
  refine init_enter (names := ["self"]) (ws := [.ref (hh.objs.size + 1)]) F (BindsTo.of_eq (by unfold bindArgs; rw [e2, hdf]; rfl)) (by rw [e1]; decide) (by decide) rfl ?_ ok (fun b o e => g0 b o (base b o e)) ?_
  · show A.depth + 1 < _
    have := rm.2.1; omega
  intro env h₁ tk m hsc hgl hbl keep hloc hns hm
  have b1 : ∀ b o, c.h0.get? b = some o → h₁.get? b = some o := fun b o e => keep b o (g0 b o (base b o e))
  have hk : env.scope.kind = .function := by rw [hsc]; exact F.ki
  have hne : hh.objs.size ≠ env.locals := fun e => by rw [← e] at hloc; rw [hloc] at hdx; cases hdx
  have hxd : hh.objs.size + 1 ≠ hh.objs.size := by intro e; exact absurd (show (hh.objs.size : Nat) + 1 = hh.objs.size from e) (by omega)
  have ms := hm "self" _ (List.Mem.head _)
  let L : Obj := { cls := .type "list", data := .seq (List.toArray []) }
  have kL : ∀ b o, h₁.get? b = some o → (h₁.push L).get? b = some o := fun b o e => Heap.get?_push_of_some _ e
  have I1 : InstAt (h₁.push L) (hh.objs.size + 1) (instObjOf CH hh.objs.size) CH (some emptyDict) := ⟨kL _ _ (keep _ _ hx), rfl, rfl, kL _ _ (keep _ _ hdx)⟩
  have hnsL : (h₁.push L).Ns env.locals m := hns.at' fun o e => kL _ o e
  have aL : OL (h₁.push L) h₁.objs.size #[] := isList_push h₁ []
  have hself : env.scope.names.lookup ("self" : Str) = some .local := by rw [hsc, e1]; rfl
  refine wpAny_execs_cons (plainObj_wpAny_Assign_Attribute ?_ (by rfl))
  show wpAny _ _ (do standAt _; newList (← spliced (backTo _ (starEach [] env)))) _ _ _
  refine wpAny_bind (wpAny_standAt (wpAny_bind (wpAny_items_nil (wpAny_newObj_type ?_ (by show (0 : Nat) ≤ _; exact Nat.zero_le _)))))
  refine looks_name hk hself hnsL ms ?_
  refine setattr_step (N.inn.keeps fun b o e => kL b o (b1 b o e)) I1 rfl N.sa N.over (N.tk "things" (by decide)) N.hd (by rfl) (es := [_]) rfl (Nat.le_of_ble_eq_true rfl) ?_
  have D : (h₁.push L).get? hh.objs.size = some emptyDict := I1.dict
  have D' := Heap.get?_update_self (Obj.putName "things" (PyData.keyHash c.w.params "things") (.str "things" (tk + 1)) (.ref h₁.objs.size)) D rfl
  have sb := Heap.SameBut.update (h₁.push L) hh.objs.size (Obj.putName "things" (PyData.keyHash c.w.params "things") (.str "things" (tk + 1)) (.ref h₁.objs.size))
  refine wpAny_execs_nil ⟨rfl, ?_⟩
  have hdn : ∀ o, hh.get? hh.objs.size = some o → False := fun o e => by rw [fresh_size] at e; cases e
  have f1 : hh.get? (hh.objs.size + 1) = none := by
    cases e : hh.get? (hh.objs.size + 1) with
    | none => rfl
    | some o => exact absurd (Heap.lt_size e) (by show ¬ (hh.objs.size : Nat) + 1 < hh.objs.size; omega)
  have neL : h₁.objs.size ≠ hh.objs.size := fun e => by
    have := keep _ _ hdx
    rw [← e, fresh_size] at this; cases this
  refine q (hh.objs.size + 1) hh.objs.size h₁.objs.size _ _ ⟨fun b o e => (sb.2 b fun q => hdn o (q ▸ e)).trans (kL b o (keep b o (g0 b o e))), rfl, rfl, rfl⟩ ?_ (ol_at aL fun o e => (sb.2 _ neL).trans e) f1 (fresh_size hh) ((sb.2 _ hxd).trans I1.at_) D' ?_ ?_
  · show hh.get? h₁.objs.size = none
    cases e : hh.get? h₁.objs.size with
    | none => rfl
    | some o => have := keep _ _ (g0 _ _ e); rw [fresh_size] at this; cases this
  · intro i n v hn hv
    match i, hn, hv with
    | 0, hn, hv => cases hn; cases hv; rfl
    | i + 1, hn, _ => simp at hn
  · intro n hn
    simp only [methNames, List.mem_cons, List.not_mem_nil, or_false] at hn
    rcases hn with rfl | rfl | rfl <;> rfl
end
noncomputable def rowHeld (r : Row) : List Int × Bool := match r.2.2 with
  | some m => (pick r.1 r.2.1 m, true)
  | none => ([r.1], false)
noncomputable def rowAt (r : Row) (i : Int) : Int := r.1 + r.2.1 * (i - 1)
noncomputable def RowFit (r : Row) (z : Int) : Prop := 1 ≤ r.1 ∧ r.1 ≤ z ∧ ∀ m, r.2.2 = some m → 1 ≤ m ∧ m ≤ 4 ∧ 1 ≤ rowAt r m ∧ rowAt r m ≤ z
noncomputable def RowsFit : List Row → List Int → Prop
  | [], [] => True
  | r :: rs, z :: l => RowFit r z ∧ RowsFit rs l
  | _, _ => False
theorem RowsFit.length : ∀ {rs : List Row} {l : List Int}, RowsFit rs l → rs.length = l.length
  | [], [], _ => rfl
  | _ :: rs, _ :: l, h => by rw [List.length_cons, List.length_cons, RowsFit.length h.2]
  | [], _ :: _, h => h.elim
  | _ :: _, [], h => h.elim
theorem rk_nil (st : List Int) : rowsKept (([] : List Row).zip st) = [] := by simp [rowsKept]
theorem rk_none (f s b : Int) (rs : List Row) (st : List Int) : rowsKept ((((f, s, none) : Row) :: rs).zip (b :: st)) = rowsKept (rs.zip st) := by simp [rowsKept]
theorem rk_some (f s m b : Int) (rs : List Row) (st : List Int) : rowsKept ((((f, s, some m) : Row) :: rs).zip (b :: st)) = m :: rowsKept (rs.zip st) := by simp [rowsKept]
theorem rs_none (f s b : Int) (rs : List Row) (st : List Int) : rowsSteps ((((f, s, none) : Row) :: rs).zip (b :: st)) = rowsSteps (rs.zip st) := by simp [rowsSteps]
theorem rs_some (f s m b : Int) (rs : List Row) (st : List Int) : rowsSteps ((((f, s, some m) : Row) :: rs).zip (b :: st)) = s * b :: rowsSteps (rs.zip st) := by simp [rowsSteps]
theorem rp_cons (r : Row) (b : Int) (rs : List Row) (st : List Int) : rowsPlace ((r :: rs).zip (b :: st)) = (r.1 - 1) * b + rowsPlace (rs.zip st) := by simp [rowsPlace]
theorem rs_nil (st : List Int) : rowsSteps (([] : List Row).zip st) = [] := by simp [rowsSteps]
theorem kept_steps_len : ∀ (rs : List Row) (st : List Int), (rowsSteps (rs.zip st)).length = (rowsKept (rs.zip st)).length
  | [], st => by rw [rs_nil, rk_nil]
  | _ :: _, [] => by simp [rowsSteps, rowsKept]
  | (f, s, none) :: rs, b :: st => by rw [rs_none, rk_none, kept_steps_len rs st]
  | (f, s, some m) :: rs, b :: st => by rw [rs_some, rk_some, List.length_cons, List.length_cons, kept_steps_len rs st]
theorem kept_le : ∀ (rs : List Row) (st : List Int), (rowsKept (rs.zip st)).length ≤ rs.length
  | [], st => by rw [rk_nil]; exact Nat.le_refl _
  | _ :: _, [] => by simp [rowsKept]
  | (f, s, none) :: rs, b :: st => by rw [rk_none]; exact Nat.le_succ_of_le (kept_le rs st)
  | (f, s, some m) :: rs, b :: st => by rw [rk_some, List.length_cons, List.length_cons]; exact Nat.succ_le_succ (kept_le rs st)
theorem kept_fit : ∀ {rs : List Row} {l st : List Int}, RowsFit rs l → ∀ m ∈ rowsKept (rs.zip st), 0 < m ∧ m ≤ 4
  | [], _, st, _, m, hm => by rw [rk_nil] at hm; cases hm
  | _ :: _, _, [], _, m, hm => by simp [rowsKept] at hm
  | (f, s, none) :: rs, _ :: l, b :: st, h, m, hm => by rw [rk_none] at hm; exact kept_fit h.2 m hm
  | (f, s, some k) :: rs, _ :: l, b :: st, h, m, hm => by
    rw [rk_some] at hm
    rcases List.mem_cons.mp hm with rfl | hm
    · have := h.1.2.2 m rfl; omega
    · exact kept_fit h.2 m hm
  | _ :: _, [], _ :: _, h, _, _ => h.elim
noncomputable def compR : List Row → List Row → List Row
  | [], _ => []
  | (f, s, none) :: rs, qs => (f, s, none) :: compR rs qs
  | (f, s, some _) :: rs, q :: qs => (f + s * (q.1 - 1), s * q.2.1, q.2.2) :: compR rs qs
  | (f, s, some m) :: rs, [] => (f, s, some m) :: rs
theorem step_place (f s g b : Int) : (f + s * (g - 1) - 1) * b = (f - 1) * b + (g - 1) * (s * b) := by
  rw [show f + s * (g - 1) - 1 = (f - 1) + s * (g - 1) by omega, Int.add_mul, Int.mul_comm s (g - 1), Int.mul_assoc]
theorem comp_view : ∀ (rs : List Row) (st : List Int) (qs : List Row), rs.length = st.length → qs.length = (rowsKept (rs.zip st)).length →
    rowsPlace ((compR rs qs).zip st) = rowsPlace (rs.zip st) + rowsPlace (qs.zip (rowsSteps (rs.zip st))) ∧
    rowsKept ((compR rs qs).zip st) = rowsKept (qs.zip (rowsSteps (rs.zip st))) ∧
    rowsSteps ((compR rs qs).zip st) = rowsSteps (qs.zip (rowsSteps (rs.zip st)))
  | [], st, qs, _, hq => by
    have : qs = [] := by rw [rk_nil] at hq; exact List.eq_nil_of_length_eq_zero hq
    subst this
    simp [compR, rs_nil, rowsPlace, rowsKept, rowsSteps]
  | _ :: _, [], _, h, _ => by simp at h
  | (f, s, none) :: rs, b :: st, qs, h, hq => by
    rw [rk_none] at hq
    obtain ⟨e1, e2, e3⟩ := comp_view rs st qs (by simpa using h) hq
    rw [compR, rp_cons, rp_cons, rk_none, rs_none, rs_none, e1, e2, e3]
    exact ⟨by omega, rfl, rfl⟩
  | (f, s, some m) :: rs, b :: st, [], h, hq => by rw [rk_some] at hq; simp at hq
  | (f, s, some m) :: rs, b :: st, (g, t, o) :: qs, h, hq => by
    rw [rk_some] at hq
    obtain ⟨e1, e2, e3⟩ := comp_view rs st qs (by simpa using h) (by simpa using hq)
    have e4 : s * t * b = t * (s * b) := by rw [Int.mul_comm s t, Int.mul_assoc]
    rw [compR, rs_some]
    refine ⟨?_, ?_, ?_⟩
    · rw [rp_cons, rp_cons, rp_cons, e1]
      show (f + s * (g - 1) - 1) * b + _ = _
      rw [step_place]
      show _ = (f - 1) * b + _ + ((g - 1) * (s * b) + _)
      omega
    · cases o with
      | none => rw [rk_none, rk_none, e2]
      | some k => rw [rk_some, rk_some, e2]
    · cases o with
      | none => rw [rs_none, rs_none, e3]
      | some k => rw [rs_some, rs_some, e3, e4]
theorem between {s a b : Int} (h0 : 0 ≤ a) (h1 : a ≤ b) : (0 ≤ s * a ∧ s * a ≤ s * b) ∨ (s * b ≤ s * a ∧ s * a ≤ 0) := by
  rcases Int.le_total 0 s with hs | hs
  · exact .inl ⟨Int.mul_nonneg hs h0, Int.mul_le_mul_of_nonneg_left h1 hs⟩
  · exact .inr ⟨Int.mul_le_mul_of_nonpos_left hs h1, Int.mul_nonpos_of_nonpos_of_nonneg hs h0⟩
theorem rowAt_in {f s m z i : Int} (h : RowFit (f, s, some m) z) (h1 : 1 ≤ i) (h2 : i ≤ m) : 1 ≤ f + s * (i - 1) ∧ f + s * (i - 1) ≤ z := by
  obtain ⟨a, b, c⟩ := h
  obtain ⟨c1, _, c2, c3⟩ := c m rfl
  have c2 : 1 ≤ f + s * (m - 1) := c2
  have c3 : f + s * (m - 1) ≤ z := c3
  have a : 1 ≤ f := a
  have b : f ≤ z := b
  rcases between (s := s) (a := i - 1) (b := m - 1) (by omega) (by omega) with ⟨x, y⟩ | ⟨x, y⟩ <;> omega
theorem comp_fit : ∀ {rs : List Row} {l st : List Int} {qs : List Row}, RowsFit rs l → st.length = l.length → RowsFit qs (rowsKept (rs.zip st)) → RowsFit (compR rs qs) l
  | [], [], st, qs, _, _, hq => trivial
  | [], _ :: _, _, _, h, _, _ => h.elim
  | _ :: _, [], _, _, h, _, _ => h.elim
  | _ :: _, _ :: _, [], _, _, h, _ => by simp at h
  | (f, s, none) :: rs, z :: l, b :: st, qs, h, hs, hq => by
    rw [rk_none] at hq
    exact ⟨h.1, comp_fit h.2 (by simpa using hs) hq⟩
  | (f, s, some m) :: rs, z :: l, b :: st, [], h, hs, hq => by rw [rk_some] at hq; exact hq.elim
  | (f, s, some m) :: rs, z :: l, b :: st, (g, t, o) :: qs, h, hs, hq => by
    rw [rk_some] at hq
    refine ⟨?_, comp_fit h.2 (by simpa using hs) hq.2⟩
    obtain ⟨q1, q2, q3⟩ := hq.1
    obtain ⟨p1, p2⟩ := rowAt_in h.1 q1 q2
    refine ⟨p1, p2, fun k hk => ?_⟩
    obtain ⟨k1, k2, k3, k4⟩ := q3 k hk
    have k3 : 1 ≤ g + t * (k - 1) := k3
    have k4 : g + t * (k - 1) ≤ m := k4
    have e : rowAt (f + s * (g - 1), s * t, o) k = f + s * ((g + t * (k - 1)) - 1) := by
      show f + s * (g - 1) + s * t * (k - 1) = _
      rw [show (g + t * (k - 1)) - 1 = (g - 1) + t * (k - 1) by omega, Int.mul_add, Int.mul_assoc, Int.add_assoc]
    refine ⟨k1, k2, ?_⟩
    show 1 ≤ rowAt (f + s * (g - 1), s * t, o) k ∧ rowAt (f + s * (g - 1), s * t, o) k ≤ z
    rw [e]
    exact rowAt_in h.1 k3 k4
theorem pick_length (f s m : Int) : (pick f s m).length = m.toNat := by unfold pick; rw [List.length_map, below_length]
theorem pick_get {f s m i : Int} (h1 : 1 ≤ i) (h2 : i ≤ m) : (pick f s m)[(i - 1).toNat]? = some (f + s * (i - 1)) := by
  unfold pick below
  rw [List.getElem?_map, ifrom_get _ _ _ (by omega)]
  show some (f + s * (0 + ((i - 1).toNat : Int))) = _
  rw [show (0 + ((i - 1).toNat : Int)) = i - 1 by omega]
theorem sel_pick {f s m g t k : Int} (h : ∀ i, 1 ≤ i → i ≤ k → 1 ≤ g + t * (i - 1) ∧ g + t * (i - 1) ≤ m) : sel (pick f s m) (pick g t k) = pick (f + s * (g - 1)) (s * t) k := by
  unfold sel
  rw [show pick g t k = (below k).map fun a => g + t * a from rfl, List.map_map]
  show _ = (below k).map fun a => (f + s * (g - 1)) + s * t * a
  refine List.map_congr_left fun a ha => ?_
  have hb := mem_below.mp ha
  have := h (a + 1) (by omega) (by omega)
  rw [Int.add_sub_cancel] at this
  show ((pick f s m)[(g + t * a - 1).toNat]?).getD 0 = _
  rw [pick_get this.1 this.2, Option.getD_some, show g + t * a - 1 = (g - 1) + t * a by omega, Int.mul_add, Int.mul_assoc, Int.add_assoc]
noncomputable def DrawnOk : List (Pt × List Int) → List Int → List Row → Prop
  | [], [], [] => True
  | p :: ps, z :: l, r :: rs => (p.1.take z = some r ∧ rowHeld r = (p.2, !isOne p.1) ∧ RowFit r z ∧ r.2.1 = stepP p.1 ∧ -1000 ≤ r.2.1 ∧ r.2.1 ≤ 1000) ∧ DrawnOk ps l rs
  | _, _, _ => False
theorem DrawnOk.len : ∀ {ps : List (Pt × List Int)} {l : List Int} {rs : List Row}, DrawnOk ps l rs → ps.length = l.length ∧ rs.length = l.length
  | [], [], [], _ => ⟨rfl, rfl⟩
  | _ :: ps, _ :: l, _ :: rs, h => by have := DrawnOk.len h.2; exact ⟨by rw [List.length_cons, List.length_cons, this.1], by rw [List.length_cons, List.length_cons, this.2]⟩
  | [], [], _ :: _, h => h.elim
  | [], _ :: _, _, h => h.elim
  | _ :: _, [], _, h => h.elim
  | _ :: _, _ :: _, [], h => h.elim
theorem DrawnOk.fit : ∀ {ps : List (Pt × List Int)} {l : List Int} {rs : List Row}, DrawnOk ps l rs → RowsFit rs l
  | [], [], [], _ => trivial
  | _ :: ps, _ :: l, _ :: rs, h => ⟨h.1.2.2.1, DrawnOk.fit h.2⟩
  | [], [], _ :: _, h => h.elim
  | [], _ :: _, _, h => h.elim
  | _ :: _, [], _, h => h.elim
  | _ :: _, _ :: _, [], h => h.elim
theorem DrawnOk.taken : ∀ {ps : List (Pt × List Int)} {l : List Int} {rs : List Row}, DrawnOk ps l rs → Taken (ps.map fun t => t.1) l rs
  | [], [], [], _ => rfl
  | _ :: ps, _ :: l, _ :: rs, h => by
    have ih := DrawnOk.taken h.2
    unfold Taken at ih ⊢
    rw [List.map_cons, List.zip_cons_cons, List.map_cons, List.map_cons, ih, h.1.1]
  | [], [], _ :: _, h => h.elim
  | [], _ :: _, _, h => h.elim
  | _ :: _, [], _, h => h.elim
  | _ :: _, _ :: _, [], h => h.elim
theorem DrawnOk.bound : ∀ {ps : List (Pt × List Int)} {l : List Int} {rs : List Row}, DrawnOk ps l rs → (∀ z ∈ l, z ≤ 4) → ∀ r ∈ rs, 1 ≤ r.1 ∧ r.1 ≤ 1000 ∧ -1000 ≤ r.2.1 ∧ r.2.1 ≤ 1000
  | [], [], [], _, _, r, hr => by cases hr
  | _ :: ps, z :: l, q :: rs, h, hz, r, hr => by
    rcases List.mem_cons.mp hr with rfl | hr
    · have := hz z (.head _)
      obtain ⟨a, b, _⟩ := h.1.2.2.1
      exact ⟨a, by omega, h.1.2.2.2.2⟩
    · exact DrawnOk.bound h.2 (fun z hz' => hz z (.tail _ hz')) r hr
  | [], [], _ :: _, h, _, _, _ => h.elim
  | [], _ :: _, _, h, _, _, _ => h.elim
  | _ :: _, [], _, h, _, _, _ => h.elim
  | _ :: _, _ :: _, [], h, _, _, _ => h.elim
theorem DrawnOk.steps : ∀ {ps : List (Pt × List Int)} {l : List Int} {rs : List Row} {st : List Int}, DrawnOk ps l rs → st.length = l.length → rowsSteps (rs.zip st) = stepsDue st ps
  | [], [], [], st, _, _ => by simp [rowsSteps, stepsDue]
  | _ :: _, _ :: _, _ :: _, [], _, h => by simp at h
  | p :: ps, z :: l, (f, s, o) :: rs, b :: st, h, hl => by
    have ih := DrawnOk.steps (st := st) h.2 (by simpa using hl)
    have e := congrArg Prod.snd h.1.2.1
    have es : s = stepP p.1 := h.1.2.2.2.1
    unfold stepsDue at ih ⊢
    rw [show (b :: st).zip (p :: ps) = (b, p) :: st.zip ps from rfl]
    cases o with
    | none =>
      have e : false = !isOne p.1 := e
      rw [rs_none, List.filter_cons_of_neg (by rw [← e]; decide), ih]
    | some m =>
      have e : true = !isOne p.1 := e
      rw [rs_some, List.filter_cons_of_pos (p := fun t : Int × (Pt × List Int) => !isOne t.2.1) e.symm, List.map_cons, ih, es, Int.mul_comm]
  | [], [], _ :: _, _, h, _ => h.elim
  | [], _ :: _, _, _, h, _ => h.elim
  | _ :: _, [], _, _, h, _ => h.elim
  | _ :: _, _ :: _, [], _, h, _ => h.elim
theorem comp_held : ∀ {rs : List Row} {l st : List Int} {ps : List (Pt × List Int)} {qs : List Row}, rs.length = st.length → DrawnOk ps (rowsKept (rs.zip st)) qs → putL (rs.map rowHeld) ps = (compR rs qs).map rowHeld
  | [], _, st, ps, qs, _, h => by simp [putL, compR]
  | _ :: _, _, [], _, _, h, _ => by simp at h
  | (f, s, none) :: rs, l, b :: st, ps, qs, hl, h => by
    rw [rk_none] at h
    rw [List.map_cons, compR, List.map_cons]
    show putL (([f], false) :: rs.map rowHeld) ps = _
    rw [putL, comp_held (l := l) (by simpa using hl) h]
    rfl
  | (f, s, some m) :: rs, l, b :: st, [], _, hl, h => by rw [rk_some] at h; exact h.elim
  | (f, s, some m) :: rs, l, b :: st, _ :: _, [], hl, h => by rw [rk_some] at h; exact h.elim
  | (f, s, some m) :: rs, l, b :: st, (p, own) :: ps, (g, t, o) :: qs, hl, h => by
    rw [rk_some] at h
    rw [List.map_cons, compR, List.map_cons]
    show putL ((pick f s m, true) :: rs.map rowHeld) ((p, own) :: ps) = _
    rw [putL, comp_held (l := l) (by simpa using hl) h.2]
    obtain ⟨_, e, fit, _⟩ := h.1
    congr 1
    cases o with
    | none =>
      obtain ⟨e1, e2⟩ := Prod.mk.inj e
      have e1 : [g] = own := e1
      have e2 : false = !isOne p := e2
      have fit : 1 ≤ g ∧ g ≤ m := ⟨fit.1, fit.2.1⟩
      show (sel (pick f s m) own, !isOne p) = ([f + s * (g - 1)], false)
      rw [← e1, ← e2]
      show ([((pick f s m)[(g - 1).toNat]?).getD 0], false) = _
      rw [pick_get fit.1 fit.2, Option.getD_some]
    | some k =>
      obtain ⟨e1, e2⟩ := Prod.mk.inj e
      have e1 : pick g t k = own := e1
      have e2 : true = !isOne p := e2
      show (sel (pick f s m) own, !isOne p) = (pick (f + s * (g - 1)) (s * t) k, true)
      rw [← e1, ← e2, sel_pick fun i h1 h2 => rowAt_in fit h1 h2]
theorem within_cons {a b : Int} {r l : List Int} (h0 : 1 ≤ a) (h1 : a ≤ b) (h : Within r l) : Within (a :: r) (b :: l) := by
  refine ⟨by rw [List.length_cons, List.length_cons, h.1], fun n x y hx hy => ?_⟩
  cases n with
  | zero => cases hx; cases hy; exact ⟨h0, h1⟩
  | succ n => exact h.2 n x y hx hy
theorem within_nil : Within [] [] := ⟨rfl, fun n a b h => by simp at h⟩
theorem due_dot : ∀ {rs : List Row} {l st r : List Int}, RowsFit rs l → st.length = l.length → Within r (rowsKept (rs.zip st)) →
    rowsPlace (rs.zip st) + dot r (rowsSteps (rs.zip st)) = dot (dueL (rs.map rowHeld) r) st ∧ Within (dueL (rs.map rowHeld) r) l
  | [], [], st, r, _, _, h => by
    rw [rk_nil] at h
    have : r = [] := List.eq_nil_of_length_eq_zero h.1
    subst this
    exact ⟨by simp [rowsPlace, rowsSteps, dot, dueL], within_nil⟩
  | [], _ :: _, _, _, h, _, _ => h.elim
  | _ :: _, [], _, _, h, _, _ => h.elim
  | _ :: _, _ :: _, [], _, _, h, _ => by simp at h
  | (f, s, none) :: rs, z :: l, b :: st, r, h, hs, hw => by
    rw [rk_none] at hw
    obtain ⟨e, w⟩ := due_dot h.2 (by simpa using hs) hw
    have d : dueL (((f, s, none) :: rs).map rowHeld) r = f :: dueL (rs.map rowHeld) r := rfl
    rw [d, rp_cons, rs_none]
    refine ⟨?_, within_cons h.1.1 h.1.2.1 w⟩
    show (f - 1) * b + _ + _ = (f - 1) * b + dot _ st
    rw [← e]; omega
  | (f, s, some m) :: rs, z :: l, b :: st, [], h, hs, hw => by rw [rk_some] at hw; simp [Within] at hw
  | (f, s, some m) :: rs, z :: l, b :: st, i :: r, h, hs, hw => by
    rw [rk_some] at hw
    have hi := hw.2 0 i m rfl rfl
    obtain ⟨e, w⟩ := due_dot h.2 (by simpa using hs) (within_tail hw)
    have d : dueL (((f, s, some m) :: rs).map rowHeld) (i :: r) = (f + s * (i - 1)) :: dueL (rs.map rowHeld) r := by
      show ((pick f s m)[(i - 1).toNat]?).getD 0 :: _ = _
      rw [pick_get hi.1 hi.2]; rfl
    have b' := rowAt_in h.1 hi.1 hi.2
    rw [d, rp_cons, rs_some]
    refine ⟨?_, within_cons b'.1 b'.2 w⟩
    show (f - 1) * b + _ + ((i - 1) * (s * b) + _) = (f + s * (i - 1) - 1) * b + dot _ st
    rw [← e, step_place]; omega
noncomputable def sizesN : Nat → List (List Int)
  | 0 => [[]]
  | n + 1 => [1, 2, 3, 4].flatMap fun z => (sizesN n).map fun l => z :: l
theorem in_sizesN : ∀ {l : List Int}, (∀ z ∈ l, 0 < z ∧ z ≤ 4) → l ∈ sizesN l.length
  | [], _ => .head _
  | z :: l, h => by
    have hz := h z (.head _)
    refine List.mem_flatMap.mpr ⟨z, ?_, List.mem_map.mpr ⟨l, in_sizesN fun y hy => h y (.tail _ hy), rfl⟩⟩
    have : z = 1 ∨ z = 2 ∨ z = 3 ∨ z = 4 := by omega
    rcases this with rfl | rfl | rfl | rfl <;> decide
noncomputable def gridC : List Int → List (List Int)
  | [] => [[]]
  | z :: l => (ifrom 1 z.toNat).flatMap fun i => (gridC l).map fun q => i :: q
theorem in_gridC : ∀ {q l : List Int}, Within q l → q ∈ gridC l
  | [], [], _ => .head _
  | [], _ :: _, h => by simp [Within] at h
  | _ :: _, [], h => by simp [Within] at h
  | i :: q, z :: l, h => by
    have := h.2 0 i z rfl rfl
    exact List.mem_flatMap.mpr ⟨i, (ifrom_mem _ _ _).mpr (by omega), List.mem_map.mpr ⟨q, in_gridC (within_tail h), rfl⟩⟩
noncomputable def backChk (n : Nat) : Bool := (sizesN n).all fun l => (gridC l).all fun q => backL (strides 1 l) (dot q (strides 1 l)) == q
theorem back_chk0 : backChk 0 = true := by decide +kernel
theorem back_chk1 : backChk 1 = true := by decide +kernel
theorem back_chk2 : backChk 2 = true := by decide +kernel
theorem back_chk3 : backChk 3 = true := by decide +kernel
theorem back_dot {q l : List Int} (hl : l.length ≤ 3) (h : ∀ z ∈ l, 0 < z ∧ z ≤ 4) (hw : Within q l) : backL (strides 1 l) (dot q (strides 1 l)) = q := by
  have c : backChk l.length = true := by
    have : l.length = 0 ∨ l.length = 1 ∨ l.length = 2 ∨ l.length = 3 := by omega
    rcases this with e | e | e | e
    · rw [e]; exact back_chk0
    · rw [e]; exact back_chk1
    · rw [e]; exact back_chk2
    · rw [e]; exact back_chk3
  exact eq_of_beq (List.all_eq_true.mp (List.all_eq_true.mp c l (in_sizesN h)) q (in_gridC hw))
theorem dot_snoc : ∀ (r b : List Int) (i f : Int), r.length = b.length → dot (r ++ [i]) (b ++ [f]) = dot r b + (i - 1) * f
  | [], [], i, f, _ => by show (i - 1) * f + 0 = 0 + _; omega
  | _ :: _, [], _, _, h => by simp at h
  | [], _ :: _, _, _, h => by simp at h
  | a :: r, c :: b, i, f, h => by
    show (a - 1) * c + dot (r ++ [i]) (b ++ [f]) = (a - 1) * c + dot r b + _
    rw [dot_snoc r b i f (by simpa using h)]; omega
theorem ifrom_succ : ∀ (n : Nat) (x : Int), ifrom (x + 1) n = (ifrom x n).map (· + 1)
  | 0, _ => rfl
  | n + 1, x => by rw [ifrom, ifrom, List.map_cons, ifrom_succ n (x + 1)]
theorem places_fold (p : Int) : ∀ (a b pb : List Int) (G : List (List Int)), a.length = b.length → (∀ r ∈ G, r.length = pb.length) →
    (a.zip b).foldl placeStep (G.map fun r => p + dot r pb) = (a.foldl gridStep G).map fun r => p + dot r (pb ++ b)
  | [], [], pb, G, _, _ => by simp
  | [], _ :: _, _, _, h, _ => by simp at h
  | _ :: _, [], _, _, h, _ => by simp at h
  | z :: a, f :: b, pb, G, h, hG => by
    have e : placeStep (G.map fun r => p + dot r pb) (z, f) = (gridStep G z).map fun r => p + dot r (pb ++ [f]) := by
      unfold placeStep gridStep
      rw [show below z = ifrom 0 z.toNat from rfl, show (1 : Int) = 0 + 1 from rfl, ifrom_succ, List.flatMap_map, List.map_flatMap]
      congr 1
      funext x
      rw [List.map_map, List.map_map]
      refine List.map_congr_left fun r hr => ?_
      show p + dot r pb + f * x = p + dot (r ++ [x + 1]) (pb ++ [f])
      rw [dot_snoc _ _ _ _ (hG r hr), Int.add_sub_cancel, Int.mul_comm, Int.add_assoc]
    rw [List.zip_cons_cons, List.foldl_cons, List.foldl_cons, e, places_fold p a b (pb ++ [f]) (gridStep G z) (by simpa using h) (fun r hr => by rw [List.length_append]; exact gridStep_row hG r hr), List.append_assoc]
    rfl
theorem places_grid (p : Int) (a b : List Int) (h : a.length = b.length) : placesL p (a.zip b) = (gridL a).map fun r => p + dot r b := by
  have := places_fold p a b [] [[]] h (fun r hr => by rw [List.mem_singleton.mp hr])
  have e : ([[]] : List (List Int)).map (fun r => p + dot r []) = [p] := by simp [dot]
  rw [e] at this
  exact this
theorem gridStep_within {G : List (List Int)} {l : List Int} {z : Int} (h : ∀ r ∈ G, Within r l) : ∀ r ∈ gridStep G z, Within r (l ++ [z]) := fun r hr => by
  obtain ⟨i, hi, hr⟩ := List.mem_flatMap.mp hr
  obtain ⟨q, hq, rfl⟩ := List.mem_map.mp hr
  have hi := (ifrom_mem _ _ _).mp hi
  have w := h q hq
  refine ⟨by rw [List.length_append, List.length_append, w.1]; rfl, fun n a b ha hb => ?_⟩
  rcases Nat.lt_or_ge n q.length with c | c
  · rw [List.getElem?_append_left c] at ha
    rw [List.getElem?_append_left (by rw [← w.1]; exact c)] at hb
    exact w.2 n a b ha hb
  · rw [List.getElem?_append_right c] at ha
    rw [List.getElem?_append_right (by rw [← w.1]; exact c)] at hb
    have wl := w.1
    cases e : n - q.length with
    | zero => rw [e] at ha; rw [← wl, e] at hb; cases ha; cases hb; omega
    | succ j => rw [e] at ha; simp at ha
theorem foldGrid_within : ∀ (a pre : List Int) (G : List (List Int)), (∀ r ∈ G, Within r pre) → ∀ r ∈ a.foldl gridStep G, Within r (pre ++ a)
  | [], pre, G, h, r, hr => by rw [List.append_nil]; exact h r hr
  | z :: a, pre, G, h, r, hr => by
    have := foldGrid_within a (pre ++ [z]) (gridStep G z) (gridStep_within h) r hr
    rwa [List.append_assoc] at this
theorem gridL_within {r l : List Int} (h : r ∈ gridL l) : Within r l := foldGrid_within l [] [[]] (fun r hr => by rw [List.mem_singleton.mp hr]; exact within_nil) r h
structure VI (a : Nat) (l : List Int) (v : Vw) (rs : List Row) : Prop where
  par : v.par = a
  fit : RowsFit rs l
  pl : v.pl = rowsPlace (rs.zip (strides 1 l))
  sz : v.sz l = rowsKept (rs.zip (strides 1 l))
  st : v.st l = rowsSteps (rs.zip (strides 1 l))
noncomputable def allRows (l : List Int) : List Row := l.map fun z => (1, 1, some z)
theorem all_rows : ∀ (l st : List Int), st.length = l.length → rowsPlace ((allRows l).zip st) = 0 ∧ rowsKept ((allRows l).zip st) = l ∧ rowsSteps ((allRows l).zip st) = st
  | [], [], _ => ⟨by simp [allRows, rowsPlace], by simp [allRows, rowsKept], by simp [allRows, rowsSteps]⟩
  | [], _ :: _, h => by simp at h
  | _ :: _, [], h => by simp at h
  | z :: l, b :: st, h => by
    obtain ⟨e1, e2, e3⟩ := all_rows l st (by simpa using h)
    have e : allRows (z :: l) = (1, 1, some z) :: allRows l := rfl
    rw [e, rp_cons, rk_some, rs_some, e1, e2, e3, Int.one_mul]
    exact ⟨by show ((1 : Int) - 1) * b + 0 = 0; simp, rfl, rfl⟩
theorem all_fit : ∀ {l : List Int}, (∀ z ∈ l, 0 < z ∧ z ≤ 4) → RowsFit (allRows l) l
  | [], _ => trivial
  | z :: l, h => by
    have hz := h z (.head _)
    refine ⟨⟨by show (1 : Int) ≤ 1; decide, by show (1 : Int) ≤ z; omega, fun m hm => ?_⟩, all_fit fun y hy => h y (.tail _ hy)⟩
    cases hm
    have e : rowAt (1, 1, some z) z = z := by show 1 + 1 * (z - 1) = z; omega
    rw [e]; omega
theorem VI.arr (a : Nat) {l : List Int} (h : ∀ z ∈ l, 0 < z ∧ z ≤ 4) : VI a l (.arr a) (allRows l) := by
  obtain ⟨e1, e2, e3⟩ := all_rows l (strides 1 l) (strides_length 1 l)
  exact ⟨rfl, all_fit h, e1.symm, e2.symm, e3.symm⟩
theorem VI.next {a : Nat} {l : List Int} {v : Vw} {rs qs : List Row} {ps : List (Pt × List Int)} (x : VI a l v rs) (d : DrawnOk ps (v.sz l) qs) :
    VI a l (newView v l qs) (compR rs qs) ∧ putL (rs.map rowHeld) ps = (compR rs qs).map rowHeld ∧ (newView v l qs).st l = stepsDue (v.st l) ps := by
  have hl := x.fit.length
  have sl := strides_length 1 l
  have dl := d.len
  rw [x.sz] at dl
  obtain ⟨e1, e2, e3⟩ := comp_view rs (strides 1 l) qs (by omega) dl.2
  have vl : (v.st l).length = (v.sz l).length := by rw [x.st, x.sz]; exact kept_steps_len _ _
  refine ⟨⟨x.par, comp_fit (st := strides 1 l) x.fit sl (by rw [← x.sz]; exact d.fit), ?_, ?_, ?_⟩, comp_held (l := l) (st := strides 1 l) (by omega) (by rw [← x.sz]; exact d), d.steps vl⟩
  · show v.pl + rowsPlace (qs.zip (v.st l)) = _
    rw [x.pl, x.st, e1]
  · show rowsKept (qs.zip (v.st l)) = _
    rw [x.st, e2]
  · show rowsSteps (qs.zip (v.st l)) = _
    rw [x.st, e3]
theorem VI.szok {a : Nat} {l : List Int} {v : Vw} {rs : List Row} (x : VI a l v rs) (hl : l.length ≤ 3) : SzOk v l := by
  refine ⟨fun z hz => ?_, ?_, ?_⟩
  · rw [x.sz] at hz; exact kept_fit x.fit z hz
  · rw [x.sz]; have := kept_le rs (strides 1 l); have := x.fit.length; omega
  · rw [x.st, x.sz]; exact kept_steps_len _ _
theorem held_wide : ∀ (rs : List Row) (l st : List Int), RowsFit rs l → st.length = l.length → heldKept (rs.map rowHeld) = (rowsKept (rs.zip st)).length ∧ wideOf (rs.map rowHeld) = rowsKept (rs.zip st) ∧ ∀ t ∈ rs.map rowHeld, 1 ≤ t.1.length ∧ t.1.length ≤ 4
  | [], _, st, _, _ => by rw [rk_nil]; exact ⟨rfl, rfl, fun t h => by cases h⟩
  | _ :: _, [], _, h, _ => h.elim
  | _ :: _, _ :: _, [], _, h => by simp at h
  | (f, s, none) :: rs, z :: l, b :: st, h, hs => by
    obtain ⟨e1, e2, e3⟩ := held_wide rs l st h.2 (by simpa using hs)
    rw [rk_none]
    refine ⟨(heldKept_cons_false _ _).trans e1, e2, fun t ht => ?_⟩
    rcases List.mem_cons.mp ht with rfl | ht
    · exact ⟨by show 1 ≤ 1; decide, by show 1 ≤ 4; decide⟩
    · exact e3 t ht
  | (f, s, some m) :: rs, z :: l, b :: st, h, hs => by
    obtain ⟨e1, e2, e3⟩ := held_wide rs l st h.2 (by simpa using hs)
    obtain ⟨m1, m2, _⟩ := h.1.2.2 m rfl
    have pl := pick_length f s m
    rw [rk_some]
    refine ⟨?_, ?_, fun t ht => ?_⟩
    · rw [List.map_cons]
      show heldKept ((pick f s m, true) :: rs.map rowHeld) = _
      rw [heldKept_cons_true, e1]; rfl
    · show ((pick f s m).length : Int) :: wideOf (rs.map rowHeld) = _
      rw [e2, pl]; congr 1; omega
    · rcases List.mem_cons.mp ht with rfl | ht
      · show 1 ≤ (pick f s m).length ∧ (pick f s m).length ≤ 4
        rw [pl]; omega
      · exact e3 t ht
theorem VI.heldok {a : Nat} {l : List Int} {v : Vw} {rs : List Row} (x : VI a l v rs) (hl : l.length ≤ 3) : HeldOk (rs.map rowHeld) (v.sz l) := by
  obtain ⟨e1, e2, e3⟩ := held_wide rs l (strides 1 l) x.fit (strides_length 1 l)
  have := x.fit.length
  exact ⟨by rw [List.length_map]; omega, by rw [x.sz]; exact e1, e3, by rw [x.sz]; exact e2⟩
theorem VI.hrow {a : Nat} {l : List Int} {v : Vw} {rs : List Row} (x : VI a l v rs) (hl : l.length ≤ 3) (h : ∀ z ∈ l, 0 < z ∧ z ≤ 4) : ∀ r ∈ gridL (v.sz l), backL (strides 1 l) (hereOf v l r) = dueL (rs.map rowHeld) r ∧ digits (hereOf v l r) l = dueL (rs.map rowHeld) r ∧ Within r (v.sz l) := fun r hr => by
  have w := gridL_within hr
  obtain ⟨e, q⟩ := due_dot (r := r) x.fit (strides_length 1 l) (by rw [← x.sz]; exact w)
  have e' : hereOf v l r = dot (dueL (rs.map rowHeld) r) (strides 1 l) := by unfold hereOf; rw [x.pl, x.st, e]
  rw [e']
  exact ⟨back_dot hl h q, (digits_dot _ _ q).1, w⟩
theorem VI.hpl {a : Nat} {l : List Int} {v : Vw} {rs : List Row} (x : VI a l v rs) : placesL v.pl ((v.sz l).zip (v.st l)) = (gridL (v.sz l)).map (hereOf v l) :=
  places_grid _ _ _ (by rw [x.sz, x.st]; exact (kept_steps_len _ _).symm)
theorem all_view (v : Vw) {l : List Int} (h : (v.st l).length = (v.sz l).length) : (newView v l (allRows (v.sz l))).pl = v.pl ∧ (newView v l (allRows (v.sz l))).st l = v.st l := by
  obtain ⟨e1, _, e3⟩ := all_rows (v.sz l) (v.st l) h
  refine ⟨?_, e3⟩
  show v.pl + rowsPlace _ = _
  rw [e1]; omega
theorem all_taken : ∀ (s : List Int), Taken (List.replicate s.length Pt.all) s (allRows s)
  | [] => rfl
  | z :: s => by
    have ih := all_taken s
    unfold Taken at ih ⊢
    rw [List.length_cons, List.replicate_succ, List.zip_cons_cons, List.map_cons, ih]; rfl
theorem part_row (γ : GS) {z : Int} (h0 : 0 < z) (h1 : z ≤ 4) : ∃ r, (partOf γ z).1.take z = some r ∧ rowHeld r = ((partOf γ z).2.1, !isOne (partOf γ z).1) ∧ RowFit r z ∧ r.2.1 = stepP (partOf γ z).1 ∧ -1000 ≤ r.2.1 ∧ r.2.1 ≤ 1000 := by
  unfold partOf
  simp only
  split
  · refine ⟨(1, 1, some z), rfl, ?_, ⟨by show (1 : Int) ≤ 1; decide, by show (1 : Int) ≤ z; omega, fun m hm => ?_⟩, rfl, by show (-1000 : Int) ≤ 1; decide, by show (1 : Int) ≤ 1000; decide⟩
    · show (pick 1 1 z, true) = (ifrom 1 z.toNat, true)
      congr 1
      unfold pick below
      rw [show (1 : Int) = 0 + 1 from rfl, ifrom_succ]
      exact List.map_congr_left fun x _ => by omega
    · cases hm
      have e : rowAt (1, 1, some z) z = z := by show 1 + 1 * (z - 1) = z; omega
      rw [e]; omega
  · have fb := knot_bound (knot γ 3).2 h0
    generalize (knot (knot γ 3).2 z).1 = fi at fb ⊢
    split
    · refine ⟨(1 + fi, 1, none), ?_, rfl, ⟨by show 1 ≤ 1 + fi; omega, by show 1 + fi ≤ z; omega, fun m hm => by cases hm⟩, rfl, by show (-1000 : Int) ≤ 1; decide, by show (1 : Int) ≤ 1000; decide⟩
      show (if 1 ≤ 1 + fi ∧ 1 + fi ≤ z then some (1 + fi, 1, none) else none) = _
      rw [if_pos (by omega)]
    · generalize hs : stepOf (knot (knot (knot γ 3).2 z).2 4).1 = s
      have mb := knot_bound (knot (knot (knot γ 3).2 z).2 4).2 (show (0 : Int) < 3 by decide)
      generalize (knot (knot (knot (knot γ 3).2 z).2 4).2 3).1 = mi at mb ⊢
      have spec := fitDown_spec (1 + fi) s z (by omega) (1 + mi).toNat (by omega)
      generalize hn : (fitDown (1 + fi) s z (1 + mi).toNat : Nat) = n at spec ⊢
      obtain ⟨n1, n2, n3, n4⟩ := spec
      have s4 : s = 1 ∨ s = 2 ∨ s = -1 ∨ s = -2 := by rw [← hs]; unfold stepOf; (repeat' split) <;> simp
      have nz : (n : Int) ≤ z := by rcases s4 with rfl | rfl | rfl | rfl <;> omega
      refine ⟨(1 + fi, s, some (n : Int)), ?_, rfl, ⟨by show 1 ≤ 1 + fi; omega, by show 1 + fi ≤ z; omega, fun m hm => ?_⟩, rfl, by show -1000 ≤ s; omega, by show s ≤ 1000; omega⟩
      · show (if (n : Int) ≤ 0 then some (1, s, some 0) else if (n : Int) > z then none else if (1 ≤ 1 + fi ∧ 1 + fi ≤ z) ∧ 1 ≤ 1 + fi + s * ((n : Int) - 1) ∧ 1 + fi + s * ((n : Int) - 1) ≤ z then some (1 + fi, s, some (n : Int)) else none) = _
        rw [if_neg (by omega), if_neg (by omega), if_pos ⟨by omega, n3, n4⟩]
      · cases hm
        exact ⟨by omega, by omega, n3, n4⟩
noncomputable def drawParts : GS → List Int → List (Pt × List Int)
  | _, [] => []
  | γ, z :: l => ((partOf γ z).1, (partOf γ z).2.1) :: drawParts (partOf γ z).2.2 l
noncomputable def afterParts : GS → List Int → GS
  | γ, [] => γ
  | γ, z :: l => afterParts (partOf γ z).2.2 l
theorem afterParts_th : ∀ (γ : GS) (l : List Int), (afterParts γ l).th = γ.th
  | _, [] => rfl
  | γ, z :: l => (afterParts_th _ l).trans (partOf_th γ z)
theorem draw_ok : ∀ (γ : GS) (l : List Int), (∀ z ∈ l, 0 < z ∧ z ≤ 4) → ∃ rs, DrawnOk (drawParts γ l) l rs
  | _, [], _ => ⟨[], trivial⟩
  | γ, z :: l, h => by
    obtain ⟨r, hr⟩ := part_row γ (h z (.head _)).1 (h z (.head _)).2
    obtain ⟨rs, hrs⟩ := draw_ok (partOf γ z).2.2 l fun y hy => h y (.tail _ hy)
    exact ⟨r :: rs, hr, hrs⟩
noncomputable def linesChk (n : Nat) : Bool := (sizesN n).all fun l => (List.range n).all fun i =>
  ((chosenL i (enumZ 0 l)).all fun ps => rowsSteps ((rowsOf ps l).zip (strides 1 l)) == [((strides 1 l)[i]?).getD 0]) &&
  ((chosenL i (enumZ 0 l)).map (fun ps => rowsPlace ((rowsOf ps l).zip (strides 1 l))) == (placesL 0 (l.zip (strides 1 l))).filter fun p => decide ((digits p l)[i]? = some 1))
theorem lines_chk1 : linesChk 1 = true := by decide +kernel
theorem lines_chk2 : linesChk 2 = true := by decide +kernel
theorem lines_chk3 : linesChk 3 = true := by decide +kernel
theorem lines_law (a : Nat) {l : List Int} {rank : Int} (hl : l.length ≤ 3) (h : ∀ z ∈ l, 0 < z ∧ z ≤ 4) (h0 : 0 ≤ rank) (h1 : rank < l.length) :
    (∀ ps ∈ chosenL rank (enumZ 0 l), (newView (.arr a) l (rowsOf ps l)).st l = [((strides 1 l)[rank.toNat]?).getD 0]) ∧
    (chosenL rank (enumZ 0 l)).map (fun ps => (newView (.arr a) l (rowsOf ps l)).pl) = (placesL 0 (l.zip (strides 1 l))).filter fun p => decide ((digits p l)[rank.toNat]? = some 1) := by
  obtain ⟨i, rfl⟩ : ∃ i : Nat, rank = i := ⟨rank.toNat, by omega⟩
  have hi : i < l.length := by omega
  have c : linesChk l.length = true := by
    have : l.length = 1 ∨ l.length = 2 ∨ l.length = 3 := by omega
    rcases this with e | e | e
    · rw [e]; exact lines_chk1
    · rw [e]; exact lines_chk2
    · rw [e]; exact lines_chk3
  have := List.all_eq_true.mp (List.all_eq_true.mp c l (in_sizesN h)) i (List.mem_range.mpr hi)
  rw [Bool.and_eq_true] at this
  obtain ⟨x, y⟩ := this
  have y := eq_of_beq y
  refine ⟨fun ps hp => eq_of_beq (List.all_eq_true.mp x ps hp), ?_⟩
  rw [show ((i : Int).toNat) = i from rfl, ← y]
  refine List.map_congr_left fun ps _ => ?_
  show 0 + rowsPlace ((rowsOf ps l).zip (strides 1 l)) = rowsPlace ((rowsOf ps l).zip (strides 1 l))
  omega
section
variable {c : Cx} {k : Nat} {S : Scope} {ρ ρ' ρ₁ ρ₂ ρ₃ σ : Vars} {γ γ' γ₁ γ₂ γ₃ : GS} {fn : Bool} {aM aT CT CH CE CR : Addr}
theorem op_mul_list {d : D} {n : Int} (h0 : 0 ≤ n) (h1 : n ≤ 1000) : Op c k (op2 (binaryOp .Mult)) [.list [d], .int n] (.d (.list (List.replicate n.toNat d))) := by
  intro A s X vs Q E rm ok base lv rs q
  obtain ⟨v, vs, rfl, r1, rs⟩ := rs.cons_inv
  obtain ⟨v2, vs, rfl, r2, rs⟩ := rs.cons_inv
  obtain rfl := rs.nil_inv
  obtain ⟨t, rfl⟩ := rep_int r2
  obtain ⟨a, ws, rfl, n1, ⟨j, h⟩, rs1⟩ : ∃ a ws, v = Value.ref a ∧ ¬ X a ∧ OL s.heap a (List.toArray ws) ∧ Reps X s.heap ws [d] := by cases r1 with | list n h r => exact ⟨_, _, rfl, n, h, r⟩
  obtain ⟨w, ws, rfl, r, rs1⟩ := rs1.cons_inv
  obtain rfl := rs1.nil_inv
  have hl : s.heap.get? a = some { cls := .type "list", dict := none, data := .seq #[w] j, slots := #[] } := h
  refine wpAny_binaryOp_repeat_ref (T := "list") (U := "int") (by decide) ⟨_, hl, rfl⟩ (fun s' => typeIs_int s' n t) noFill_list_mul F.fills_int_mul F.slot_int_rmul repeat_list F.slot_int_index.lookup
    (call_meets F.slot_int_rmul (typeIs_int s n t) F.entry_int_rmul (F.args_int_rmul_2 _ _) (int___rmul___int_list n t a #[w] j)
      ⟨hl, rfl, ⟨_, hl, rfl⟩, call_meets F.slot_list_mul ⟨_, hl, rfl⟩ F.entry_list_mul (F.args_list_mul_2 _ _)
        (AutoListH.list___mul___list_int_3 a #[w] j n t (by simp [Builtin.List.listFitsIndex]; omega) (by rw [show (#[w] : Array Value).size = 1 from rfl, Nat.one_mul]; omega) (by rw [show (#[w] : Array Value).size = 1 from rfl, Nat.one_mul]; simp [Builtin.List.listTooLong, sizeLine]; omega))
        ⟨hl, ?_⟩⟩)
  refine q _ _ (push_grow s _) ?_
  have e : List.foldl (fun x1 x2 => x1 ++ x2) #[] (List.replicate n.toNat (#[w] : Array Value)) = (List.replicate n.toNat w).toArray := by
    rw [listMul_foldl]; simp [lm_rep_flat_one]
  have g := (push_grow s { cls := .type "list", data := .seq (List.foldl (fun x1 x2 => x1 ++ x2) #[] (List.replicate (if (#[w] : Array Value).isEmpty = true then 0 else n.toNat) #[w])) }).carry (X := X)
  refine .list (vs := List.replicate n.toNat w) (not_live lv) ?_ ?_
  · have : (#[w] : Array Value).isEmpty = false := rfl
    rw [this]
    simp only [Bool.false_eq_true, if_false]
    rw [e]
    exact isList_push _ _
  · have key : ∀ m : Nat, Reps X s.heap (List.replicate m w) (List.replicate m d) := fun m => by
      induction m with
      | zero => exact .nil
      | succ m ih => rw [List.replicate_succ, List.replicate_succ]; exact .cons r ih
    exact (key n.toNat).carry g
noncomputable def drawSizes : GS → List Int → List Int
  | _, [] => []
  | γ, _ :: l => (1 + (knot γ 4).1) :: drawSizes (knot γ 4).2 l
noncomputable def afterSizes : GS → List Int → GS
  | γ, [] => γ
  | γ, _ :: l => afterSizes (knot γ 4).2 l
theorem afterSizes_th : ∀ (γ : GS) (l : List Int), (afterSizes γ l).th = γ.th
  | _, [] => rfl
  | γ, _ :: l => (afterSizes_th _ l).trans (knot_th γ 4)
theorem drawSizes_length : ∀ (γ : GS) (l : List Int), (drawSizes γ l).length = l.length
  | _, [] => rfl
  | γ, _ :: l => by rw [drawSizes, List.length_cons, List.length_cons, drawSizes_length]
theorem drawSizes_small : ∀ (γ : GS) (l : List Int), ∀ z ∈ drawSizes γ l, 0 < z ∧ z ≤ 4
  | _, [], z, h => by cases h
  | γ, _ :: l, z, h => by
    rcases List.mem_cons.mp h with rfl | h
    · have := knot_bound γ (show (0 : Int) < 4 by decide); omega
    · exact drawSizes_small _ l z h
theorem comp_thread {β : Type} (g : β → D) (r : GS → β → D) (nx : GS → β → GS) (T : β → Vars) (os : GS → List β → List D) (ls : GS → List β → GS) (o0 : ∀ γ, os γ [] = []) (l0 : ∀ γ, ls γ [] = γ) (o1 : ∀ γ b l, os γ (b :: l) = r γ b :: os (nx γ b) l) (l1 : ∀ γ b l, ls γ (b :: l) = ls (nx γ b) l)
    {elt tgt iter : Expr} {σ : Vars} : ∀ (l : List β) (γ : GS),
    (∀ γ, ∀ b ∈ l, As c S false tgt (.d (g b)) σ (T b) ∧ EvE c k S (T b) γ elt (.d (r γ b)) σ (nx γ b)) → CompR c k S elt [⟨tgt, iter, [], 0⟩] 0 (l.map g) σ γ (os γ l) σ (ls γ l)
  | [], γ, _ => by rw [o0, l0]; exact .nil
  | b :: l, γ, h => by
    rw [o1, l1]
    exact .emit rfl (h γ b (.head _)).1 .nil rfl (h γ b (.head _)).2 (comp_thread g r nx T os ls o0 l0 o1 l1 l (nx γ b) fun γ b' hb => h γ b' (.tail _ hb))
noncomputable def baseV (CH aM aT : Addr) (a : Nat) (l : List Int) : Vars := upd (upd (upd (upd e0 "sizes" (.d (.ints l))) "array" (.d (Vw.arr a).d)) "heap" (.d (heapD CH aT))) "mast" (.d (.raw (.ref aM)))
noncomputable def turnV (CH aM aT : Addr) (a : Nat) (l : List Int) (v : Vw) (h : Held) : Vars := upd (upd (baseV CH aM aT a l) "view" (.d v.d)) "held" (.d (.list (h.map heldD)))
noncomputable def forBody (s : Stmt) : List Stmt := match s with
  | .For _ _ b _ _ => b
  | _ => []
noncomputable def forTgt (s : Stmt) : Expr := match s with
  | .For t _ _ _ _ => t
  | _ => .Constant .none 0 default
end
section
variable {c : Cx} {k : Nat} {S : Scope} {ρ ρ' ρ₁ ρ₂ ρ₃ σ : Vars} {γ γ' γ₁ γ₂ γ₃ : GS} {fn : Bool} {aM aT CT CH CE CR : Addr}
theorem DrawnOk.kept : ∀ {ps : List (Pt × List Int)} {l : List Int} {rs : List Row} {st : List Int}, DrawnOk ps l rs → st.length = l.length → (keptL ps).length = (rowsKept (rs.zip st)).length
  | [], [], [], st, _, _ => by simp [rowsKept, keptL]
  | _ :: _, _ :: _, _ :: _, [], _, h => by simp at h
  | p :: ps, z :: l, (f, s, o) :: rs, b :: st, h, hl => by
    have ih := DrawnOk.kept (st := st) h.2 (by simpa using hl)
    have e := congrArg Prod.snd h.1.2.1
    unfold keptL at ih ⊢
    cases o with
    | none =>
      have e : false = !isOne p.1 := e
      rw [rk_none, List.filter_cons_of_neg (by rw [← e]; decide), ih]
    | some m =>
      have e : true = !isOne p.1 := e
      rw [rk_some, List.filter_cons_of_pos (p := fun t : Pt × List Int => !isOne t.1) e.symm, List.map_cons, List.length_cons, List.length_cons, ih]
  | [], [], _ :: _, _, h, _ => h.elim
  | [], _ :: _, _, _, h, _ => h.elim
  | _ :: _, [], _, _, h, _ => h.elim
  | _ :: _, _ :: _, [], _, h, _ => h.elim
theorem DrawnOk.own : ∀ {ps : List (Pt × List Int)} {l : List Int} {rs : List Row}, DrawnOk ps l rs → (∀ z ∈ l, z ≤ 4) → (∀ p ∈ ps, p.2.length ≤ 1000) ∧ ∀ (n : Nat) (p : Pt × List Int) (z : Int), ps[n]? = some p → l[n]? = some z → ∀ i ∈ p.2, 1 ≤ i ∧ i ≤ z
  | [], [], [], _, _ => ⟨fun p h => (by cases h), fun n p z h => (by simp at h)⟩
  | p :: ps, z :: l, (f, s, o) :: rs, h, hz => by
    obtain ⟨i1, i2⟩ := DrawnOk.own h.2 fun y hy => hz y (.tail _ hy)
    have hz4 := hz z (.head _)
    have e := congrArg Prod.fst h.1.2.1
    have fit := h.1.2.2.1
    have hp : p.2.length ≤ 1000 ∧ ∀ i ∈ p.2, 1 ≤ i ∧ i ≤ z := by
      cases o with
      | none =>
        have e : [f] = p.2 := e
        rw [← e]
        have h1 : 1 ≤ f := fit.1
        have h2 : f ≤ z := fit.2.1
        exact ⟨by simp, fun i hi => by rw [List.mem_singleton.mp hi]; exact ⟨h1, h2⟩⟩
      | some m =>
        have e : pick f s m = p.2 := e
        have m4 : m ≤ 4 := (fit.2.2 m rfl).2.1
        rw [← e]
        refine ⟨by rw [pick_length]; omega, fun i hi => ?_⟩
        obtain ⟨j, hj, rfl⟩ := List.mem_map.mp hi
        have hj := mem_below.mp hj
        have := rowAt_in fit (show 1 ≤ j + 1 by omega) (show j + 1 ≤ m by omega)
        rwa [Int.add_sub_cancel] at this
    refine ⟨fun q hq => ?_, fun n q y h1 h2 => ?_⟩
    · rcases List.mem_cons.mp hq with rfl | hq
      · exact hp.1
      · exact i1 q hq
    · cases n with
      | zero => cases h1; cases h2; exact hp.2
      | succ n => exact i2 n q y h1 h2
  | [], [], _ :: _, h, _ => h.elim
  | [], _ :: _, _, h, _ => h.elim
  | _ :: _, [], _, h, _ => h.elim
  | _ :: _, _ :: _, [], h, _ => h.elim
theorem wide_at {a b : Held} {ix : List Int} : (wideOf (a ++ (ix, true) :: b))[heldKept a]? = some (ix.length : Int) := by
  unfold wideOf heldKept
  rw [List.filter_append, List.map_append, List.getElem?_append_right (by rw [List.length_map]; exact Nat.le_refl _), List.length_map, Nat.sub_self]
  simp
set_option maxHeartbeats 4000000 in
theorem turn_ok {a : Nat} {l : List Int} {v : Vw} {rs : List Row} {t : D} (G : Gr c) (H : HeapOk c CH aM aT CT) (oka : VwOk γ (.arr a) l) (ok : VwOk γ v l) (x : VI a l v rs) :
    ∃ v' rs', VI a l v' rs' ∧ VwOk (afterParts γ (v.sz l)) v' l ∧ VwOk (afterParts γ (v.sz l)) (.arr a) l ∧
      ExL c (k + 7) (dR 53).scope (upd (turnV CH aM aT a l v (rs.map rowHeld)) "turn" (.d t)) γ (fun env => execs (forBody (nthSt (dR 53).body 6)) env) (turnV CH aM aT a l v' (rs'.map rowHeld)) (afterParts γ (v.sz l)) := by
  have hl := ok.rank
  have hsm := ok.small
  have sok := x.szok hl
  have rk := sok.rank
  have sm := sok.small
  obtain ⟨qs, dr⟩ := draw_ok γ (v.sz l) sm
  obtain ⟨x', hput, hst⟩ := x.next dr
  have dl := dr.len
  have th := afterParts_th γ (v.sz l)
  have ok' : VwOk (afterParts γ (v.sz l)) (newView v l qs) l := vwOk_new (ok.th th) qs
  have oka' : VwOk (afterParts γ (v.sz l)) (.arr a) l := oka.th th
  have ok1 : VwOk (afterParts γ (v.sz l)) v l := ok.th th
  have sok' := x'.szok hl
  have hk := x.heldok hl
  have hk' := x'.heldok hl
  have own := dr.own fun z hz => (sm z hz).2
  have klen : (keptL (drawParts γ (v.sz l))).length = ((newView v l qs).sz l).length := dr.kept sok.same
  have ps4 : ∀ p ∈ drawParts γ (v.sz l), ∀ f s m, p.1 = .row f s m → -1000 ≤ s ∧ s ≤ 1000 := by
    have key : ∀ {ps : List (Pt × List Int)} {l : List Int} {rs : List Row}, DrawnOk ps l rs → ∀ p ∈ ps, ∀ f s m, p.1 = .row f s m → -1000 ≤ s ∧ s ≤ 1000 := by
      intro ps
      induction ps with
      | nil => intro l rs _ p hp; cases hp
      | cons q ps ih =>
        intro l rs h p hp f s m e
        cases l with
        | nil => exact h.elim
        | cons z l =>
          cases rs with
          | nil => exact h.elim
          | cons r rs =>
            rcases List.mem_cons.mp hp with rfl | hp
            · have := h.1.2.2.2
              rw [e] at this
              have e2 : r.2.1 = s := this.1
              rw [e2] at this
              exact this.2
            · exact ih h.2 p hp f s m e
    exact key dr
  refine ⟨newView v l qs, compR rs qs, x', ok', oka', ?_⟩
  generalize hps : drawParts γ (v.sz l) = ps at *
  generalize hγ : afterParts γ (v.sz l) = γ₁ at *
  generalize hw : newView v l qs = w at *
  refine Ex.toL ?_
  let B : Vars := upd (turnV CH aM aT a l v (rs.map rowHeld)) "turn" (.d t)
  refine ex_cons (ρ₁ := upd B "pairs" (.own (ps.map pairPD))) (γ₁ := γ₁) ?_ ?_
  · refine ex_lc (γ₂ := γ₁) (out := ps.map pairPD) (σ := upd e0 "mast" (.d (.raw (.ref aM)))) (evit_data (ev_fcall (G.fn 28 (by decide)) (evs_cons (ev_name (by trivial)) (evs_cons (ev_name (by trivial)) evs_nil)) fun f F => sizes_of_ok G H F ok) (.tuple _)) (by trivial) (by rw [List.length_map]; omega) ?_ (by trivial)
    rw [← hps, ← hγ]
    exact ⟨_, comp_thread D.int (fun γ z => pairPD ((partOf γ z).1, (partOf γ z).2.1)) (fun γ z => (partOf γ z).2.2) (fun z => upd (upd e0 "mast" (.d (.raw (.ref aM)))) "size" (.d (.int z))) (fun γ l => (drawParts γ l).map pairPD) afterParts (fun _ => rfl) (fun _ => rfl) (fun _ _ _ => rfl) (fun _ _ _ => rfl) (v.sz l) γ fun γ z hz =>
      ⟨as_name, ev_sub_v (ev_fcall (G.fn 42 (by decide)) (evs_cons (ev_name (by trivial)) (evs_cons (ev_name (by trivial)) evs_nil)) fun f F => part_ok G H.hm F (sm z hz).1 (sm z hz).2) (by trivial)⟩⟩
  refine ex_freeze (x := "pairs") (by trivial) ?_
  let B1 : Vars := upd (upd B "pairs" (.own (ps.map pairPD))) "pairs" (.d (.list (ps.map pairPD)))
  refine ex_cons (ρ := B1) (ρ₁ := upd (upd B1 "view" (.d w.d)) "elder" (.d v.d)) (γ₁ := γ₁) (ex_pair (ev_name (by trivial)) (ev_fcall (G.fn 37 (by decide)) (evs_cons (ev_name (by trivial)) (evs_cons (ev_name (by trivial)) (evs_cons
    (Ev.data (ev_lc (γ₂ := γ₁) (out := (ps.map fun t => t.1).map Pt.d) (σ := e0) (evit_data (ev_name (by trivial)) (.list _)) (by trivial) (by rw [List.length_map, List.length_map]; omega) ?_ (by trivial))) evs_nil))) fun f F => (hw ▸ view_of_ok G H F ok1 sok (by rw [List.length_map]; omega) dr.taken (dr.bound fun z hz => (sm z hz).2)))) ?_
  · rw [List.map_map]
    exact ⟨_, comp_map pairPD (fun t => t.1.d) (fun t => upd (upd e0 "part" (.d t.1.d)) "indices" (.d (.list (t.2.map D.int)))) ps fun t ht => ⟨as_tuple (asl_cons as_name (asl_cons as_name asl_nil)), ev_sub_v (ev_name (by trivial)) (by trivial)⟩⟩
  let B2 : Vars := upd (upd B1 "view" (.d w.d)) "elder" (.d v.d)
  have hkp : heldKept (rs.map rowHeld) = ps.length := by rw [hk.kept, dl.1]
  refine ex_cons (ρ := B2) (ρ₁ := upd B2 "held" (.d (.list (((compR rs qs).map rowHeld).map heldD)))) (γ₁ := γ₁) (ex_assign (ev_op (ev_fcall (G.fn 47 (by decide)) (evs_cons (ev_name (by trivial)) (evs_cons (ev_name (by trivial)) evs_nil)) fun f F => put_ok' G F (by omega) (by have := hk.len; omega) (by omega) (fun t ht => by have := hk.some t ht; omega) own.1 fun a' l' b' e p hp i hi => ?_) (by rw [hput])) as_name) ?_
  · have wa : (v.sz l)[heldKept a']? = some (l'.length : Int) := by rw [← hk.wide, e]; exact wide_at
    exact own.2 _ p _ hp wa i hi
  let B3 : Vars := upd B2 "held" (.d (.list (((compR rs qs).map rowHeld).map heldD)))
  refine ex_cons (ρ := B3) (ρ₁ := B3) (γ₁ := γ₁) (ex_if_f (tst_bool (tst_is (t_or2 (a := false) (b := false) (tst_is (tst_not (tst_value (ev_fcall (G.fn 46 (by decide)) (evs_cons (ev_name (by trivial)) (evs_cons (ev_name (by trivial)) (evs_cons (ev_name (by trivial)) (evs_cons (ev_name (by trivial)) evs_nil)))) fun f F => view_right_ok G H F oka' ok' sok' hk' (x'.hrow hl hsm) x'.hpl))) rfl)
    fun _ => tst_is (tst_not (tst_value (ev_fcall (G.fn 48 (by decide)) (evs_cons (ev_name (by trivial)) (evs_cons (ev_name (by trivial)) (evs_cons (ev_name (by trivial)) (evs_cons (ev_name (by trivial)) evs_nil)))) fun f F => steps_right_ok G H F ok1 ok' (by omega) ps4 hst))) rfl) rfl)) ex_nil) ?_
  have av := all_view w sok'.same
  have okA : VwOk γ₁ (newView w l (allRows (w.sz l))) l := vwOk_new ok' _
  have kl3 : (keptL ps).length ≤ 3 := by rw [klen]; exact sok'.rank
  refine ex_cons (ρ := B3) (ρ₁ := B3) (γ₁ := γ₁) (ex_if_f (tst_is (tst_cmp (ev_op (ev_fcall (G.fn 29 (by decide)) (evs_cons (ev_name (by trivial)) (evs_cons (ev_fcall (G.fn 37 (by decide)) (evs_cons (ev_name (by trivial)) (evs_cons (ev_name (by trivial)) (evs_cons
      (ev_op (ev_binop (Ev.data (ev_list (evs_cons ev_none evs_nil))) (ev_bcall G rfl (evs_cons (ev_fcall (G.fn 45 (by decide)) (evs_cons (ev_name (by trivial)) evs_nil) fun f F => kept_ok G F (by omega)) evs_nil) (op_len_list (by rw [List.length_map]; omega))) (op_mul_list (by omega) (by rw [List.length_map]; omega)))
        (d' := .list ((List.replicate (w.sz l).length Pt.all).map Pt.d)) (by rw [List.length_map, Int.toNat_natCast, klen, List.map_replicate]; rfl)) evs_nil))) fun f F => view_of_ok G H F ok' sok' (by rw [List.length_replicate]) (all_taken _) fun r hr => by
          obtain ⟨z, _, rfl⟩ := List.mem_map.mp hr
          exact ⟨(by decide : (1 : Int) ≤ 1), (by decide : (1 : Int) ≤ 1000), (by decide : (-1000 : Int) ≤ 1), (by decide : (1 : Int) ≤ 1000)⟩) evs_nil)) fun f F => layout_of_ok G H F okA) (d' := .tuple [.int w.pl, .ints (w.st l)]) (by rw [av.1, av.2])) (ev_fcall (G.fn 29 (by decide)) (evs_cons (ev_name (by trivial)) (evs_cons (ev_name (by trivial)) evs_nil)) fun f F => layout_of_ok G H F ok') (op_ne_refl (n := 2) ?_)) rfl) ex_nil) (ex_end ?_)
  · exact pure_tup (by simp [pures, pure_int, pure_ints])
  · show SubV (turnV CH aM aT a l w ((compR rs qs).map rowHeld)) B3
    unfold turnV baseV
    trivial
end
noncomputable def Cx.with (c : Cx) (M : Addr → Prop) (Inv : GS → (Addr → Prop) → Heap → Prop) (hc : ∀ (γ : GS) (X X' : Addr → Prop) (h h' : Heap), Inv γ X h → Carry X h X' h' → (∀ b o, M b → h.get? b = some o → h'.get? b = some o) → Inv γ X' h') : Cx := { c with M := M, Inv := Inv, invCarry := hc }
structure LawFacts (c : Cx) (CH CT CE CR : Addr) : Prop where
  ok : CxOk c
  G : Gr c
  T : ThrownOk c CE CR
  th : ThingOk c CT
  attr : AttrOk c CH "things"
  put : ∃ f, MethOk c CH "put" f ∧ FnIs c "Heap.put" (mR 16 1) [] f
  new_array : ∃ f, MethOk c CH "new_array" f ∧ FnIs c "Heap.new_array" (mR 16 3) [] f
  object : ∃ f, MethOk c CH "object" f ∧ FnIs c "Heap.object" (mR 16 5) [] f
  hen : c.mg "enumerate" = none
  most : ∃ t, c.mg "MOST_ITEMS" = some (.int 20000 t)
  heap : c.mg "Heap" = some (.ref CH)
  new : ∃ K fI, NewOk c CH K fI ["things"] ∧ FnIs c "Heap.__init__" (mR 16 0) [] fI ∧ keepIn K (.ref CH) = true
section
variable {c : Cx} {k : Nat} {S : Scope} {ρ ρ' ρ₁ ρ₂ ρ₃ σ : Vars} {γ γ' γ₁ γ₂ γ₃ : GS} {fn : Bool} {aM aT CT CH CE CR : Addr}
theorem if_not_or {M : Model} {A : Around} {env : Env} {s : Shared} {Q : Flow → Shared → Prop} {E : Value → Shared → Prop} {x y : Expr} {body b : List Stmt} {p1 p2 p3 pos : Pos}
    (h : wpAny M A (eval x env) (fun v s₁ => v = .bool true ∧ wpAny M A (eval y env) (fun v s₂ => v = .bool true ∧ wpAny M A (execs b env) Q E s₂) E s₁) E s)
    (hx : ∀ env whole, isTrue x env whole = (do let v ← whole; standAt x.pos; holding [v] (truthy v)) := by intro _ _; rfl) (hy : ∀ env whole, isTrue y env whole = (do let v ← whole; standAt y.pos; holding [v] (truthy v)) := by intro _ _; rfl) :
    wpAny M A (execs (.If (.BoolOp .Or [.UnaryOp .Not x p1, .UnaryOp .Not y p2] p3) body [] pos :: b) env) Q E s := by
  refine wpAny_execs_cons (wpAny_If (wpAny_isTrue_BoolOp (wpAny_allTrue_Or_cons (wpAny_isTrue_Not (wpAny_isTrue_value (wpAny_mono h (fun v s₁ h₁ => ?_) fun _ _ x => x) (hx env _))))))
  obtain ⟨rfl, h₁⟩ := h₁
  refine wpAny_truthy_bool ?_
  refine wpAny_allTrue_Or_cons (wpAny_isTrue_Not (wpAny_isTrue_value (wpAny_mono h₁ (fun v s₂ h₂ => ?_) fun _ _ x => x) (hy env _)))
  obtain ⟨rfl, h₂⟩ := h₂
  refine wpAny_truthy_bool ?_
  refine wpAny_allTrue_Or_nil ?_
  exact wpAny_execs_nil h₂
theorem Rel.open_run {c : Cx} {M : Addr → Prop} {Inv : GS → (Addr → Prop) → Heap → Prop} {hc : ∀ (γ : GS) (X X' : Addr → Prop) (h h' : Heap), Inv γ X h → Carry X h X' h' → (∀ b o, M b → h.get? b = some o → h'.get? b = some o) → Inv γ X' h'}
    {γ γ' : GS} {env : Env} {W X : Addr → Prop} {ρ : Vars} {s : Shared} (R : Rel c γ env W X ρ s) (okc : CxOk (c.with M Inv hc)) (hx : ∀ b, M b → c.h0.get? b = none) (hl : ∀ b, M b → ∃ items, s.heap.IsList b items) (inv : Inv γ' (un X fun b => W b ∨ M b) s.heap) :
    Rel (c.with M Inv hc) γ' env (fun b => W b ∨ M b) X e0 s := by
  refine ⟨okc, ⟨R.g.base, fun b h => ?_, fun b h => ?_, R.g.gens, R.g.os, R.g.drawn, fun b m => .inr (.inr m), hl, inv⟩, R.kind, R.gl, R.bl, R.ns, .inl R.wl, fun b m => .inr m, R.cinj, R.cell, fun hf x a h => .inl (R.cw hf x a h), fun x u h => (by cases h), fun x y ds es v h => (by cases h)⟩
  · rcases h with h | h | h
    · exact R.g.xbase b (.inl h)
    · exact R.g.xbase b (.inr h)
    · exact hx b h
  · rcases h with h | h | h
    · exact R.g.live b (.inl h)
    · exact R.g.live b (.inr h)
    · exact list_live (hl b h).choose_spec
set_option maxHeartbeats 4000000 in
theorem law_tail {A : Around} {env : Env} {W X : Addr → Prop} {s : Shared} {γ : GS} {Q : Flow → Shared → Prop} {E : Value → Shared → Prop} (L : LawFacts c CH CT CE CR) (hm : HM c aM aT CT) (hth : γ.th = []) (hs : env.scope = (dR 53).scope) (hf : FnEnv env) (hfr : env.frame = some env.locals) (hA : A.frames = some [env]) (rm : Room A (k + 9))
    (R : Rel c γ env W X (upd (upd e0 "mast" (.d (.raw (.ref aM)))) "heap" (.d (heapD CH aT))) s)
    (q : ∀ s', (∀ b o, c.h0.get? b = some o → s'.heap.get? b = some o) → s'.gens = c.gens → s'.os = c.os → s'.drawn = c.drawn → Q (.ret (.bool true)) s') : wpAny (model c.prog c.w) A (execs ((dR 53).body.drop 1) env) Q E s := by
  have G := L.G
  have H : HeapOk c CH aM aT CT := ⟨hm, L.th, L.attr, L.put, L.new_array, L.object⟩
  obtain ⟨tk, most⟩ := L.most
  have s32 : ∀ z ∈ ([3, 2] : List Int), 0 < z ∧ z ≤ 4 := by decide
  let ρ0 : Vars := upd (upd e0 "mast" (.d (.raw (.ref aM)))) "heap" (.d (heapD CH aT))
  let γ1 : GS := { γ with th := γ.th ++ [[3, 2]] }
  have e1 : γ1.th = [[3, 2]] := by show γ.th ++ _ = _; rw [hth]; rfl
  have n0 : γ.th.length = 0 := by rw [hth]; rfl
  refine then_run (k := k + 9) (S := (dR 53).scope) (ρ := ρ0) (ρ₁ := upd ρ0 "small" (.d (Vw.arr 0).d)) (γ₁ := γ1) (ex_assign (ev_op (ev_fcall (G.fn 52 (by decide)) (evs_cons (ev_name (by trivial)) (evs_cons (ev_op (ev_tuple (evs_cons ev_int (evs_cons ev_int evs_nil)) (Nat.le_of_ble_eq_true rfl)) (d' := .ints [3, 2]) rfl) evs_nil)) fun f F => law_array_ok G H most F (by decide) s32 (by omega)) (by rw [n0])) as_name) hs hf rm R fun s₁ W₁ x₁ R₁ => ?_
  let ρ1 : Vars := upd ρ0 "small" (.d (Vw.arr 0).d)
  have ok0 : VwOk γ1 (.arr 0) [3, 2] := ⟨by rw [e1]; rfl, by rw [e1]; decide, by decide, s32⟩
  have sok0 : SzOk (.arr 0) [3, 2] := (VI.arr 0 s32).szok (by decide)
  let rs0 : List Row := [(3, -1, some 3), (2, 1, none)]
  have tk0 : Taken [.row 3 (-1) 3, .one 2] (Vw.sz [3, 2] (.arr 0)) rs0 := by
    show (([.row 3 (-1) 3, .one 2] : List Pt).zip [3, 2]).map (fun t => t.1.take t.2) = ([(3, -1, some 3), (2, 1, none)] : List Row).map some
    decide +kernel
  have okv : VwOk γ1 (newView (.arr 0) [3, 2] rs0) [3, 2] := vwOk_new ok0 rs0
  refine then_run (k := k + 9) (S := (dR 53).scope) (ρ := ρ1) (ρ₁ := ρ1) (γ₁ := γ1) (ex_if_f (tst_bool (tst_is (t_or2 (a := false) (b := false)
      (tst_cmp (ev_op (ev_fcall (G.fn 29 (by decide)) (evs_cons (ev_name (by trivial)) (evs_cons (ev_fcall (G.fn 37 (by decide)) (evs_cons (ev_name (by trivial)) (evs_cons (ev_name (by trivial)) (evs_cons (ev_op (Ev.data (ev_list (evs_cons (ev_tuple (evs_cons ev_int (evs_cons (ev_unop ev_int op_neg) (evs_cons ev_int evs_nil))) (Nat.le_of_ble_eq_true rfl)) (evs_cons ev_int evs_nil)) (Nat.le_of_ble_eq_true rfl))) (d' := .list (([.row 3 (-1) 3, .one 2] : List Pt).map Pt.d)) rfl) evs_nil)))
          fun f F => view_of_ok (rs := rs0) G H F ok0 sok0 rfl tk0 (by decide)) evs_nil)) fun f F => layout_of_ok G H F okv) (d' := .tuple [.int 5, .ints [-1]]) rfl)
        (ev_op (ev_tuple (evs_cons ev_int (evs_cons (ev_tuple (evs_cons (ev_unop ev_int op_neg) evs_nil) (Nat.le_of_ble_eq_true rfl)) evs_nil)) (Nat.le_of_ble_eq_true rfl)) (d' := .tuple [.int 5, .ints [-1]]) rfl) (op_ne_refl (n := 2) (by rfl)))
      fun _ => tst_cmp (ev_op (ev_fcall (G.fn 29 (by decide)) (evs_cons (ev_name (by trivial)) (evs_cons (ev_name (by trivial)) evs_nil)) fun f F => layout_of_ok G H F ok0) (d' := .tuple [.int 0, .ints [1, 3]]) rfl)
        (ev_op (ev_tuple (evs_cons ev_int (evs_cons (ev_tuple (evs_cons ev_int (evs_cons ev_int evs_nil)) (Nat.le_of_ble_eq_true rfl)) evs_nil)) (Nat.le_of_ble_eq_true rfl)) (d' := .tuple [.int 0, .ints [1, 3]]) rfl) (op_ne_refl (n := 2) (by rfl))) rfl)) ex_nil) hs hf rm R₁ fun s₂ W₂ x₂ R₂ => ?_
  have kb := knot_bound γ1 (show (0 : Int) < 3 by decide)
  have kth := knot_th γ1 3
  obtain ⟨n, hn⟩ : ∃ n, n = 1 + (knot γ1 3).1 := ⟨_, rfl⟩
  obtain ⟨γ2, hγ2⟩ : ∃ γ2, γ2 = (knot γ1 3).2 := ⟨_, rfl⟩
  obtain ⟨l, hl⟩ : ∃ l, l = drawSizes γ2 (below n) := ⟨_, rfl⟩
  obtain ⟨γ3, hγ3⟩ : ∃ γ3, γ3 = afterSizes γ2 (below n) := ⟨_, rfl⟩
  have th3 : γ3.th = [[3, 2]] := by rw [hγ3, afterSizes_th, hγ2, kth, e1]
  have ll : (l.length : Int) = n := by rw [hl, drawSizes_length, below_length]; omega
  have lsm : ∀ z ∈ l, 0 < z ∧ z ≤ 4 := by rw [hl]; exact drawSizes_small _ _
  refine then_run (k := k + 9) (S := (dR 53).scope) (ρ := ρ1) (ρ₁ := upd ρ1 "sizes" (.d (.ints l))) (γ₁ := γ3) (ex_assign (ev_bcall G rfl (evs_cons (Ev.data (ev_lc (γ₂ := γ3) (out := l.map D.int) (σ := upd e0 "mast" (.d (.raw (.ref aM))))
      (evit_data (ev_bcall G rfl (evs_cons (ev_binop ev_int (ev_fcall (G.fn 41 (by decide)) (evs_cons (ev_name (by trivial)) (evs_cons ev_int evs_nil)) fun f F => knot_ok G hm F (by decide) (by decide)) op_add) evs_nil) op_range1) (iter_below (z := 1 + (knot γ1 3).1) (by omega) (by omega))) (by trivial) (by rw [List.length_map]; omega) ?_ (by trivial))) evs_nil) (op_tuple_list (by rw [List.length_map]; omega))) as_name) hs hf rm R₂ fun s₃ W₃ x₃ R₃ => ?_
  · rw [hl, hγ3, ← hn, ← hγ2]
    exact ⟨_, comp_thread D.int (fun γ _ => .int (1 + (knot γ 4).1)) (fun γ _ => (knot γ 4).2) (fun z => upd (upd e0 "mast" (.d (.raw (.ref aM)))) "rank" (.d (.int z))) (fun γ l => (drawSizes γ l).map D.int) afterSizes (fun _ => rfl) (fun _ => rfl) (fun _ _ _ => rfl) (fun _ _ _ => rfl) (below n) γ2 fun γ z hz =>
      ⟨as_name, ev_sub_v (ev_binop ev_int (ev_fcall (G.fn 41 (by decide)) (evs_cons (ev_name (by trivial)) (evs_cons ev_int evs_nil)) fun f F => knot_ok G hm F (by decide) (by decide)) op_add) (by trivial)⟩⟩
  let ρ3 : Vars := upd ρ1 "sizes" (.d (.ints l))
  have lr : l.length ≤ 3 := by omega
  have l1 : 1 ≤ l.length := by omega
  let γ4 : GS := { γ3 with th := γ3.th ++ [l] }
  have e4 : γ4.th = [[3, 2], l] := by show γ3.th ++ _ = _; rw [th3]; rfl
  have n3 : γ3.th.length = 1 := by rw [th3]; rfl
  refine then_run (k := k + 9) (S := (dR 53).scope) (ρ := ρ3) (ρ₁ := upd ρ3 "array" (.d (Vw.arr 1).d)) (γ₁ := γ4) (ex_assign (ev_op (ev_fcall (G.fn 52 (by decide)) (evs_cons (ev_name (by trivial)) (evs_cons (ev_name (by trivial)) evs_nil)) fun f F => law_array_ok G H most F lr lsm (by omega)) (by rw [n3])) as_name) hs hf rm R₃ fun s₄ W₄ x₄ R₄ => ?_
  let ρ4 : Vars := upd ρ3 "array" (.d (Vw.arr 1).d)
  have oka : VwOk γ4 (.arr 1) l := ⟨by rw [e4]; rfl, by rw [e4]; exact Nat.le_of_ble_eq_true rfl, lr, lsm⟩
  have xa := VI.arr 1 lsm
  refine then_run (k := k + 9) (S := (dR 53).scope) (ρ := ρ4) (ρ₁ := upd (upd ρ4 "held" (.own (((allRows l).map rowHeld).map heldD))) "view" (.d (Vw.arr 1).d)) (γ₁ := γ4) (ex_pair (ev_name (by trivial)) (ev_lc (γ₂ := γ4) (out := ((allRows l).map rowHeld).map heldD) (σ := e0) (evit_data (ev_name (by trivial)) (.tuple _)) (by trivial) (by rw [List.length_map, List.length_map, show (allRows l).length = l.length from List.length_map ..]; omega) ?_ (by trivial))) hs hf rm R₄ fun s₅ W₅ x₅ R₅ => ?_
  · rw [show ((allRows l).map rowHeld).map heldD = l.map (fun z => heldD (rowHeld (1, 1, some z))) by unfold allRows; rw [List.map_map, List.map_map]; rfl]
    refine ⟨_, comp_map D.int (fun z => heldD (rowHeld (1, 1, some z))) (fun z => upd e0 "size" (.d (.int z))) l fun z hz => ⟨as_name, ev_sub_v (ev_op (ev_tuple (evs_cons (Ev.data (ev_bcall G rfl (evs_cons (ev_bcall G rfl (evs_cons ev_int (evs_cons (ev_binop (ev_name (by trivial)) ev_int op_add) evs_nil)) op_range2) evs_nil) (op_list_range (by decide) (by decide) (by have := lsm z hz; omega) (by have := lsm z hz; omega)))) (evs_cons ev_bool evs_nil)) (Nat.le_of_ble_eq_true rfl)) ?_) (by trivial)⟩⟩
    rw [intsFrom_eq, Int.add_sub_cancel]
    have e : pick 1 1 z = ifrom 1 z.toNat := by
      unfold pick below
      rw [show (1 : Int) = 0 + 1 from rfl, ifrom_succ]
      exact List.map_congr_left fun x _ => by omega
    show _ = D.tuple [.list ((pick 1 1 z).map D.int), .bool true]
    rw [e]
  obtain ⟨W₅', x₅', R₅'⟩ := R₅.freeze (x := "held") (by trivial)
  obtain ⟨v1, rs1, xv1, ok1, oka1, t1⟩ := turn_ok (k := k + 2) (t := .int 0) G H oka oka xa
  obtain ⟨v2, rs2, xv2, ok2, oka2, t2⟩ := turn_ok (k := k + 2) (t := .int 1) G H oka1 ok1 xv1
  generalize hγ5 : afterParts γ4 (Vw.sz l (Vw.arr 1)) = γ5 at *
  generalize hγ6 : afterParts γ5 (Vw.sz l v1) = γ6 at *
  let ρ5 : Vars := upd (upd (upd ρ4 "held" (.own (((allRows l).map rowHeld).map heldD))) "view" (.d (Vw.arr 1).d)) "held" (.d (.list (((allRows l).map rowHeld).map heldD)))
  refine then_run (k := k + 9) (S := (dR 53).scope) (ρ := ρ5) (ρ₁ := turnV CH aM aT 1 l v2 (rs2.map rowHeld)) (γ₁ := γ6) (ex_for (o := .next (turnV CH aM aT 1 l v2 (rs2.map rowHeld)) γ6) (evit_sub (σ := turnV CH aM aT 1 l (.arr 1) ((allRows l).map rowHeld)) (evit_data (ev_bcall G rfl (evs_cons ev_int evs_nil) op_range1) (iter_below (z := 2) (by decide) (by decide))) (by unfold turnV baseV; trivial))
    (.cons as_name t1 (.cons as_name t2 .nil))) hs hf rm R₅' fun s₆ W₆ x₆ R₆ => ?_
  have sok2 := xv2.szok lr
  have soka := xa.szok lr
  obtain ⟨fb, hfb, Fb⟩ := G.fn 51 (by decide)
  have frs : ∀ {γ : GS} {W : Addr → Prop} {ρ : Vars} {s : Shared}, Rel c γ env W X ρ s → Frs A [env] (un X W) s.heap := fun {γ W ρ s} R => by
    refine ⟨hA, fun env' he => ?_⟩
    rcases List.mem_cons.mp he with rfl | he
    · obtain ⟨m, n⟩ := R.ns
      exact ⟨R.kind, _, m, hfr, .inr R.wl, n⟩
    · cases he
  let ρ6 : Vars := turnV CH aM aT 1 l v2 (rs2.map rowHeld)
  have m6 : ρ6 "mast" = some (.d (.raw (.ref aM))) := by show turnV CH aM aT 1 l v2 (rs2.map rowHeld) "mast" = _; unfold turnV baseV; trivial
  have h6 : ρ6 "heap" = some (.d (heapD CH aT)) := by show turnV CH aM aT 1 l v2 (rs2.map rowHeld) "heap" = _; unfold turnV baseV; trivial
  have v6 : ρ6 "view" = some (.d v2.d) := by show turnV CH aM aT 1 l v2 (rs2.map rowHeld) "view" = _; unfold turnV baseV; trivial
  have a6 : ρ6 "array" = some (.d (Vw.arr 1).d) := by show turnV CH aM aT 1 l v2 (rs2.map rowHeld) "array" = _; unfold turnV baseV; trivial
  have s6 : ρ6 "sizes" = some (.d (.ints l)) := by show turnV CH aM aT 1 l v2 (rs2.map rowHeld) "sizes" = _; unfold turnV baseV; trivial
  have th7 : (beyondOf γ6 (v2.sz l)).th = γ6.th := beyondOf_th _ _
  have th8 : (beyondOf (beyondOf γ6 (v2.sz l)) (Vw.sz l (.arr 1))).th = γ6.th := (beyondOf_th _ _).trans th7
  refine if_not_or ?_
  refine fcall_run (k := k + 9) (S := (dR 53).scope) (ρ := ρ6) hfb Fb.at (evs_cons (ev_name m6) (evs_cons (ev_name h6) (evs_cons (ev_name v6) evs_nil))) hs rm R₆ fun vs' s₇ W₇ x₇ R₇ rs7 => ?_
  refine beyond_ok (k := k) G L.T H Fb ok2 sok2 rm R₇.ok R₇.g (frs R₇) rs7 fun s₈ k₈ g₈ => ⟨rfl, ?_⟩
  obtain ⟨R₈, _⟩ := R₇.callS k₈ (fun b hb => (frs R₇).at hb) g₈
  refine fcall_run (k := k + 9) (S := (dR 53).scope) (ρ := ρ6) hfb Fb.at (evs_cons (ev_name m6) (evs_cons (ev_name h6) (evs_cons (ev_name a6) evs_nil))) hs rm R₈ fun vs' s₉ W₉ x₉ R₉ rs9 => ?_
  refine beyond_ok (k := k) G L.T H Fb (oka2.th th7) soka rm R₉.ok R₉.g (frs R₉) rs9 fun s₁₀ k₁₀ g₁₀ => ⟨rfl, ?_⟩
  obtain ⟨R₁₀, _⟩ := R₉.callS k₁₀ (fun b hb => (frs R₉).at hb) g₁₀
  generalize hγ8 : beyondOf (beyondOf γ6 (v2.sz l)) (Vw.sz l (.arr 1)) = γ8 at *
  have rb := knot_bound γ8 (many := (l.length : Int)) (by omega)
  have rth : (knot γ8 l.length).2.th = γ6.th := (knot_th _ _).trans th8
  obtain ⟨far, hfar⟩ : ∃ far, (strides 1 l)[(knot γ8 l.length).1.toNat]? = some far := ⟨_, List.getElem?_eq_getElem (by rw [strides_length]; omega)⟩
  obtain ⟨q1, q2⟩ := lines_law 1 lr lsm rb.1 rb.2
  rw [hfar, Option.getD_some] at q1
  have last : ExS c (k + 9) (dR 53).scope ρ6 γ8 (nthSt (dR 53).body 8) (.ret (.bool true) (knot γ8 l.length).2) := ex_return (ev_fcall (G.fn 49 (by decide)) (evs_cons (ev_name h6) (evs_cons (ev_name a6) (evs_cons
      (ev_fcall (G.fn 41 (by decide)) (evs_cons (ev_name m6) (evs_cons (ev_bcall G rfl (evs_cons (ev_name s6) evs_nil) (op_len_tuple (by rw [List.length_map]; omega))) evs_nil)) fun f F => by rw [List.length_map]; exact knot_ok G hm F (by omega) (by omega)) evs_nil)))
    fun f F => lines_right_ok G L.hen H F (oka2.th rth) soka rb.1 rb.2 hfar q1 q2)
  refine wpAny_execs_cons (last A env _ X s₁₀ _ _ hs hf rm R₁₀ fun w s₁₁ W₁₁ x₁₁ g₁₁ r₁₁ => ?_)
  rw [rep_bool r₁₁]
  exact q s₁₁ g₁₁.base g₁₁.gens g₁₁.os g₁₁.drawn
end
section
variable {c : Cx} {k : Nat} {S : Scope} {ρ ρ' ρ₁ ρ₂ ρ₃ σ : Vars} {γ γ' γ₁ γ₂ γ₃ : GS} {fn : Bool} {aM aT CT CH CE CR : Addr}
theorem ccall_run {C : Addr} {K : Frag} {x : Str} {p pos : Pos} {A : Around} {env : Env} {W Z : Addr → Prop} {s : Shared} {Q : Value → Shared → Prop} {E : Value → Shared → Prop} (hm : c.mg x = some (.ref C)) (inn : K.In c.h0) (hk : keepIn K (.ref C) = true) (hs : env.scope = S) (rm : Room A k) (R : Rel c γ env W Z ρ s)
    (q : ∀ s' W', ExtE env W s W' s' → Rel c γ env W' Z ρ s' → wpAny (model c.prog c.w) A (call (.ref C) []) Q E s')
    (hx : S.names.lookup x = some .globalImplicit := by rfl) (hd : (x == ("__debug__" : Str)) = false := by decide)
    (hfe : ∀ env, eval (.Call (.Name x p) [] [] pos) env = (do callWith pos (← eval (.Name x p) env) [] (backTo pos (starEach [] env)) (backToKw pos (keywordEach [] env))) := by intro _; rfl)
    (hp : ∀ env, (backTo pos (starEach [] env)).any (·.1) = false := by intro _; rfl) : wpAny (model c.prog c.w) A (eval (.Call (.Name x p) [] [] pos) env) Q E s := by
  show wpAny _ A (eval (.Call (.Name x p) [] [] pos) env) Q E s
  rw [hfe env]
  refine wpAny_bind ((ev_glob hx hm hd : EvE c k S ρ γ (.Name x p) _ ρ γ) A env W Z s _ E hs rm R fun v s₁ W₁ x₁ R₁ o₁ f₁ => ?_)
  rw [rep_raw o₁.1]
  refine callWith_of (P := fun h => K.In h) (by rw [hp env]; rfl) (keeps_K hk) (evalArgs_of (hp env) ?_)
  refine (evs_nil : Evs c k S ρ γ [] [] ρ γ) pos A env W₁ Z s₁ _ E hs rm R₁ fun vs s₂ W₂ x₂ R₂ rs => ⟨inn.keeps R₂.g.base, ?_⟩
  obtain rfl := rs.nil_inv
  exact q s₂ W₂ (x₁.trans x₂) R₂
set_option maxHeartbeats 4000000 in
theorem law_ok {f : Addr} {zs : List Int} (hM : ∀ b, ¬ c.M b) (L : LawFacts c CH CT CE CR) (facts : ∀ M Inv hc, LawFacts (c.with M Inv hc) CH CT CE CR) (F : FnIs c (dR 53).name (dR 53) [] f) (hz : zs.length ≤ 63)
    {A : Around} {s : Shared} {X : Addr → Prop} {vs : List Value} {Q : Value → Shared → Prop} {E : Value → Shared → Prop} (rm : Room A (k + 10)) (hA : A.frames = some []) (g : GRel c γ X s) (rs : Reps X s.heap vs [.wlist (zs.map D.int)])
    (q : ∀ s', (∀ b o, c.h0.get? b = some o → s'.heap.get? b = some o) → s'.gens = c.gens → s'.os = c.os → s'.drawn = c.drawn → Q (.bool true) s') : wpAny (model c.prog c.w) A (call (.ref f) vs) Q E s := by
  have G := L.G
  obtain ⟨pl, hk, nd⟩ := chk_plain (d := dR 53) (names := ["script"]) rfl
  obtain ⟨fd, F', e1, e2, hd⟩ := F.fun pl
  have hd : fd.defaults = .none := hd.elim (·.2) fun q => absurd rfl q.1
  refine fn_raw (k := k + 9) (names := ["script"]) (ds := [.wlist (zs.map D.int)]) F' (fun s X vs _ _ rs => ⟨vs, rs, BindsTo.of_eq (by
      have hl : vs.length = 1 := rs.length
      unfold bindArgs; rw [e2, hd]; rcases vs with _ | ⟨_, _ | _⟩ <;> first | (simp at hl; done) | rfl)⟩) (fun x hx => by rw [e1]; exact hk x hx) (fun n x hx => cells_lookup n [] (.inl hx)) nd rfl rm L.ok g rs fun env W s₁ hsc fe hfr hL Gw hW hMW R rm' => ?_
  rw [e1] at hsc
  let ρ₀ : Vars := upd e0 "script" (.d (.wlist (zs.map D.int)))
  have R : Rel c γ env W X ρ₀ s₁ := R
  have hA' : (A.deeper env).frames = some [env] := Around.frames_deeper hA
  obtain ⟨fm, hfm, Fm⟩ := G.fn 40 (by decide)
  obtain ⟨K, fI, N, FI, hkeep⟩ := L.new
  refine wpAny_execs_cons (wpAny_Assign_stores ?_ (by rfl) (by obtain ⟨_, _⟩ := env; cases hsc; rfl))
  show wpAny _ _ (do standAt _; newTuple (← spliced (backTo _ (starEach _ env)))) _ _ _
  refine wpAny_bind (wpAny_standAt (wpAny_bind (wpAny_items_cons ?_ (by rfl))))
  refine fcall_run (k := k + 9) (S := (dR 53).scope) (ρ := ρ₀) hfm Fm.at (evs_cons (ev_name (by trivial)) evs_nil) hsc rm' R fun vs' s₂ W₂ x₂ R₂ rs₂ => ?_
  refine mast_ok (k := k + 7) G Fm hM hz rm' L.ok R₂.g rs₂ fun aM t u s₃ G₃ f₃ o₃ => ?_
  have R₃ := R₂.grow G₃
  refine wpAny_items_cons ?_ (by rfl)
  refine ccall_run (k := k + 9) (S := (dR 53).scope) (ρ := ρ₀) L.heap N.inn hkeep hsc rm' R₃ fun s₄ W₄ x₄ R₄ => ?_
  refine heap_new (k := k + 8) N FI rm' L.ok R₄.g.base fun xh dx aT od s₅ G₅ fT oT fx fd' hx hdx hfa hnm => ?_
  have R₅ := R₄.grow G₅
  refine wpAny_items_nil ?_
  have nW : ∀ b, s₂.heap.get? b = none → ¬ W₂ b := fun b e w => by obtain ⟨o, h⟩ := R₂.g.live b (.inr w); rw [e] at h; cases h
  have n4 : ∀ b, s₄.heap.get? b = none → ¬ un X W₄ b := fun b e w => by obtain ⟨o, h⟩ := R₄.g.live b w; rw [e] at h; cases h
  have lM4 : ∀ o, s₃.heap.get? aM = some o → s₄.heap.get? aM = some o := fun o e => x₄.keep aM o (nW aM f₃) e
  have lM : ∀ o, s₃.heap.get? aM = some o → s₅.heap.get? aM = some o := fun o e => G₅.keep aM o (lM4 o e)
  obtain ⟨oM, hoM⟩ := list_live o₃.isList
  have aMl : ∀ b, s₄.heap.get? b = none → b ≠ aM := fun b e q => by rw [q, lM4 _ hoM] at e; cases e
  obtain ⟨jT, hT⟩ := oT
  have olT : OL s₅.heap aT #[] := ⟨jT, hT⟩
  have hT' : s₅.heap.get? aT = some { cls := .type "list", dict := none, data := .seq #[] jT, slots := #[] } := hT
  have xT : xh ≠ aT := fun e => by rw [e, hT'] at hx; cases hx
  have dT : dx ≠ aT := fun e => by
    rw [e, hT'] at hdx
    cases hdx
    have := hfa 0 "things" (.ref aT) rfl rfl
    cases this
  let M : Addr → Prop := fun b => b = aM ∨ b = aT
  let c' : Cx := c.with M (HInv aM aT CT) HInv.carry
  have L' : LawFacts c' CH CT CE CR := facts M (HInv aM aT CT) HInv.carry
  have hm : HM c' aM aT CT := ⟨fun b => Iff.rfl, fun e => aMl aT fT e.symm, rfl⟩
  let γ' : GS := ⟨mast0 zs, mast1 zs, []⟩
  have b0 : ∀ b, s₂.heap.get? b = none → c.h0.get? b = none := fun b e => by
    cases q : c.h0.get? b with
    | none => rfl
    | some o => rw [R₂.g.base b o q] at e; cases e
  have b4 : ∀ b, s₄.heap.get? b = none → c.h0.get? b = none := fun b e => by
    cases q : c.h0.get? b with
    | none => rfl
    | some o => rw [R₄.g.base b o q] at e; cases e
  have R₆ : Rel c' γ' env (fun b => W₄ b ∨ M b) X e0 s₅ := R₅.open_run L'.ok
    (fun b m => m.elim (fun e => by rw [e]; exact b0 aM f₃) fun e => by rw [e]; exact b4 aT fT)
    (fun b m => m.elim (fun e => by rw [e]; exact ⟨_, (ol_at o₃ lM).isList⟩) fun e => by rw [e]; exact ⟨_, olT.isList⟩)
    ⟨⟨t, u, (ol_at o₃ lM).isList⟩, [], olT, .nil⟩
  have nx : ∀ b, s₄.heap.get? b = none → b ≠ aT → ¬ un X (fun b => W₄ b ∨ M b) b := fun b e n w => by
    rcases w with w | w | w | w
    · exact n4 b e (.inl w)
    · exact n4 b e (.inr w)
    · exact aMl b e w
    · exact n w
  have hrep : Rep (un X fun b => W₄ b ∨ M b) s₅.heap (.ref xh) (heapD CH aT) := .inst (nx xh fx xT) hx (nx dx fd' dT) hdx hfa hnm (.cons (.raw _) .nil)
  refine (op_newTuple (c := c') (k := k + 9) (ds := [.raw (.ref aM), heapD CH aT]) (Nat.le_of_ble_eq_true rfl)) (A.deeper env) s₅ (un X fun b => W₄ b ∨ M b) [.ref aM, .ref xh] _ _ rm' L'.ok R₆.g.base R₆.g.live (.cons (.raw _) (.cons hrep .nil)) fun v s₆ G₆ res => ?_
  obtain ⟨W₇, x₇, R₇, o₇, f₇⟩ := R₆.after G₆ res
  have st : ∀ (p1 p2 p3 : Pos) (j : Nat), As c' (dR 53).scope true (.Tuple [.Name "mast" p1, .Name "heap" p2] j p3) (.d (.tuple [.raw (.ref aM), heapD CH aT])) e0 (upd (upd e0 "mast" (.d (.raw (.ref aM)))) "heap" (.d (heapD CH aT))) := fun p1 p2 p3 j => as_tuple (asl_cons as_name (asl_cons as_name asl_nil))
  rw [show ((assignEach [_] env).map (·.2)) = [assign _ env] from rfl]
  refine st _ _ _ _ (A.deeper env) γ' env W₇ X s₆ v _ _ hsc (fun _ => fe) rm'.1 R₇ o₇ fun s₇ x₇' R₈ => ?_
  exact law_tail (c := c') (k := k) L' hm rfl hsc fe hfr hA' rm' R₈ fun s' h1 h2 h3 h4 => q s' h1 h2 h3 h4
end
noncomputable def cR (i : Nat) : DefRec := match nthSt pw.main.body i with
  | .ClassDef name _ _ body _ _ scope _ _ _ pos => ⟨name, ⟨[],[],none,[],[],none,[]⟩, body, scope, pos⟩
  | _ => recOf (.Pass ⟨0,0,0,0⟩)
noncomputable def kv (P : Params) (x : Str) (t : Nat) (v : Value) : DictEntry := ⟨PyData.keyHash P x, .str x t, v⟩
noncomputable def q0 (P : Params) : Obj := ⟨(.type "tuple"), none, (.seq #[] 0), #[]⟩
noncomputable def q1 (P : Params) : Obj := ⟨.none, none, (.fields #[]), #[]⟩
noncomputable def q2 (P : Params) : Obj := ⟨(.type "code"), none, (.fields #[(.str "<module>" 182), (.str "<module>" 183), (.str "/claim/cut.py" 184), (.int 1 0), (.int 0 0), (.int 0 0), (.int 0 0), (.int 0 0), (.ref 11), (.bool false), (.int 181 0), (.ref 12), .none, .none, .none, .none, (.int 185 0), (.int 1 0), (.str "/claim/cut.py" 186)]), #[]⟩
noncomputable def q3 (P : Params) : Obj := ⟨(.type "frame"), none, .plain, #[some (.ref 13), some (.ref 3), some (.ref 3), none, some (.str "__main__" 164), none, some (.ref 0)]⟩
noncomputable def H0 (P : Params) : Heap := ⟨⟨[boot_o_0 P, boot_o_1 P, boot_o_2 P, boot_o_3 P, boot_o_4 P, boot_o_5 P, boot_o_6 P, boot_o_7 P, boot_o_8 P, boot_o_9 P, boot_o_10 P, q0 P, q1 P, q2 P, q3 P]⟩, (boot_heap P).life⟩
noncomputable def H1 (P : Params) : Heap := ⟨⟨[boot_o_0 P, boot_o_1 P, boot_o_2 P, boot_o_3 P, boot_o_4 P, boot_o_5 P, boot_o_6 P, boot_o_7 P, boot_o_8 P, boot_o_9 P, boot_o_10 P, q0 P, q1 P, q2 P, q3 P]⟩, (boot_heap P).life⟩
noncomputable def q4 (P : Params) : Obj := ⟨.none, none, (.dict #[kv P "type.__subclasses__.Exception.0" 223 (.int 39 0), kv P "type.__subclasses__.Exception.n" 224 (.int 1 0)] 2), #[]⟩
noncomputable def q5 (P : Params) : Obj := ⟨(.type "dict"), none, (.dict #[kv P "__name__" 165 (.str "methodrows.errors" 194), kv P "__doc__" 166 .none, kv P "__package__" 167 .none, kv P "__loader__" 168 (.builtin "__main__.__loader__#opaque"), kv P "__spec__" 169 .none, kv P "__annotations__" 170 (.ref 6), kv P "__builtins__" 171 (.ref 4), kv P "__file__" 173 (.str "/claim/cut.py" 172), kv P "__cached__" 174 .none, kv P "_wall" 193 (.ref 21), kv P "RowsError" 226 (.ref 39), kv P "MachineFault" 242 (.ref 52)] 12), #[]⟩
noncomputable def q6 (P : Params) : Obj := ⟨.none, none, (.fields #[(.int 1 0), (.int 0 0), (.ref 20), (.int 5 0), (.int 0 0), (.ref 27), (.int 11 0), (.int 0 0), (.ref 48)]), #[]⟩
noncomputable def q7 (P : Params) : Obj := ⟨(.type "tuple"), none, (.seq #[] 0), #[]⟩
noncomputable def q8 (P : Params) : Obj := ⟨.none, none, (.fields #[]), #[]⟩
noncomputable def q9 (P : Params) : Obj := ⟨(.type "tuple"), none, (.seq #[(.str "k" 190)] 0), #[]⟩
noncomputable def q10 (P : Params) : Obj := ⟨(.type "tuple"), none, (.seq #[] 0), #[]⟩
noncomputable def q11 (P : Params) : Obj := ⟨.none, none, (.func { name := "_wall", qualname := "_wall", params := (dR 0).params, body := .stmts (dR 0).body, scope := (dR 0).scope, globals := 0, closure := [], defaults := .none, kwdefaults := .none, doc := .none, pyModule := .none, annotations := none, code := .none, closureTuple := .none, builtins := 0 }), #[]⟩
noncomputable def q12 (P : Params) : Obj := ⟨(.type "code"), none, (.fields #[(.str "_wall" 187), (.str "_wall" 188), (.str "/claim/cut.py" 189), (.int 1 0), (.int 1 0), (.int 0 0), (.int 0 0), (.int 3 0), (.ref 15), (.bool true), (.int 181 0), (.ref 16), .none, (.ref 17), (.ref 18), (.ref 19), (.int 191 0), (.int 1 0), (.str "/claim/cut.py" 192)]), #[]⟩
noncomputable def q13 (P : Params) : Obj := ⟨(.type "function"), none, (.func { name := "_wall", qualname := "_wall", params := (dR 0).params, body := .stmts (dR 0).body, scope := (dR 0).scope, globals := 3, closure := [], defaults := .none, kwdefaults := .none, doc := .none, pyModule := (.str "__main__" 164), annotations := none, code := (.ref 20), closureTuple := .none, builtins := 0 }), #[]⟩
noncomputable def q14 (P : Params) : Obj := ⟨(.type "tuple"), none, (.seq #[(.type "Exception")] 0), #[]⟩
noncomputable def q15 (P : Params) : Obj := ⟨(.type "builtin_function_or_method"), none, (.fields #[(.builtin "type.__prepare__"), (.type "type")]), #[]⟩
noncomputable def q16 (P : Params) : Obj := ⟨(.type "dict"), none, (.dict #[kv P "__module__" 203 (.str "methodrows.errors" 194), kv P "__qualname__" 205 (.str "RowsError" 204), kv P "__firstlineno__" 207 (.int 5 206), kv P "__init__" 216 (.ref 36), kv P "__static_attributes__" 219 (.ref 37)] 5), #[]⟩
noncomputable def q17 (P : Params) : Obj := ⟨(.type "tuple"), none, (.seq #[] 0), #[]⟩
noncomputable def q18 (P : Params) : Obj := ⟨.none, none, (.fields #[(.int 7 0), (.int 4 0), (.ref 35)]), #[]⟩
noncomputable def q19 (P : Params) : Obj := ⟨(.type "code"), none, (.fields #[(.str "RowsError" 198), (.str "RowsError" 199), (.str "/claim/cut.py" 200), (.int 5 0), (.int 0 0), (.int 0 0), (.int 0 0), (.int 0 0), (.ref 25), (.bool false), (.int 181 0), (.ref 26), .none, .none, .none, .none, (.int 201 0), (.int 5 0), (.str "/claim/cut.py" 202)]), #[]⟩
noncomputable def q20 (P : Params) : Obj := ⟨(.type "frame"), none, .plain, #[some (.ref 27), some (.ref 3), some (.ref 24), none, some (.str "methodrows.errors" 194), none, some (.ref 0)]⟩
noncomputable def q21 (P : Params) : Obj := ⟨(.type "tuple"), none, (.seq #[.none] 0), #[]⟩
noncomputable def q22 (P : Params) : Obj := ⟨(.type "tuple"), none, (.seq #[] 0), #[]⟩
noncomputable def q23 (P : Params) : Obj := ⟨.none, none, (.fields #[]), #[]⟩
noncomputable def q24 (P : Params) : Obj := ⟨(.type "tuple"), none, (.seq #[(.str "self" 211), (.str "message" 212), (.str "spot" 213)] 0), #[]⟩
noncomputable def q25 (P : Params) : Obj := ⟨(.type "tuple"), none, (.seq #[] 0), #[]⟩
noncomputable def q26 (P : Params) : Obj := ⟨.none, none, (.func { name := "__init__", qualname := "RowsError.__init__", params := (mR 2 0).params, body := .stmts (mR 2 0).body, scope := (mR 2 0).scope, globals := 0, closure := [], defaults := .none, kwdefaults := .none, doc := .none, pyModule := .none, annotations := none, code := .none, closureTuple := .none, builtins := 0 }), #[]⟩
noncomputable def q27 (P : Params) : Obj := ⟨(.type "code"), none, (.fields #[(.str "__init__" 208), (.str "RowsError.__init__" 209), (.str "/claim/cut.py" 210), (.int 7 0), (.int 3 0), (.int 0 0), (.int 0 0), (.int 3 0), (.ref 30), (.bool true), (.int 181 0), (.ref 31), .none, (.ref 32), (.ref 33), (.ref 34), (.int 214 0), (.int 7 0), (.str "/claim/cut.py" 215)]), #[]⟩
noncomputable def q28 (P : Params) : Obj := ⟨(.type "function"), none, (.func { name := "__init__", qualname := "RowsError.__init__", params := (mR 2 0).params, body := .stmts (mR 2 0).body, scope := (mR 2 0).scope, globals := 3, closure := [], defaults := (.ref 29), kwdefaults := .none, doc := .none, pyModule := (.str "methodrows.errors" 194), annotations := none, code := (.ref 35), closureTuple := .none, builtins := 0 }), #[]⟩
noncomputable def q29 (P : Params) : Obj := ⟨(.type "tuple"), none, (.seq #[(.str "message" 217), (.str "spot" 218)] 0), #[]⟩
noncomputable def q30 (P : Params) : Obj := ⟨(.type "dict"), none, (.dict #[kv P "__module__" 203 (.str "methodrows.errors" 194), kv P "__firstlineno__" 207 (.int 5 206), kv P "__init__" 216 (.ref 36), kv P "__static_attributes__" 219 (.ref 37), kv P "__weakref__" 221 (.ref 40), kv P "__doc__" 222 .none] 3), #[]⟩
noncomputable def q31 (P : Params) : Obj := ⟨(.type "type"), none, (.cls { name := "RowsError", bases := [(.type "Exception")], mro := [(.ref 39), (.type "Exception"), (.type "BaseException"), (.type "object")], ns := 38, qualname := "RowsError", subclasses := [(.ref 52)] }), #[some (.ref 22), none, some (.str "RowsError" 196), some (.str "RowsError" 204), some (.builtin "Exception.__new__"), some (.bool true)]⟩
noncomputable def q32 (P : Params) : Obj := ⟨(.type "getset_descriptor"), none, (.fields #[(.str "__weakref__" 220), (.ref 39), (.builtin "ExceptionGroup.__weakref__"), .none]), #[]⟩
noncomputable def q33 (P : Params) : Obj := ⟨(.type "super"), none, (.fields #[(.ref 39), (.ref 39), (.ref 39)]), #[]⟩
noncomputable def q34 (P : Params) : Obj := ⟨(.type "builtin_function_or_method"), none, (.fields #[(.builtin "object.__init_subclass__"), (.ref 39)]), #[]⟩
noncomputable def q35 (P : Params) : Obj := ⟨(.type "tuple"), none, (.seq #[(.ref 39)] 0), #[]⟩
noncomputable def q36 (P : Params) : Obj := ⟨(.type "builtin_function_or_method"), none, (.fields #[(.builtin "type.__prepare__"), (.type "type")]), #[]⟩
noncomputable def q37 (P : Params) : Obj := ⟨(.type "dict"), none, (.dict #[kv P "__module__" 234 (.str "methodrows.errors" 194), kv P "__qualname__" 236 (.str "MachineFault" 235), kv P "__firstlineno__" 238 (.int 11 237), kv P "__static_attributes__" 239 (.ref 50)] 4), #[]⟩
noncomputable def q38 (P : Params) : Obj := ⟨(.type "tuple"), none, (.seq #[] 0), #[]⟩
noncomputable def q39 (P : Params) : Obj := ⟨.none, none, (.fields #[]), #[]⟩
noncomputable def q40 (P : Params) : Obj := ⟨(.type "code"), none, (.fields #[(.str "MachineFault" 229), (.str "MachineFault" 230), (.str "/claim/cut.py" 231), (.int 11 0), (.int 0 0), (.int 0 0), (.int 0 0), (.int 0 0), (.ref 46), (.bool false), (.int 181 0), (.ref 47), .none, .none, .none, .none, (.int 232 0), (.int 11 0), (.str "/claim/cut.py" 233)]), #[]⟩
noncomputable def q41 (P : Params) : Obj := ⟨(.type "frame"), none, .plain, #[some (.ref 48), some (.ref 3), some (.ref 45), none, some (.str "methodrows.errors" 194), none, some (.ref 0)]⟩
noncomputable def q42 (P : Params) : Obj := ⟨(.type "tuple"), none, (.seq #[] 0), #[]⟩
noncomputable def q43 (P : Params) : Obj := ⟨(.type "dict"), none, (.dict #[kv P "__module__" 234 (.str "methodrows.errors" 194), kv P "__firstlineno__" 238 (.int 11 237), kv P "__static_attributes__" 239 (.ref 50), kv P "__doc__" 240 .none] 2), #[]⟩
noncomputable def q44 (P : Params) : Obj := ⟨(.type "type"), none, (.cls { name := "MachineFault", bases := [(.ref 39)], mro := [(.ref 52), (.ref 39), (.type "Exception"), (.type "BaseException"), (.type "object")], ns := 51, qualname := "MachineFault" }), #[some (.ref 43), none, some (.str "MachineFault" 227), some (.str "MachineFault" 235), some (.builtin "Exception.__new__"), some (.bool true)]⟩
noncomputable def q45 (P : Params) : Obj := ⟨(.type "super"), none, (.fields #[(.ref 52), (.ref 52), (.ref 52)]), #[]⟩
noncomputable def q46 (P : Params) : Obj := ⟨(.type "builtin_function_or_method"), none, (.fields #[(.builtin "object.__init_subclass__"), (.ref 52)]), #[]⟩
noncomputable def H2 (P : Params) : Heap := ⟨⟨[boot_o_0 P, boot_o_1 P, q4 P, q5 P, boot_o_4 P, boot_o_5 P, boot_o_6 P, boot_o_7 P, boot_o_8 P, boot_o_9 P, boot_o_10 P, q0 P, q6 P, q2 P, q3 P, q7 P, q8 P, q9 P, q10 P, q11 P, q12 P, q13 P, q14 P, q15 P, q16 P, q17 P, q18 P, q19 P, q20 P, q21 P, q22 P, q23 P, q24 P, q25 P, q26 P, q27 P, q28 P, q29 P, q30 P, q31 P, q32 P, q33 P, q34 P, q35 P, q36 P, q37 P, q38 P, q39 P, q40 P, q41 P, q42 P, q43 P, q44 P, q45 P, q46 P]⟩, (boot_heap P).life⟩
noncomputable def q47 (P : Params) : Obj := ⟨(.type "dict"), none, (.dict #[kv P "__name__" 165 (.str "methodrows.values" 327), kv P "__doc__" 166 .none, kv P "__package__" 167 .none, kv P "__loader__" 168 (.builtin "__main__.__loader__#opaque"), kv P "__spec__" 169 .none, kv P "__annotations__" 170 (.ref 6), kv P "__builtins__" 171 (.ref 4), kv P "__file__" 173 (.str "/claim/cut.py" 172), kv P "__cached__" 174 .none, kv P "_wall" 193 (.ref 21), kv P "RowsError" 226 (.ref 39), kv P "MachineFault" 242 (.ref 52), kv P "Thrown" 267 (.ref 71), kv P "int_value" 278 (.ref 81), kv P "text_value" 285 (.ref 88), kv P "error_kind" 292 (.ref 95), kv P "error_value" 300 (.ref 102), kv P "thrown" 308 (.ref 109), kv P "thrown_text" 316 (.ref 116), kv P "named" 326 (.ref 125)] 20), #[]⟩
noncomputable def q48 (P : Params) : Obj := ⟨.none, none, (.fields #[(.int 1 0), (.int 0 0), (.ref 20), (.int 5 0), (.int 0 0), (.ref 27), (.int 11 0), (.int 0 0), (.ref 48), (.int 13 0), (.int 0 0), (.ref 60), (.int 19 0), (.int 0 0), (.ref 80), (.int 21 0), (.int 0 0), (.ref 87), (.int 23 0), (.int 0 0), (.ref 94), (.int 25 0), (.int 0 0), (.ref 101), (.int 27 0), (.int 0 0), (.ref 108), (.int 29 0), (.int 0 0), (.ref 115), (.int 32 0), (.int 0 0), (.ref 124)]), #[]⟩
noncomputable def q49 (P : Params) : Obj := ⟨(.type "type"), none, (.cls { name := "RowsError", bases := [(.type "Exception")], mro := [(.ref 39), (.type "Exception"), (.type "BaseException"), (.type "object")], ns := 38, qualname := "RowsError", subclasses := [(.ref 52), (.ref 71)] }), #[some (.ref 22), none, some (.str "RowsError" 196), some (.str "RowsError" 204), some (.builtin "Exception.__new__"), some (.bool true)]⟩
noncomputable def q50 (P : Params) : Obj := ⟨(.type "tuple"), none, (.seq #[(.ref 39)] 0), #[]⟩
noncomputable def q51 (P : Params) : Obj := ⟨(.type "builtin_function_or_method"), none, (.fields #[(.builtin "type.__prepare__"), (.type "type")]), #[]⟩
noncomputable def q52 (P : Params) : Obj := ⟨(.type "dict"), none, (.dict #[kv P "__module__" 250 (.str "methodrows.errors" 194), kv P "__qualname__" 252 (.str "Thrown" 251), kv P "__firstlineno__" 254 (.int 13 253), kv P "__init__" 262 (.ref 68), kv P "__static_attributes__" 264 (.ref 69)] 5), #[]⟩
noncomputable def q53 (P : Params) : Obj := ⟨(.type "tuple"), none, (.seq #[] 0), #[]⟩
noncomputable def q54 (P : Params) : Obj := ⟨.none, none, (.fields #[(.int 15 0), (.int 4 0), (.ref 67)]), #[]⟩
noncomputable def q55 (P : Params) : Obj := ⟨(.type "code"), none, (.fields #[(.str "Thrown" 245), (.str "Thrown" 246), (.str "/claim/cut.py" 247), (.int 13 0), (.int 0 0), (.int 0 0), (.int 0 0), (.int 0 0), (.ref 58), (.bool false), (.int 181 0), (.ref 59), .none, .none, .none, .none, (.int 248 0), (.int 13 0), (.str "/claim/cut.py" 249)]), #[]⟩
noncomputable def q56 (P : Params) : Obj := ⟨(.type "frame"), none, .plain, #[some (.ref 60), some (.ref 3), some (.ref 57), none, some (.str "methodrows.errors" 194), none, some (.ref 0)]⟩
noncomputable def q57 (P : Params) : Obj := ⟨(.type "tuple"), none, (.seq #[] 0), #[]⟩
noncomputable def q58 (P : Params) : Obj := ⟨.none, none, (.fields #[]), #[]⟩
noncomputable def q59 (P : Params) : Obj := ⟨(.type "tuple"), none, (.seq #[(.str "self" 258), (.str "value" 259)] 0), #[]⟩
noncomputable def q60 (P : Params) : Obj := ⟨(.type "tuple"), none, (.seq #[] 0), #[]⟩
noncomputable def q61 (P : Params) : Obj := ⟨.none, none, (.func { name := "__init__", qualname := "Thrown.__init__", params := (mR 4 0).params, body := .stmts (mR 4 0).body, scope := (mR 4 0).scope, globals := 0, closure := [], defaults := .none, kwdefaults := .none, doc := .none, pyModule := .none, annotations := none, code := .none, closureTuple := .none, builtins := 0 }), #[]⟩
noncomputable def q62 (P : Params) : Obj := ⟨(.type "code"), none, (.fields #[(.str "__init__" 255), (.str "Thrown.__init__" 256), (.str "/claim/cut.py" 257), (.int 15 0), (.int 2 0), (.int 0 0), (.int 0 0), (.int 3 0), (.ref 62), (.bool true), (.int 181 0), (.ref 63), .none, (.ref 64), (.ref 65), (.ref 66), (.int 260 0), (.int 15 0), (.str "/claim/cut.py" 261)]), #[]⟩
noncomputable def q63 (P : Params) : Obj := ⟨(.type "function"), none, (.func { name := "__init__", qualname := "Thrown.__init__", params := (mR 4 0).params, body := .stmts (mR 4 0).body, scope := (mR 4 0).scope, globals := 3, closure := [], defaults := .none, kwdefaults := .none, doc := .none, pyModule := (.str "methodrows.errors" 194), annotations := none, code := (.ref 67), closureTuple := .none, builtins := 0 }), #[]⟩
noncomputable def q64 (P : Params) : Obj := ⟨(.type "tuple"), none, (.seq #[(.str "value" 263)] 0), #[]⟩
noncomputable def q65 (P : Params) : Obj := ⟨(.type "dict"), none, (.dict #[kv P "__module__" 250 (.str "methodrows.errors" 194), kv P "__firstlineno__" 254 (.int 13 253), kv P "__init__" 262 (.ref 68), kv P "__static_attributes__" 264 (.ref 69), kv P "__doc__" 265 .none] 2), #[]⟩
noncomputable def q66 (P : Params) : Obj := ⟨(.type "type"), none, (.cls { name := "Thrown", bases := [(.ref 39)], mro := [(.ref 71), (.ref 39), (.type "Exception"), (.type "BaseException"), (.type "object")], ns := 70, qualname := "Thrown" }), #[some (.ref 55), none, some (.str "Thrown" 243), some (.str "Thrown" 251), some (.builtin "Exception.__new__"), some (.bool true)]⟩
noncomputable def q67 (P : Params) : Obj := ⟨(.type "super"), none, (.fields #[(.ref 71), (.ref 71), (.ref 71)]), #[]⟩
noncomputable def q68 (P : Params) : Obj := ⟨(.type "builtin_function_or_method"), none, (.fields #[(.builtin "object.__init_subclass__"), (.ref 71)]), #[]⟩
noncomputable def q69 (P : Params) : Obj := ⟨(.type "tuple"), none, (.seq #[(.str "Int64" 270)] 0), #[]⟩
noncomputable def q70 (P : Params) : Obj := ⟨(.type "tuple"), none, (.seq #[] 0), #[]⟩
noncomputable def q71 (P : Params) : Obj := ⟨.none, none, (.fields #[]), #[]⟩
noncomputable def q72 (P : Params) : Obj := ⟨(.type "tuple"), none, (.seq #[(.str "number" 274), (.str "kind" 275)] 0), #[]⟩
noncomputable def q73 (P : Params) : Obj := ⟨(.type "tuple"), none, (.seq #[] 0), #[]⟩
noncomputable def q74 (P : Params) : Obj := ⟨.none, none, (.func { name := "int_value", qualname := "int_value", params := (dR 6).params, body := .stmts (dR 6).body, scope := (dR 6).scope, globals := 0, closure := [], defaults := .none, kwdefaults := .none, doc := .none, pyModule := .none, annotations := none, code := .none, closureTuple := .none, builtins := 0 }), #[]⟩
noncomputable def q75 (P : Params) : Obj := ⟨(.type "code"), none, (.fields #[(.str "int_value" 271), (.str "int_value" 272), (.str "/claim/cut.py" 273), (.int 19 0), (.int 2 0), (.int 0 0), (.int 0 0), (.int 3 0), (.ref 75), (.bool true), (.int 181 0), (.ref 76), .none, (.ref 77), (.ref 78), (.ref 79), (.int 276 0), (.int 19 0), (.str "/claim/cut.py" 277)]), #[]⟩
noncomputable def q76 (P : Params) : Obj := ⟨(.type "function"), none, (.func { name := "int_value", qualname := "int_value", params := (dR 6).params, body := .stmts (dR 6).body, scope := (dR 6).scope, globals := 3, closure := [], defaults := (.ref 74), kwdefaults := .none, doc := .none, pyModule := (.str "methodrows.forms" 268), annotations := none, code := (.ref 80), closureTuple := .none, builtins := 0 }), #[]⟩
noncomputable def q77 (P : Params) : Obj := ⟨(.type "tuple"), none, (.seq #[] 0), #[]⟩
noncomputable def q78 (P : Params) : Obj := ⟨.none, none, (.fields #[]), #[]⟩
noncomputable def q79 (P : Params) : Obj := ⟨(.type "tuple"), none, (.seq #[(.str "text" 282)] 0), #[]⟩
noncomputable def q80 (P : Params) : Obj := ⟨(.type "tuple"), none, (.seq #[] 0), #[]⟩
noncomputable def q81 (P : Params) : Obj := ⟨.none, none, (.func { name := "text_value", qualname := "text_value", params := (dR 7).params, body := .stmts (dR 7).body, scope := (dR 7).scope, globals := 0, closure := [], defaults := .none, kwdefaults := .none, doc := .none, pyModule := .none, annotations := none, code := .none, closureTuple := .none, builtins := 0 }), #[]⟩
noncomputable def q82 (P : Params) : Obj := ⟨(.type "code"), none, (.fields #[(.str "text_value" 279), (.str "text_value" 280), (.str "/claim/cut.py" 281), (.int 21 0), (.int 1 0), (.int 0 0), (.int 0 0), (.int 3 0), (.ref 82), (.bool true), (.int 181 0), (.ref 83), .none, (.ref 84), (.ref 85), (.ref 86), (.int 283 0), (.int 21 0), (.str "/claim/cut.py" 284)]), #[]⟩
noncomputable def q83 (P : Params) : Obj := ⟨(.type "function"), none, (.func { name := "text_value", qualname := "text_value", params := (dR 7).params, body := .stmts (dR 7).body, scope := (dR 7).scope, globals := 3, closure := [], defaults := .none, kwdefaults := .none, doc := .none, pyModule := (.str "methodrows.forms" 268), annotations := none, code := (.ref 87), closureTuple := .none, builtins := 0 }), #[]⟩
noncomputable def q84 (P : Params) : Obj := ⟨(.type "tuple"), none, (.seq #[] 0), #[]⟩
noncomputable def q85 (P : Params) : Obj := ⟨.none, none, (.fields #[]), #[]⟩
noncomputable def q86 (P : Params) : Obj := ⟨(.type "tuple"), none, (.seq #[(.str "name" 289)] 0), #[]⟩
noncomputable def q87 (P : Params) : Obj := ⟨(.type "tuple"), none, (.seq #[] 0), #[]⟩
noncomputable def q88 (P : Params) : Obj := ⟨.none, none, (.func { name := "error_kind", qualname := "error_kind", params := (dR 8).params, body := .stmts (dR 8).body, scope := (dR 8).scope, globals := 0, closure := [], defaults := .none, kwdefaults := .none, doc := .none, pyModule := .none, annotations := none, code := .none, closureTuple := .none, builtins := 0 }), #[]⟩
noncomputable def q89 (P : Params) : Obj := ⟨(.type "code"), none, (.fields #[(.str "error_kind" 286), (.str "error_kind" 287), (.str "/claim/cut.py" 288), (.int 23 0), (.int 1 0), (.int 0 0), (.int 0 0), (.int 3 0), (.ref 89), (.bool true), (.int 181 0), (.ref 90), .none, (.ref 91), (.ref 92), (.ref 93), (.int 290 0), (.int 23 0), (.str "/claim/cut.py" 291)]), #[]⟩
noncomputable def q90 (P : Params) : Obj := ⟨(.type "function"), none, (.func { name := "error_kind", qualname := "error_kind", params := (dR 8).params, body := .stmts (dR 8).body, scope := (dR 8).scope, globals := 3, closure := [], defaults := .none, kwdefaults := .none, doc := .none, pyModule := (.str "methodrows.forms" 268), annotations := none, code := (.ref 94), closureTuple := .none, builtins := 0 }), #[]⟩
noncomputable def q91 (P : Params) : Obj := ⟨(.type "tuple"), none, (.seq #[] 0), #[]⟩
noncomputable def q92 (P : Params) : Obj := ⟨.none, none, (.fields #[]), #[]⟩
noncomputable def q93 (P : Params) : Obj := ⟨(.type "tuple"), none, (.seq #[(.str "name" 296), (.str "parts" 297)] 0), #[]⟩
noncomputable def q94 (P : Params) : Obj := ⟨(.type "tuple"), none, (.seq #[] 0), #[]⟩
noncomputable def q95 (P : Params) : Obj := ⟨.none, none, (.func { name := "error_value", qualname := "error_value", params := (dR 9).params, body := .stmts (dR 9).body, scope := (dR 9).scope, globals := 0, closure := [], defaults := .none, kwdefaults := .none, doc := .none, pyModule := .none, annotations := none, code := .none, closureTuple := .none, builtins := 0 }), #[]⟩
noncomputable def q96 (P : Params) : Obj := ⟨(.type "code"), none, (.fields #[(.str "error_value" 293), (.str "error_value" 294), (.str "/claim/cut.py" 295), (.int 25 0), (.int 2 0), (.int 0 0), (.int 0 0), (.int 3 0), (.ref 96), (.bool true), (.int 181 0), (.ref 97), .none, (.ref 98), (.ref 99), (.ref 100), (.int 298 0), (.int 25 0), (.str "/claim/cut.py" 299)]), #[]⟩
noncomputable def q97 (P : Params) : Obj := ⟨(.type "function"), none, (.func { name := "error_value", qualname := "error_value", params := (dR 9).params, body := .stmts (dR 9).body, scope := (dR 9).scope, globals := 3, closure := [], defaults := .none, kwdefaults := .none, doc := .none, pyModule := (.str "methodrows.forms" 268), annotations := none, code := (.ref 101), closureTuple := .none, builtins := 0 }), #[]⟩
noncomputable def q98 (P : Params) : Obj := ⟨(.type "tuple"), none, (.seq #[] 0), #[]⟩
noncomputable def q99 (P : Params) : Obj := ⟨.none, none, (.fields #[]), #[]⟩
noncomputable def q100 (P : Params) : Obj := ⟨(.type "tuple"), none, (.seq #[(.str "name" 304), (.str "parts" 305)] 0), #[]⟩
noncomputable def q101 (P : Params) : Obj := ⟨(.type "tuple"), none, (.seq #[] 0), #[]⟩
noncomputable def q102 (P : Params) : Obj := ⟨.none, none, (.func { name := "thrown", qualname := "thrown", params := (dR 10).params, body := .stmts (dR 10).body, scope := (dR 10).scope, globals := 0, closure := [], defaults := .none, kwdefaults := .none, doc := .none, pyModule := .none, annotations := none, code := .none, closureTuple := .none, builtins := 0 }), #[]⟩
noncomputable def q103 (P : Params) : Obj := ⟨(.type "code"), none, (.fields #[(.str "thrown" 301), (.str "thrown" 302), (.str "/claim/cut.py" 303), (.int 27 0), (.int 2 0), (.int 0 0), (.int 0 0), (.int 3 0), (.ref 103), (.bool true), (.int 181 0), (.ref 104), .none, (.ref 105), (.ref 106), (.ref 107), (.int 306 0), (.int 27 0), (.str "/claim/cut.py" 307)]), #[]⟩
noncomputable def q104 (P : Params) : Obj := ⟨(.type "function"), none, (.func { name := "thrown", qualname := "thrown", params := (dR 10).params, body := .stmts (dR 10).body, scope := (dR 10).scope, globals := 3, closure := [], defaults := .none, kwdefaults := .none, doc := .none, pyModule := (.str "methodrows.forms" 268), annotations := none, code := (.ref 108), closureTuple := .none, builtins := 0 }), #[]⟩
noncomputable def q105 (P : Params) : Obj := ⟨(.type "tuple"), none, (.seq #[] 0), #[]⟩
noncomputable def q106 (P : Params) : Obj := ⟨.none, none, (.fields #[]), #[]⟩
noncomputable def q107 (P : Params) : Obj := ⟨(.type "tuple"), none, (.seq #[(.str "name" 312), (.str "text" 313)] 0), #[]⟩
noncomputable def q108 (P : Params) : Obj := ⟨(.type "tuple"), none, (.seq #[] 0), #[]⟩
noncomputable def q109 (P : Params) : Obj := ⟨.none, none, (.func { name := "thrown_text", qualname := "thrown_text", params := (dR 11).params, body := .stmts (dR 11).body, scope := (dR 11).scope, globals := 0, closure := [], defaults := .none, kwdefaults := .none, doc := .none, pyModule := .none, annotations := none, code := .none, closureTuple := .none, builtins := 0 }), #[]⟩
noncomputable def q110 (P : Params) : Obj := ⟨(.type "code"), none, (.fields #[(.str "thrown_text" 309), (.str "thrown_text" 310), (.str "/claim/cut.py" 311), (.int 29 0), (.int 2 0), (.int 0 0), (.int 0 0), (.int 3 0), (.ref 110), (.bool true), (.int 181 0), (.ref 111), .none, (.ref 112), (.ref 113), (.ref 114), (.int 314 0), (.int 29 0), (.str "/claim/cut.py" 315)]), #[]⟩
noncomputable def q111 (P : Params) : Obj := ⟨(.type "function"), none, (.func { name := "thrown_text", qualname := "thrown_text", params := (dR 11).params, body := .stmts (dR 11).body, scope := (dR 11).scope, globals := 3, closure := [], defaults := .none, kwdefaults := .none, doc := .none, pyModule := (.str "methodrows.forms" 268), annotations := none, code := (.ref 115), closureTuple := .none, builtins := 0 }), #[]⟩
noncomputable def q112 (P : Params) : Obj := ⟨(.type "tuple"), none, (.seq #[] 0), #[]⟩
noncomputable def q113 (P : Params) : Obj := ⟨(.type "tuple"), none, (.seq #[(.ref 117)] 0), #[]⟩
noncomputable def q114 (P : Params) : Obj := ⟨(.type "tuple"), none, (.seq #[] 0), #[]⟩
noncomputable def q115 (P : Params) : Obj := ⟨.none, none, (.fields #[]), #[]⟩
noncomputable def q116 (P : Params) : Obj := ⟨(.type "tuple"), none, (.seq #[(.str "name" 322), (.str "params" 323)] 0), #[]⟩
noncomputable def q117 (P : Params) : Obj := ⟨(.type "tuple"), none, (.seq #[] 0), #[]⟩
noncomputable def q118 (P : Params) : Obj := ⟨.none, none, (.func { name := "named", qualname := "named", params := (dR 13).params, body := .stmts (dR 13).body, scope := (dR 13).scope, globals := 0, closure := [], defaults := .none, kwdefaults := .none, doc := .none, pyModule := .none, annotations := none, code := .none, closureTuple := .none, builtins := 0 }), #[]⟩
noncomputable def q119 (P : Params) : Obj := ⟨(.type "code"), none, (.fields #[(.str "named" 319), (.str "named" 320), (.str "/claim/cut.py" 321), (.int 32 0), (.int 2 0), (.int 0 0), (.int 0 0), (.int 3 0), (.ref 119), (.bool true), (.int 181 0), (.ref 120), .none, (.ref 121), (.ref 122), (.ref 123), (.int 324 0), (.int 32 0), (.str "/claim/cut.py" 325)]), #[]⟩
noncomputable def q120 (P : Params) : Obj := ⟨(.type "function"), none, (.func { name := "named", qualname := "named", params := (dR 13).params, body := .stmts (dR 13).body, scope := (dR 13).scope, globals := 3, closure := [], defaults := (.ref 118), kwdefaults := .none, doc := .none, pyModule := (.str "methodrows.kind_terms" 317), annotations := none, code := (.ref 124), closureTuple := .none, builtins := 0 }), #[]⟩
noncomputable def H3 (P : Params) : Heap := ⟨⟨[boot_o_0 P, boot_o_1 P, q4 P, q47 P, boot_o_4 P, boot_o_5 P, boot_o_6 P, boot_o_7 P, boot_o_8 P, boot_o_9 P, boot_o_10 P, q0 P, q48 P, q2 P, q3 P, q7 P, q8 P, q9 P, q10 P, q11 P, q12 P, q13 P, q14 P, q15 P, q16 P, q17 P, q18 P, q19 P, q20 P, q21 P, q22 P, q23 P, q24 P, q25 P, q26 P, q27 P, q28 P, q29 P, q30 P, q49 P, q32 P, q33 P, q34 P, q35 P, q36 P, q37 P, q38 P, q39 P, q40 P, q41 P, q42 P, q43 P, q44 P, q45 P, q46 P, q50 P, q51 P, q52 P, q53 P, q54 P, q55 P, q56 P, q57 P, q58 P, q59 P, q60 P, q61 P, q62 P, q63 P, q64 P, q65 P, q66 P, q67 P, q68 P, q69 P, q70 P, q71 P, q72 P, q73 P, q74 P, q75 P, q76 P, q77 P, q78 P, q79 P, q80 P, q81 P, q82 P, q83 P, q84 P, q85 P, q86 P, q87 P, q88 P, q89 P, q90 P, q91 P, q92 P, q93 P, q94 P, q95 P, q96 P, q97 P, q98 P, q99 P, q100 P, q101 P, q102 P, q103 P, q104 P, q105 P, q106 P, q107 P, q108 P, q109 P, q110 P, q111 P, q112 P, q113 P, q114 P, q115 P, q116 P, q117 P, q118 P, q119 P, q120 P]⟩, (boot_heap P).life⟩
noncomputable def q121 (P : Params) : Obj := ⟨(.type "dict"), none, (.dict #[kv P "__name__" 165 (.str "methodrows.values" 327), kv P "__doc__" 166 .none, kv P "__package__" 167 .none, kv P "__loader__" 168 (.builtin "__main__.__loader__#opaque"), kv P "__spec__" 169 .none, kv P "__annotations__" 170 (.ref 6), kv P "__builtins__" 171 (.ref 4), kv P "__file__" 173 (.str "/claim/cut.py" 172), kv P "__cached__" 174 .none, kv P "_wall" 193 (.ref 21), kv P "RowsError" 226 (.ref 39), kv P "MachineFault" 242 (.ref 52), kv P "Thrown" 267 (.ref 71), kv P "int_value" 278 (.ref 81), kv P "text_value" 285 (.ref 88), kv P "error_kind" 292 (.ref 95), kv P "error_value" 300 (.ref 102), kv P "thrown" 308 (.ref 109), kv P "thrown_text" 316 (.ref 116), kv P "named" 326 (.ref 125), kv P "Thing" 361 (.ref 142), kv P "Heap" 432 (.ref 198)] 22), #[]⟩
noncomputable def q122 (P : Params) : Obj := ⟨.none, none, (.fields #[(.int 1 0), (.int 0 0), (.ref 20), (.int 5 0), (.int 0 0), (.ref 27), (.int 11 0), (.int 0 0), (.ref 48), (.int 13 0), (.int 0 0), (.ref 60), (.int 19 0), (.int 0 0), (.ref 80), (.int 21 0), (.int 0 0), (.ref 87), (.int 23 0), (.int 0 0), (.ref 94), (.int 25 0), (.int 0 0), (.ref 101), (.int 27 0), (.int 0 0), (.ref 108), (.int 29 0), (.int 0 0), (.ref 115), (.int 32 0), (.int 0 0), (.ref 124), (.int 35 0), (.int 0 0), (.ref 131), (.int 41 0), (.int 0 0), (.ref 152)]), #[]⟩
noncomputable def q123 (P : Params) : Obj := ⟨(.type "tuple"), none, (.seq #[] 0), #[]⟩
noncomputable def q124 (P : Params) : Obj := ⟨(.type "builtin_function_or_method"), none, (.fields #[(.builtin "type.__prepare__"), (.type "type")]), #[]⟩
noncomputable def q125 (P : Params) : Obj := ⟨(.type "dict"), none, (.dict #[kv P "__module__" 336 (.str "methodrows.values" 327), kv P "__qualname__" 338 (.str "Thing" 337), kv P "__firstlineno__" 340 (.int 35 339), kv P "__init__" 350 (.ref 139), kv P "__static_attributes__" 354 (.ref 140)] 5), #[]⟩
noncomputable def q126 (P : Params) : Obj := ⟨(.type "tuple"), none, (.seq #[] 0), #[]⟩
noncomputable def q127 (P : Params) : Obj := ⟨.none, none, (.fields #[(.int 37 0), (.int 4 0), (.ref 138)]), #[]⟩
noncomputable def q128 (P : Params) : Obj := ⟨(.type "code"), none, (.fields #[(.str "Thing" 331), (.str "Thing" 332), (.str "/claim/cut.py" 333), (.int 35 0), (.int 0 0), (.int 0 0), (.int 0 0), (.int 0 0), (.ref 129), (.bool false), (.int 181 0), (.ref 130), .none, .none, .none, .none, (.int 334 0), (.int 35 0), (.str "/claim/cut.py" 335)]), #[]⟩
noncomputable def q129 (P : Params) : Obj := ⟨(.type "frame"), none, .plain, #[some (.ref 131), some (.ref 3), some (.ref 128), none, some (.str "methodrows.values" 327), none, some (.ref 0)]⟩
noncomputable def q130 (P : Params) : Obj := ⟨(.type "tuple"), none, (.seq #[] 0), #[]⟩
noncomputable def q131 (P : Params) : Obj := ⟨.none, none, (.fields #[]), #[]⟩
noncomputable def q132 (P : Params) : Obj := ⟨(.type "tuple"), none, (.seq #[(.str "self" 344), (.str "kind" 345), (.str "fields" 346), (.str "sizes" 347)] 0), #[]⟩
noncomputable def q133 (P : Params) : Obj := ⟨(.type "tuple"), none, (.seq #[] 0), #[]⟩
noncomputable def q134 (P : Params) : Obj := ⟨.none, none, (.func { name := "__init__", qualname := "Thing.__init__", params := (mR 15 0).params, body := .stmts (mR 15 0).body, scope := (mR 15 0).scope, globals := 0, closure := [], defaults := .none, kwdefaults := .none, doc := .none, pyModule := .none, annotations := none, code := .none, closureTuple := .none, builtins := 0 }), #[]⟩
noncomputable def q135 (P : Params) : Obj := ⟨(.type "code"), none, (.fields #[(.str "__init__" 341), (.str "Thing.__init__" 342), (.str "/claim/cut.py" 343), (.int 37 0), (.int 4 0), (.int 0 0), (.int 0 0), (.int 3 0), (.ref 133), (.bool true), (.int 181 0), (.ref 134), .none, (.ref 135), (.ref 136), (.ref 137), (.int 348 0), (.int 37 0), (.str "/claim/cut.py" 349)]), #[]⟩
noncomputable def q136 (P : Params) : Obj := ⟨(.type "function"), none, (.func { name := "__init__", qualname := "Thing.__init__", params := (mR 15 0).params, body := .stmts (mR 15 0).body, scope := (mR 15 0).scope, globals := 3, closure := [], defaults := .none, kwdefaults := .none, doc := .none, pyModule := (.str "methodrows.values" 327), annotations := none, code := (.ref 138), closureTuple := .none, builtins := 0 }), #[]⟩
noncomputable def q137 (P : Params) : Obj := ⟨(.type "tuple"), none, (.seq #[(.str "fields" 351), (.str "kind" 352), (.str "sizes" 353)] 0), #[]⟩
noncomputable def q138 (P : Params) : Obj := ⟨(.type "dict"), none, (.dict #[kv P "__module__" 336 (.str "methodrows.values" 327), kv P "__firstlineno__" 340 (.int 35 339), kv P "__init__" 350 (.ref 139), kv P "__static_attributes__" 354 (.ref 140), kv P "__dict__" 356 (.ref 143), kv P "__weakref__" 358 (.ref 144), kv P "__doc__" 359 .none] 4), #[]⟩
noncomputable def q139 (P : Params) : Obj := ⟨(.type "type"), none, (.cls { name := "Thing", bases := [(.type "object")], mro := [(.ref 142), (.type "object")], ns := 141, qualname := "Thing" }), #[none, none, some (.str "Thing" 329), some (.str "Thing" 337), some (.builtin "object.__new__"), some (.bool true)]⟩
noncomputable def q140 (P : Params) : Obj := ⟨(.type "getset_descriptor"), none, (.fields #[(.str "__dict__" 355), (.ref 142), (.builtin "function.__dict__"), (.builtin "function.__dict__#set")]), #[]⟩
noncomputable def q141 (P : Params) : Obj := ⟨(.type "getset_descriptor"), none, (.fields #[(.str "__weakref__" 357), (.ref 142), (.builtin "ExceptionGroup.__weakref__"), .none]), #[]⟩
noncomputable def q142 (P : Params) : Obj := ⟨(.type "super"), none, (.fields #[(.ref 142), (.ref 142), (.ref 142)]), #[]⟩
noncomputable def q143 (P : Params) : Obj := ⟨(.type "builtin_function_or_method"), none, (.fields #[(.builtin "object.__init_subclass__"), (.ref 142)]), #[]⟩
noncomputable def q144 (P : Params) : Obj := ⟨(.type "tuple"), none, (.seq #[] 0), #[]⟩
noncomputable def q145 (P : Params) : Obj := ⟨(.type "builtin_function_or_method"), none, (.fields #[(.builtin "type.__prepare__"), (.type "type")]), #[]⟩
noncomputable def q146 (P : Params) : Obj := ⟨(.type "dict"), none, (.dict #[kv P "__module__" 369 (.str "methodrows.values" 327), kv P "__qualname__" 371 (.str "Heap" 370), kv P "__firstlineno__" 373 (.int 41 372), kv P "__init__" 380 (.ref 160), kv P "put" 388 (.ref 167), kv P "new_object" 397 (.ref 174), kv P "new_array" 407 (.ref 181), kv P "new_box" 415 (.ref 188), kv P "object" 423 (.ref 195), kv P "__static_attributes__" 425 (.ref 196)] 10), #[]⟩
noncomputable def q147 (P : Params) : Obj := ⟨(.type "tuple"), none, (.seq #[] 0), #[]⟩
noncomputable def q148 (P : Params) : Obj := ⟨.none, none, (.fields #[(.int 43 0), (.int 4 0), (.ref 159), (.int 46 0), (.int 4 0), (.ref 166), (.int 50 0), (.int 4 0), (.ref 173), (.int 53 0), (.int 4 0), (.ref 180), (.int 56 0), (.int 4 0), (.ref 187), (.int 59 0), (.int 4 0), (.ref 194)]), #[]⟩
noncomputable def q149 (P : Params) : Obj := ⟨(.type "code"), none, (.fields #[(.str "Heap" 364), (.str "Heap" 365), (.str "/claim/cut.py" 366), (.int 41 0), (.int 0 0), (.int 0 0), (.int 0 0), (.int 0 0), (.ref 150), (.bool false), (.int 181 0), (.ref 151), .none, .none, .none, .none, (.int 367 0), (.int 41 0), (.str "/claim/cut.py" 368)]), #[]⟩
noncomputable def q150 (P : Params) : Obj := ⟨(.type "frame"), none, .plain, #[some (.ref 152), some (.ref 3), some (.ref 149), none, some (.str "methodrows.values" 327), none, some (.ref 0)]⟩
noncomputable def q151 (P : Params) : Obj := ⟨(.type "tuple"), none, (.seq #[] 0), #[]⟩
noncomputable def q152 (P : Params) : Obj := ⟨.none, none, (.fields #[]), #[]⟩
noncomputable def q153 (P : Params) : Obj := ⟨(.type "tuple"), none, (.seq #[(.str "self" 377)] 0), #[]⟩
noncomputable def q154 (P : Params) : Obj := ⟨(.type "tuple"), none, (.seq #[] 0), #[]⟩
noncomputable def q155 (P : Params) : Obj := ⟨.none, none, (.func { name := "__init__", qualname := "Heap.__init__", params := (mR 16 0).params, body := .stmts (mR 16 0).body, scope := (mR 16 0).scope, globals := 0, closure := [], defaults := .none, kwdefaults := .none, doc := .none, pyModule := .none, annotations := none, code := .none, closureTuple := .none, builtins := 0 }), #[]⟩
noncomputable def q156 (P : Params) : Obj := ⟨(.type "code"), none, (.fields #[(.str "__init__" 374), (.str "Heap.__init__" 375), (.str "/claim/cut.py" 376), (.int 43 0), (.int 1 0), (.int 0 0), (.int 0 0), (.int 3 0), (.ref 154), (.bool true), (.int 181 0), (.ref 155), .none, (.ref 156), (.ref 157), (.ref 158), (.int 378 0), (.int 43 0), (.str "/claim/cut.py" 379)]), #[]⟩
noncomputable def q157 (P : Params) : Obj := ⟨(.type "function"), none, (.func { name := "__init__", qualname := "Heap.__init__", params := (mR 16 0).params, body := .stmts (mR 16 0).body, scope := (mR 16 0).scope, globals := 3, closure := [], defaults := .none, kwdefaults := .none, doc := .none, pyModule := (.str "methodrows.values" 327), annotations := none, code := (.ref 159), closureTuple := .none, builtins := 0 }), #[]⟩
noncomputable def q158 (P : Params) : Obj := ⟨(.type "tuple"), none, (.seq #[] 0), #[]⟩
noncomputable def q159 (P : Params) : Obj := ⟨.none, none, (.fields #[]), #[]⟩
noncomputable def q160 (P : Params) : Obj := ⟨(.type "tuple"), none, (.seq #[(.str "self" 384), (.str "thing" 385)] 0), #[]⟩
noncomputable def q161 (P : Params) : Obj := ⟨(.type "tuple"), none, (.seq #[] 0), #[]⟩
noncomputable def q162 (P : Params) : Obj := ⟨.none, none, (.func { name := "put", qualname := "Heap.put", params := (mR 16 1).params, body := .stmts (mR 16 1).body, scope := (mR 16 1).scope, globals := 0, closure := [], defaults := .none, kwdefaults := .none, doc := .none, pyModule := .none, annotations := none, code := .none, closureTuple := .none, builtins := 0 }), #[]⟩
noncomputable def q163 (P : Params) : Obj := ⟨(.type "code"), none, (.fields #[(.str "put" 381), (.str "Heap.put" 382), (.str "/claim/cut.py" 383), (.int 46 0), (.int 2 0), (.int 0 0), (.int 0 0), (.int 3 0), (.ref 161), (.bool true), (.int 181 0), (.ref 162), .none, (.ref 163), (.ref 164), (.ref 165), (.int 386 0), (.int 46 0), (.str "/claim/cut.py" 387)]), #[]⟩
noncomputable def q164 (P : Params) : Obj := ⟨(.type "function"), none, (.func { name := "put", qualname := "Heap.put", params := (mR 16 1).params, body := .stmts (mR 16 1).body, scope := (mR 16 1).scope, globals := 3, closure := [], defaults := .none, kwdefaults := .none, doc := .none, pyModule := (.str "methodrows.values" 327), annotations := none, code := (.ref 166), closureTuple := .none, builtins := 0 }), #[]⟩
noncomputable def q165 (P : Params) : Obj := ⟨(.type "tuple"), none, (.seq #[] 0), #[]⟩
noncomputable def q166 (P : Params) : Obj := ⟨.none, none, (.fields #[]), #[]⟩
noncomputable def q167 (P : Params) : Obj := ⟨(.type "tuple"), none, (.seq #[(.str "self" 392), (.str "kind" 393), (.str "fields" 394)] 0), #[]⟩
noncomputable def q168 (P : Params) : Obj := ⟨(.type "tuple"), none, (.seq #[] 0), #[]⟩
noncomputable def q169 (P : Params) : Obj := ⟨.none, none, (.func { name := "new_object", qualname := "Heap.new_object", params := (mR 16 2).params, body := .stmts (mR 16 2).body, scope := (mR 16 2).scope, globals := 0, closure := [], defaults := .none, kwdefaults := .none, doc := .none, pyModule := .none, annotations := none, code := .none, closureTuple := .none, builtins := 0 }), #[]⟩
noncomputable def q170 (P : Params) : Obj := ⟨(.type "code"), none, (.fields #[(.str "new_object" 389), (.str "Heap.new_object" 390), (.str "/claim/cut.py" 391), (.int 50 0), (.int 3 0), (.int 0 0), (.int 0 0), (.int 3 0), (.ref 168), (.bool true), (.int 181 0), (.ref 169), .none, (.ref 170), (.ref 171), (.ref 172), (.int 395 0), (.int 50 0), (.str "/claim/cut.py" 396)]), #[]⟩
noncomputable def q171 (P : Params) : Obj := ⟨(.type "function"), none, (.func { name := "new_object", qualname := "Heap.new_object", params := (mR 16 2).params, body := .stmts (mR 16 2).body, scope := (mR 16 2).scope, globals := 3, closure := [], defaults := .none, kwdefaults := .none, doc := .none, pyModule := (.str "methodrows.values" 327), annotations := none, code := (.ref 173), closureTuple := .none, builtins := 0 }), #[]⟩
noncomputable def q172 (P : Params) : Obj := ⟨(.type "tuple"), none, (.seq #[] 0), #[]⟩
noncomputable def q173 (P : Params) : Obj := ⟨.none, none, (.fields #[]), #[]⟩
noncomputable def q174 (P : Params) : Obj := ⟨(.type "tuple"), none, (.seq #[(.str "self" 401), (.str "kind" 402), (.str "sizes" 403), (.str "items" 404)] 0), #[]⟩
noncomputable def q175 (P : Params) : Obj := ⟨(.type "tuple"), none, (.seq #[] 0), #[]⟩
noncomputable def q176 (P : Params) : Obj := ⟨.none, none, (.func { name := "new_array", qualname := "Heap.new_array", params := (mR 16 3).params, body := .stmts (mR 16 3).body, scope := (mR 16 3).scope, globals := 0, closure := [], defaults := .none, kwdefaults := .none, doc := .none, pyModule := .none, annotations := none, code := .none, closureTuple := .none, builtins := 0 }), #[]⟩
noncomputable def q177 (P : Params) : Obj := ⟨(.type "code"), none, (.fields #[(.str "new_array" 398), (.str "Heap.new_array" 399), (.str "/claim/cut.py" 400), (.int 53 0), (.int 4 0), (.int 0 0), (.int 0 0), (.int 3 0), (.ref 175), (.bool true), (.int 181 0), (.ref 176), .none, (.ref 177), (.ref 178), (.ref 179), (.int 405 0), (.int 53 0), (.str "/claim/cut.py" 406)]), #[]⟩
noncomputable def q178 (P : Params) : Obj := ⟨(.type "function"), none, (.func { name := "new_array", qualname := "Heap.new_array", params := (mR 16 3).params, body := .stmts (mR 16 3).body, scope := (mR 16 3).scope, globals := 3, closure := [], defaults := .none, kwdefaults := .none, doc := .none, pyModule := (.str "methodrows.values" 327), annotations := none, code := (.ref 180), closureTuple := .none, builtins := 0 }), #[]⟩
noncomputable def q179 (P : Params) : Obj := ⟨(.type "tuple"), none, (.seq #[] 0), #[]⟩
noncomputable def q180 (P : Params) : Obj := ⟨.none, none, (.fields #[]), #[]⟩
noncomputable def q181 (P : Params) : Obj := ⟨(.type "tuple"), none, (.seq #[(.str "self" 411), (.str "value" 412)] 0), #[]⟩
noncomputable def q182 (P : Params) : Obj := ⟨(.type "tuple"), none, (.seq #[] 0), #[]⟩
noncomputable def q183 (P : Params) : Obj := ⟨.none, none, (.func { name := "new_box", qualname := "Heap.new_box", params := (mR 16 4).params, body := .stmts (mR 16 4).body, scope := (mR 16 4).scope, globals := 0, closure := [], defaults := .none, kwdefaults := .none, doc := .none, pyModule := .none, annotations := none, code := .none, closureTuple := .none, builtins := 0 }), #[]⟩
noncomputable def q184 (P : Params) : Obj := ⟨(.type "code"), none, (.fields #[(.str "new_box" 408), (.str "Heap.new_box" 409), (.str "/claim/cut.py" 410), (.int 56 0), (.int 2 0), (.int 0 0), (.int 0 0), (.int 3 0), (.ref 182), (.bool true), (.int 181 0), (.ref 183), .none, (.ref 184), (.ref 185), (.ref 186), (.int 413 0), (.int 56 0), (.str "/claim/cut.py" 414)]), #[]⟩
noncomputable def q185 (P : Params) : Obj := ⟨(.type "function"), none, (.func { name := "new_box", qualname := "Heap.new_box", params := (mR 16 4).params, body := .stmts (mR 16 4).body, scope := (mR 16 4).scope, globals := 3, closure := [], defaults := .none, kwdefaults := .none, doc := .none, pyModule := (.str "methodrows.values" 327), annotations := none, code := (.ref 187), closureTuple := .none, builtins := 0 }), #[]⟩
noncomputable def q186 (P : Params) : Obj := ⟨(.type "tuple"), none, (.seq #[] 0), #[]⟩
noncomputable def q187 (P : Params) : Obj := ⟨.none, none, (.fields #[]), #[]⟩
noncomputable def q188 (P : Params) : Obj := ⟨(.type "tuple"), none, (.seq #[(.str "self" 419), (.str "address" 420)] 0), #[]⟩
noncomputable def q189 (P : Params) : Obj := ⟨(.type "tuple"), none, (.seq #[] 0), #[]⟩
noncomputable def q190 (P : Params) : Obj := ⟨.none, none, (.func { name := "object", qualname := "Heap.object", params := (mR 16 5).params, body := .stmts (mR 16 5).body, scope := (mR 16 5).scope, globals := 0, closure := [], defaults := .none, kwdefaults := .none, doc := .none, pyModule := .none, annotations := none, code := .none, closureTuple := .none, builtins := 0 }), #[]⟩
noncomputable def q191 (P : Params) : Obj := ⟨(.type "code"), none, (.fields #[(.str "object" 416), (.str "Heap.object" 417), (.str "/claim/cut.py" 418), (.int 59 0), (.int 2 0), (.int 0 0), (.int 0 0), (.int 3 0), (.ref 189), (.bool true), (.int 181 0), (.ref 190), .none, (.ref 191), (.ref 192), (.ref 193), (.int 421 0), (.int 59 0), (.str "/claim/cut.py" 422)]), #[]⟩
noncomputable def q192 (P : Params) : Obj := ⟨(.type "function"), none, (.func { name := "object", qualname := "Heap.object", params := (mR 16 5).params, body := .stmts (mR 16 5).body, scope := (mR 16 5).scope, globals := 3, closure := [], defaults := .none, kwdefaults := .none, doc := .none, pyModule := (.str "methodrows.values" 327), annotations := none, code := (.ref 194), closureTuple := .none, builtins := 0 }), #[]⟩
noncomputable def q193 (P : Params) : Obj := ⟨(.type "tuple"), none, (.seq #[(.str "things" 424)] 0), #[]⟩
noncomputable def q194 (P : Params) : Obj := ⟨(.type "dict"), none, (.dict #[kv P "__module__" 369 (.str "methodrows.values" 327), kv P "__firstlineno__" 373 (.int 41 372), kv P "__init__" 380 (.ref 160), kv P "put" 388 (.ref 167), kv P "new_object" 397 (.ref 174), kv P "new_array" 407 (.ref 181), kv P "new_box" 415 (.ref 188), kv P "object" 423 (.ref 195), kv P "__static_attributes__" 425 (.ref 196), kv P "__dict__" 427 (.ref 199), kv P "__weakref__" 429 (.ref 200), kv P "__doc__" 430 .none] 4), #[]⟩
noncomputable def q195 (P : Params) : Obj := ⟨(.type "type"), none, (.cls { name := "Heap", bases := [(.type "object")], mro := [(.ref 198), (.type "object")], ns := 197, qualname := "Heap" }), #[none, none, some (.str "Heap" 362), some (.str "Heap" 370), some (.builtin "object.__new__"), some (.bool true)]⟩
noncomputable def q196 (P : Params) : Obj := ⟨(.type "getset_descriptor"), none, (.fields #[(.str "__dict__" 426), (.ref 198), (.builtin "function.__dict__"), (.builtin "function.__dict__#set")]), #[]⟩
noncomputable def q197 (P : Params) : Obj := ⟨(.type "getset_descriptor"), none, (.fields #[(.str "__weakref__" 428), (.ref 198), (.builtin "ExceptionGroup.__weakref__"), .none]), #[]⟩
noncomputable def q198 (P : Params) : Obj := ⟨(.type "super"), none, (.fields #[(.ref 198), (.ref 198), (.ref 198)]), #[]⟩
noncomputable def q199 (P : Params) : Obj := ⟨(.type "builtin_function_or_method"), none, (.fields #[(.builtin "object.__init_subclass__"), (.ref 198)]), #[]⟩
noncomputable def H4 (P : Params) : Heap := ⟨⟨[boot_o_0 P, boot_o_1 P, q4 P, q121 P, boot_o_4 P, boot_o_5 P, boot_o_6 P, boot_o_7 P, boot_o_8 P, boot_o_9 P, boot_o_10 P, q0 P, q122 P, q2 P, q3 P, q7 P, q8 P, q9 P, q10 P, q11 P, q12 P, q13 P, q14 P, q15 P, q16 P, q17 P, q18 P, q19 P, q20 P, q21 P, q22 P, q23 P, q24 P, q25 P, q26 P, q27 P, q28 P, q29 P, q30 P, q49 P, q32 P, q33 P, q34 P, q35 P, q36 P, q37 P, q38 P, q39 P, q40 P, q41 P, q42 P, q43 P, q44 P, q45 P, q46 P, q50 P, q51 P, q52 P, q53 P, q54 P, q55 P, q56 P, q57 P, q58 P, q59 P, q60 P, q61 P, q62 P, q63 P, q64 P, q65 P, q66 P, q67 P, q68 P, q69 P, q70 P, q71 P, q72 P, q73 P, q74 P, q75 P, q76 P, q77 P, q78 P, q79 P, q80 P, q81 P, q82 P, q83 P, q84 P, q85 P, q86 P, q87 P, q88 P, q89 P, q90 P, q91 P, q92 P, q93 P, q94 P, q95 P, q96 P, q97 P, q98 P, q99 P, q100 P, q101 P, q102 P, q103 P, q104 P, q105 P, q106 P, q107 P, q108 P, q109 P, q110 P, q111 P, q112 P, q113 P, q114 P, q115 P, q116 P, q117 P, q118 P, q119 P, q120 P, q123 P, q124 P, q125 P, q126 P, q127 P, q128 P, q129 P, q130 P, q131 P, q132 P, q133 P, q134 P, q135 P, q136 P, q137 P, q138 P, q139 P, q140 P, q141 P, q142 P, q143 P, q144 P, q145 P, q146 P, q147 P, q148 P, q149 P, q150 P, q151 P, q152 P, q153 P, q154 P, q155 P, q156 P, q157 P, q158 P, q159 P, q160 P, q161 P, q162 P, q163 P, q164 P, q165 P, q166 P, q167 P, q168 P, q169 P, q170 P, q171 P, q172 P, q173 P, q174 P, q175 P, q176 P, q177 P, q178 P, q179 P, q180 P, q181 P, q182 P, q183 P, q184 P, q185 P, q186 P, q187 P, q188 P, q189 P, q190 P, q191 P, q192 P, q193 P, q194 P, q195 P, q196 P, q197 P, q198 P, q199 P]⟩, (boot_heap P).life⟩
noncomputable def q200 (P : Params) : Obj := ⟨(.type "dict"), none, (.dict #[kv P "__name__" 165 (.str "methodrows.views" 560), kv P "__doc__" 166 .none, kv P "__package__" 167 .none, kv P "__loader__" 168 (.builtin "__main__.__loader__#opaque"), kv P "__spec__" 169 .none, kv P "__annotations__" 170 (.ref 6), kv P "__builtins__" 171 (.ref 4), kv P "__file__" 173 (.str "/claim/cut.py" 172), kv P "__cached__" 174 .none, kv P "_wall" 193 (.ref 21), kv P "RowsError" 226 (.ref 39), kv P "MachineFault" 242 (.ref 52), kv P "Thrown" 267 (.ref 71), kv P "int_value" 278 (.ref 81), kv P "text_value" 285 (.ref 88), kv P "error_kind" 292 (.ref 95), kv P "error_value" 300 (.ref 102), kv P "thrown" 308 (.ref 109), kv P "thrown_text" 316 (.ref 116), kv P "named" 326 (.ref 125), kv P "Thing" 361 (.ref 142), kv P "Heap" 432 (.ref 198), kv P "array_kind" 440 (.ref 209), kv P "MOST_ITEMS" 444 (.int 20000 443), kv P "many_of" 453 (.ref 216), kv P "strides_of" 463 (.ref 223), kv P "offset_of" 475 (.ref 230), kv P "index_of" 485 (.ref 237), kv P "bounds_fault" 491 (.ref 242), kv P "check_sizes" 497 (.ref 247), kv P "is_array" 504 (.ref 254), kv P "parent_of" 512 (.ref 261), kv P "sizes_of" 520 (.ref 268), kv P "layout_of" 528 (.ref 275), kv P "place_in_parent" 543 (.ref 282), kv P "places_of" 549 (.ref 287), kv P "made" 559 (.ref 294)] 37), #[]⟩
noncomputable def q201 (P : Params) : Obj := ⟨.none, none, (.fields #[(.int 1 0), (.int 0 0), (.ref 20), (.int 5 0), (.int 0 0), (.ref 27), (.int 11 0), (.int 0 0), (.ref 48), (.int 13 0), (.int 0 0), (.ref 60), (.int 19 0), (.int 0 0), (.ref 80), (.int 21 0), (.int 0 0), (.ref 87), (.int 23 0), (.int 0 0), (.ref 94), (.int 25 0), (.int 0 0), (.ref 101), (.int 27 0), (.int 0 0), (.ref 108), (.int 29 0), (.int 0 0), (.ref 115), (.int 32 0), (.int 0 0), (.ref 124), (.int 35 0), (.int 0 0), (.ref 131), (.int 41 0), (.int 0 0), (.ref 152), (.int 63 0), (.int 0 0), (.ref 208), (.int 67 0), (.int 0 0), (.ref 215), (.int 72 0), (.int 0 0), (.ref 222), (.int 78 0), (.int 0 0), (.ref 229), (.int 89 0), (.int 0 0), (.ref 236), (.int 95 0), (.int 0 0), (.ref 241), (.int 97 0), (.int 0 0), (.ref 246), (.int 100 0), (.int 0 0), (.ref 253), (.int 102 0), (.int 0 0), (.ref 260), (.int 106 0), (.int 0 0), (.ref 267), (.int 108 0), (.int 0 0), (.ref 274), (.int 110 0), (.int 0 0), (.ref 281), (.int 119 0), (.int 0 0), (.ref 286), (.int 125 0), (.int 0 0), (.ref 293)]), #[]⟩
noncomputable def q202 (P : Params) : Obj := ⟨(.type "tuple"), none, (.seq #[] 0), #[]⟩
noncomputable def q203 (P : Params) : Obj := ⟨.none, none, (.fields #[]), #[]⟩
noncomputable def q204 (P : Params) : Obj := ⟨(.type "tuple"), none, (.seq #[(.str "item" 436), (.str "rank" 437)] 0), #[]⟩
noncomputable def q205 (P : Params) : Obj := ⟨(.type "tuple"), none, (.seq #[] 0), #[]⟩
noncomputable def q206 (P : Params) : Obj := ⟨.none, none, (.func { name := "array_kind", qualname := "array_kind", params := (dR 17).params, body := .stmts (dR 17).body, scope := (dR 17).scope, globals := 0, closure := [], defaults := .none, kwdefaults := .none, doc := .none, pyModule := .none, annotations := none, code := .none, closureTuple := .none, builtins := 0 }), #[]⟩
noncomputable def q207 (P : Params) : Obj := ⟨(.type "code"), none, (.fields #[(.str "array_kind" 433), (.str "array_kind" 434), (.str "/claim/cut.py" 435), (.int 63 0), (.int 2 0), (.int 0 0), (.int 0 0), (.int 3 0), (.ref 203), (.bool true), (.int 181 0), (.ref 204), .none, (.ref 205), (.ref 206), (.ref 207), (.int 438 0), (.int 63 0), (.str "/claim/cut.py" 439)]), #[]⟩
noncomputable def q208 (P : Params) : Obj := ⟨(.type "function"), none, (.func { name := "array_kind", qualname := "array_kind", params := (dR 17).params, body := .stmts (dR 17).body, scope := (dR 17).scope, globals := 3, closure := [], defaults := .none, kwdefaults := .none, doc := .none, pyModule := (.str "methodrows.values" 327), annotations := none, code := (.ref 208), closureTuple := .none, builtins := 0 }), #[]⟩
noncomputable def q209 (P : Params) : Obj := ⟨(.type "tuple"), none, (.seq #[] 0), #[]⟩
noncomputable def q210 (P : Params) : Obj := ⟨.none, none, (.fields #[]), #[]⟩
noncomputable def q211 (P : Params) : Obj := ⟨(.type "tuple"), none, (.seq #[(.str "sizes" 448), (.str "many" 449), (.str "size" 450)] 0), #[]⟩
noncomputable def q212 (P : Params) : Obj := ⟨(.type "tuple"), none, (.seq #[] 0), #[]⟩
noncomputable def q213 (P : Params) : Obj := ⟨.none, none, (.func { name := "many_of", qualname := "many_of", params := (dR 20).params, body := .stmts (dR 20).body, scope := (dR 20).scope, globals := 0, closure := [], defaults := .none, kwdefaults := .none, doc := .none, pyModule := .none, annotations := none, code := .none, closureTuple := .none, builtins := 0 }), #[]⟩
noncomputable def q214 (P : Params) : Obj := ⟨(.type "code"), none, (.fields #[(.str "many_of" 445), (.str "many_of" 446), (.str "/claim/cut.py" 447), (.int 67 0), (.int 1 0), (.int 0 0), (.int 0 0), (.int 3 0), (.ref 210), (.bool true), (.int 181 0), (.ref 211), .none, (.ref 212), (.ref 213), (.ref 214), (.int 451 0), (.int 67 0), (.str "/claim/cut.py" 452)]), #[]⟩
noncomputable def q215 (P : Params) : Obj := ⟨(.type "function"), none, (.func { name := "many_of", qualname := "many_of", params := (dR 20).params, body := .stmts (dR 20).body, scope := (dR 20).scope, globals := 3, closure := [], defaults := .none, kwdefaults := .none, doc := .none, pyModule := (.str "methodrows.arrays" 441), annotations := none, code := (.ref 215), closureTuple := .none, builtins := 0 }), #[]⟩
noncomputable def q216 (P : Params) : Obj := ⟨(.type "tuple"), none, (.seq #[] 0), #[]⟩
noncomputable def q217 (P : Params) : Obj := ⟨.none, none, (.fields #[]), #[]⟩
noncomputable def q218 (P : Params) : Obj := ⟨(.type "tuple"), none, (.seq #[(.str "sizes" 457), (.str "found" 458), (.str "far" 459), (.str "size" 460)] 0), #[]⟩
noncomputable def q219 (P : Params) : Obj := ⟨(.type "tuple"), none, (.seq #[] 0), #[]⟩
noncomputable def q220 (P : Params) : Obj := ⟨.none, none, (.func { name := "strides_of", qualname := "strides_of", params := (dR 21).params, body := .stmts (dR 21).body, scope := (dR 21).scope, globals := 0, closure := [], defaults := .none, kwdefaults := .none, doc := .none, pyModule := .none, annotations := none, code := .none, closureTuple := .none, builtins := 0 }), #[]⟩
noncomputable def q221 (P : Params) : Obj := ⟨(.type "code"), none, (.fields #[(.str "strides_of" 454), (.str "strides_of" 455), (.str "/claim/cut.py" 456), (.int 72 0), (.int 1 0), (.int 0 0), (.int 0 0), (.int 3 0), (.ref 217), (.bool true), (.int 181 0), (.ref 218), .none, (.ref 219), (.ref 220), (.ref 221), (.int 461 0), (.int 72 0), (.str "/claim/cut.py" 462)]), #[]⟩
noncomputable def q222 (P : Params) : Obj := ⟨(.type "function"), none, (.func { name := "strides_of", qualname := "strides_of", params := (dR 21).params, body := .stmts (dR 21).body, scope := (dR 21).scope, globals := 3, closure := [], defaults := .none, kwdefaults := .none, doc := .none, pyModule := (.str "methodrows.arrays" 441), annotations := none, code := (.ref 222), closureTuple := .none, builtins := 0 }), #[]⟩
noncomputable def q223 (P : Params) : Obj := ⟨(.type "tuple"), none, (.seq #[] 0), #[]⟩
noncomputable def q224 (P : Params) : Obj := ⟨.none, none, (.fields #[]), #[]⟩
noncomputable def q225 (P : Params) : Obj := ⟨(.type "tuple"), none, (.seq #[(.str "sizes" 467), (.str "indices" 468), (.str "place" 469), (.str "index" 470), (.str "size" 471), (.str "far" 472)] 0), #[]⟩
noncomputable def q226 (P : Params) : Obj := ⟨(.type "tuple"), none, (.seq #[] 0), #[]⟩
noncomputable def q227 (P : Params) : Obj := ⟨.none, none, (.func { name := "offset_of", qualname := "offset_of", params := (dR 22).params, body := .stmts (dR 22).body, scope := (dR 22).scope, globals := 0, closure := [], defaults := .none, kwdefaults := .none, doc := .none, pyModule := .none, annotations := none, code := .none, closureTuple := .none, builtins := 0 }), #[]⟩
noncomputable def q228 (P : Params) : Obj := ⟨(.type "code"), none, (.fields #[(.str "offset_of" 464), (.str "offset_of" 465), (.str "/claim/cut.py" 466), (.int 78 0), (.int 2 0), (.int 0 0), (.int 0 0), (.int 3 0), (.ref 224), (.bool true), (.int 181 0), (.ref 225), .none, (.ref 226), (.ref 227), (.ref 228), (.int 473 0), (.int 78 0), (.str "/claim/cut.py" 474)]), #[]⟩
noncomputable def q229 (P : Params) : Obj := ⟨(.type "function"), none, (.func { name := "offset_of", qualname := "offset_of", params := (dR 22).params, body := .stmts (dR 22).body, scope := (dR 22).scope, globals := 3, closure := [], defaults := .none, kwdefaults := .none, doc := .none, pyModule := (.str "methodrows.arrays" 441), annotations := none, code := (.ref 229), closureTuple := .none, builtins := 0 }), #[]⟩
noncomputable def q230 (P : Params) : Obj := ⟨(.type "tuple"), none, (.seq #[] 0), #[]⟩
noncomputable def q231 (P : Params) : Obj := ⟨.none, none, (.fields #[]), #[]⟩
noncomputable def q232 (P : Params) : Obj := ⟨(.type "tuple"), none, (.seq #[(.str "sizes" 479), (.str "offset" 480), (.str "found" 481), (.str "size" 482)] 0), #[]⟩
noncomputable def q233 (P : Params) : Obj := ⟨(.type "tuple"), none, (.seq #[] 0), #[]⟩
noncomputable def q234 (P : Params) : Obj := ⟨.none, none, (.func { name := "index_of", qualname := "index_of", params := (dR 23).params, body := .stmts (dR 23).body, scope := (dR 23).scope, globals := 0, closure := [], defaults := .none, kwdefaults := .none, doc := .none, pyModule := .none, annotations := none, code := .none, closureTuple := .none, builtins := 0 }), #[]⟩
noncomputable def q235 (P : Params) : Obj := ⟨(.type "code"), none, (.fields #[(.str "index_of" 476), (.str "index_of" 477), (.str "/claim/cut.py" 478), (.int 89 0), (.int 2 0), (.int 0 0), (.int 0 0), (.int 3 0), (.ref 231), (.bool true), (.int 181 0), (.ref 232), .none, (.ref 233), (.ref 234), (.ref 235), (.int 483 0), (.int 89 0), (.str "/claim/cut.py" 484)]), #[]⟩
noncomputable def q236 (P : Params) : Obj := ⟨(.type "function"), none, (.func { name := "index_of", qualname := "index_of", params := (dR 23).params, body := .stmts (dR 23).body, scope := (dR 23).scope, globals := 3, closure := [], defaults := .none, kwdefaults := .none, doc := .none, pyModule := (.str "methodrows.arrays" 441), annotations := none, code := (.ref 236), closureTuple := .none, builtins := 0 }), #[]⟩
noncomputable def q237 (P : Params) : Obj := ⟨(.type "tuple"), none, (.seq #[] 0), #[]⟩
noncomputable def q238 (P : Params) : Obj := ⟨.none, none, (.fields #[]), #[]⟩
noncomputable def q239 (P : Params) : Obj := ⟨.none, none, (.func { name := "bounds_fault", qualname := "bounds_fault", params := (dR 24).params, body := .stmts (dR 24).body, scope := (dR 24).scope, globals := 0, closure := [], defaults := .none, kwdefaults := .none, doc := .none, pyModule := .none, annotations := none, code := .none, closureTuple := .none, builtins := 0 }), #[]⟩
noncomputable def q240 (P : Params) : Obj := ⟨(.type "code"), none, (.fields #[(.str "bounds_fault" 486), (.str "bounds_fault" 487), (.str "/claim/cut.py" 488), (.int 95 0), (.int 2 0), (.int 0 0), (.int 0 0), (.int 3 0), (.ref 238), (.bool true), (.int 181 0), (.ref 239), .none, .none, .none, (.ref 240), (.int 489 0), (.int 95 0), (.str "/claim/cut.py" 490)]), #[]⟩
noncomputable def q241 (P : Params) : Obj := ⟨(.type "function"), none, (.func { name := "bounds_fault", qualname := "bounds_fault", params := (dR 24).params, body := .stmts (dR 24).body, scope := (dR 24).scope, globals := 3, closure := [], defaults := .none, kwdefaults := .none, doc := .none, pyModule := (.str "methodrows.arrays" 441), annotations := none, code := (.ref 241), closureTuple := .none, builtins := 0 }), #[]⟩
noncomputable def q242 (P : Params) : Obj := ⟨(.type "tuple"), none, (.seq #[] 0), #[]⟩
noncomputable def q243 (P : Params) : Obj := ⟨.none, none, (.fields #[]), #[]⟩
noncomputable def q244 (P : Params) : Obj := ⟨.none, none, (.func { name := "check_sizes", qualname := "check_sizes", params := (dR 25).params, body := .stmts (dR 25).body, scope := (dR 25).scope, globals := 0, closure := [], defaults := .none, kwdefaults := .none, doc := .none, pyModule := .none, annotations := none, code := .none, closureTuple := .none, builtins := 0 }), #[]⟩
noncomputable def q245 (P : Params) : Obj := ⟨(.type "code"), none, (.fields #[(.str "check_sizes" 492), (.str "check_sizes" 493), (.str "/claim/cut.py" 494), (.int 97 0), (.int 1 0), (.int 0 0), (.int 0 0), (.int 3 0), (.ref 243), (.bool true), (.int 181 0), (.ref 244), .none, .none, .none, (.ref 245), (.int 495 0), (.int 97 0), (.str "/claim/cut.py" 496)]), #[]⟩
noncomputable def q246 (P : Params) : Obj := ⟨(.type "function"), none, (.func { name := "check_sizes", qualname := "check_sizes", params := (dR 25).params, body := .stmts (dR 25).body, scope := (dR 25).scope, globals := 3, closure := [], defaults := .none, kwdefaults := .none, doc := .none, pyModule := (.str "methodrows.arrays" 441), annotations := none, code := (.ref 246), closureTuple := .none, builtins := 0 }), #[]⟩
noncomputable def q247 (P : Params) : Obj := ⟨(.type "tuple"), none, (.seq #[] 0), #[]⟩
noncomputable def q248 (P : Params) : Obj := ⟨.none, none, (.fields #[]), #[]⟩
noncomputable def q249 (P : Params) : Obj := ⟨(.type "tuple"), none, (.seq #[(.str "value" 501)] 0), #[]⟩
noncomputable def q250 (P : Params) : Obj := ⟨(.type "tuple"), none, (.seq #[] 0), #[]⟩
noncomputable def q251 (P : Params) : Obj := ⟨.none, none, (.func { name := "is_array", qualname := "is_array", params := (dR 26).params, body := .stmts (dR 26).body, scope := (dR 26).scope, globals := 0, closure := [], defaults := .none, kwdefaults := .none, doc := .none, pyModule := .none, annotations := none, code := .none, closureTuple := .none, builtins := 0 }), #[]⟩
noncomputable def q252 (P : Params) : Obj := ⟨(.type "code"), none, (.fields #[(.str "is_array" 498), (.str "is_array" 499), (.str "/claim/cut.py" 500), (.int 100 0), (.int 1 0), (.int 0 0), (.int 0 0), (.int 3 0), (.ref 248), (.bool true), (.int 181 0), (.ref 249), .none, (.ref 250), (.ref 251), (.ref 252), (.int 502 0), (.int 100 0), (.str "/claim/cut.py" 503)]), #[]⟩
noncomputable def q253 (P : Params) : Obj := ⟨(.type "function"), none, (.func { name := "is_array", qualname := "is_array", params := (dR 26).params, body := .stmts (dR 26).body, scope := (dR 26).scope, globals := 3, closure := [], defaults := .none, kwdefaults := .none, doc := .none, pyModule := (.str "methodrows.arrays" 441), annotations := none, code := (.ref 253), closureTuple := .none, builtins := 0 }), #[]⟩
noncomputable def q254 (P : Params) : Obj := ⟨(.type "tuple"), none, (.seq #[] 0), #[]⟩
noncomputable def q255 (P : Params) : Obj := ⟨.none, none, (.fields #[]), #[]⟩
noncomputable def q256 (P : Params) : Obj := ⟨(.type "tuple"), none, (.seq #[(.str "heap" 508), (.str "value" 509)] 0), #[]⟩
noncomputable def q257 (P : Params) : Obj := ⟨(.type "tuple"), none, (.seq #[] 0), #[]⟩
noncomputable def q258 (P : Params) : Obj := ⟨.none, none, (.func { name := "parent_of", qualname := "parent_of", params := (dR 27).params, body := .stmts (dR 27).body, scope := (dR 27).scope, globals := 0, closure := [], defaults := .none, kwdefaults := .none, doc := .none, pyModule := .none, annotations := none, code := .none, closureTuple := .none, builtins := 0 }), #[]⟩
noncomputable def q259 (P : Params) : Obj := ⟨(.type "code"), none, (.fields #[(.str "parent_of" 505), (.str "parent_of" 506), (.str "/claim/cut.py" 507), (.int 102 0), (.int 2 0), (.int 0 0), (.int 0 0), (.int 3 0), (.ref 255), (.bool true), (.int 181 0), (.ref 256), .none, (.ref 257), (.ref 258), (.ref 259), (.int 510 0), (.int 102 0), (.str "/claim/cut.py" 511)]), #[]⟩
noncomputable def q260 (P : Params) : Obj := ⟨(.type "function"), none, (.func { name := "parent_of", qualname := "parent_of", params := (dR 27).params, body := .stmts (dR 27).body, scope := (dR 27).scope, globals := 3, closure := [], defaults := .none, kwdefaults := .none, doc := .none, pyModule := (.str "methodrows.arrays" 441), annotations := none, code := (.ref 260), closureTuple := .none, builtins := 0 }), #[]⟩
noncomputable def q261 (P : Params) : Obj := ⟨(.type "tuple"), none, (.seq #[] 0), #[]⟩
noncomputable def q262 (P : Params) : Obj := ⟨.none, none, (.fields #[]), #[]⟩
noncomputable def q263 (P : Params) : Obj := ⟨(.type "tuple"), none, (.seq #[(.str "heap" 516), (.str "value" 517)] 0), #[]⟩
noncomputable def q264 (P : Params) : Obj := ⟨(.type "tuple"), none, (.seq #[] 0), #[]⟩
noncomputable def q265 (P : Params) : Obj := ⟨.none, none, (.func { name := "sizes_of", qualname := "sizes_of", params := (dR 28).params, body := .stmts (dR 28).body, scope := (dR 28).scope, globals := 0, closure := [], defaults := .none, kwdefaults := .none, doc := .none, pyModule := .none, annotations := none, code := .none, closureTuple := .none, builtins := 0 }), #[]⟩
noncomputable def q266 (P : Params) : Obj := ⟨(.type "code"), none, (.fields #[(.str "sizes_of" 513), (.str "sizes_of" 514), (.str "/claim/cut.py" 515), (.int 106 0), (.int 2 0), (.int 0 0), (.int 0 0), (.int 3 0), (.ref 262), (.bool true), (.int 181 0), (.ref 263), .none, (.ref 264), (.ref 265), (.ref 266), (.int 518 0), (.int 106 0), (.str "/claim/cut.py" 519)]), #[]⟩
noncomputable def q267 (P : Params) : Obj := ⟨(.type "function"), none, (.func { name := "sizes_of", qualname := "sizes_of", params := (dR 28).params, body := .stmts (dR 28).body, scope := (dR 28).scope, globals := 3, closure := [], defaults := .none, kwdefaults := .none, doc := .none, pyModule := (.str "methodrows.arrays" 441), annotations := none, code := (.ref 267), closureTuple := .none, builtins := 0 }), #[]⟩
noncomputable def q268 (P : Params) : Obj := ⟨(.type "tuple"), none, (.seq #[] 0), #[]⟩
noncomputable def q269 (P : Params) : Obj := ⟨.none, none, (.fields #[]), #[]⟩
noncomputable def q270 (P : Params) : Obj := ⟨(.type "tuple"), none, (.seq #[(.str "heap" 524), (.str "value" 525)] 0), #[]⟩
noncomputable def q271 (P : Params) : Obj := ⟨(.type "tuple"), none, (.seq #[] 0), #[]⟩
noncomputable def q272 (P : Params) : Obj := ⟨.none, none, (.func { name := "layout_of", qualname := "layout_of", params := (dR 29).params, body := .stmts (dR 29).body, scope := (dR 29).scope, globals := 0, closure := [], defaults := .none, kwdefaults := .none, doc := .none, pyModule := .none, annotations := none, code := .none, closureTuple := .none, builtins := 0 }), #[]⟩
noncomputable def q273 (P : Params) : Obj := ⟨(.type "code"), none, (.fields #[(.str "layout_of" 521), (.str "layout_of" 522), (.str "/claim/cut.py" 523), (.int 108 0), (.int 2 0), (.int 0 0), (.int 0 0), (.int 3 0), (.ref 269), (.bool true), (.int 181 0), (.ref 270), .none, (.ref 271), (.ref 272), (.ref 273), (.int 526 0), (.int 108 0), (.str "/claim/cut.py" 527)]), #[]⟩
noncomputable def q274 (P : Params) : Obj := ⟨(.type "function"), none, (.func { name := "layout_of", qualname := "layout_of", params := (dR 29).params, body := .stmts (dR 29).body, scope := (dR 29).scope, globals := 3, closure := [], defaults := .none, kwdefaults := .none, doc := .none, pyModule := (.str "methodrows.arrays" 441), annotations := none, code := (.ref 274), closureTuple := .none, builtins := 0 }), #[]⟩
noncomputable def q275 (P : Params) : Obj := ⟨(.type "tuple"), none, (.seq #[] 0), #[]⟩
noncomputable def q276 (P : Params) : Obj := ⟨.none, none, (.fields #[]), #[]⟩
noncomputable def q277 (P : Params) : Obj := ⟨(.type "tuple"), none, (.seq #[(.str "heap" 532), (.str "value" 533), (.str "indices" 534), (.str "sizes" 535), (.str "offset" 536), (.str "place" 537), (.str "steps" 538), (.str "index" 539), (.str "far" 540)] 0), #[]⟩
noncomputable def q278 (P : Params) : Obj := ⟨(.type "tuple"), none, (.seq #[] 0), #[]⟩
noncomputable def q279 (P : Params) : Obj := ⟨.none, none, (.func { name := "place_in_parent", qualname := "place_in_parent", params := (dR 30).params, body := .stmts (dR 30).body, scope := (dR 30).scope, globals := 0, closure := [], defaults := .none, kwdefaults := .none, doc := .none, pyModule := .none, annotations := none, code := .none, closureTuple := .none, builtins := 0 }), #[]⟩
noncomputable def q280 (P : Params) : Obj := ⟨(.type "code"), none, (.fields #[(.str "place_in_parent" 529), (.str "place_in_parent" 530), (.str "/claim/cut.py" 531), (.int 110 0), (.int 3 0), (.int 0 0), (.int 0 0), (.int 3 0), (.ref 276), (.bool true), (.int 181 0), (.ref 277), .none, (.ref 278), (.ref 279), (.ref 280), (.int 541 0), (.int 110 0), (.str "/claim/cut.py" 542)]), #[]⟩
noncomputable def q281 (P : Params) : Obj := ⟨(.type "function"), none, (.func { name := "place_in_parent", qualname := "place_in_parent", params := (dR 30).params, body := .stmts (dR 30).body, scope := (dR 30).scope, globals := 3, closure := [], defaults := .none, kwdefaults := .none, doc := .none, pyModule := (.str "methodrows.arrays" 441), annotations := none, code := (.ref 281), closureTuple := .none, builtins := 0 }), #[]⟩
noncomputable def q282 (P : Params) : Obj := ⟨(.type "tuple"), none, (.seq #[] 0), #[]⟩
noncomputable def q283 (P : Params) : Obj := ⟨.none, none, (.fields #[]), #[]⟩
noncomputable def q284 (P : Params) : Obj := ⟨.none, none, (.func { name := "places_of", qualname := "places_of", params := (dR 31).params, body := .stmts (dR 31).body, scope := (dR 31).scope, globals := 0, closure := [], defaults := .none, kwdefaults := .none, doc := .none, pyModule := .none, annotations := none, code := .none, closureTuple := .none, builtins := 0 }), #[]⟩
noncomputable def q285 (P : Params) : Obj := ⟨(.type "code"), none, (.fields #[(.str "places_of" 544), (.str "places_of" 545), (.str "/claim/cut.py" 546), (.int 119 0), (.int 2 0), (.int 0 0), (.int 0 0), (.int 3 0), (.ref 283), (.bool true), (.int 181 0), (.ref 284), .none, .none, .none, (.ref 285), (.int 547 0), (.int 119 0), (.str "/claim/cut.py" 548)]), #[]⟩
noncomputable def q286 (P : Params) : Obj := ⟨(.type "function"), none, (.func { name := "places_of", qualname := "places_of", params := (dR 31).params, body := .stmts (dR 31).body, scope := (dR 31).scope, globals := 3, closure := [], defaults := .none, kwdefaults := .none, doc := .none, pyModule := (.str "methodrows.arrays" 441), annotations := none, code := (.ref 286), closureTuple := .none, builtins := 0 }), #[]⟩
noncomputable def q287 (P : Params) : Obj := ⟨(.type "tuple"), none, (.seq #[] 0), #[]⟩
noncomputable def q288 (P : Params) : Obj := ⟨.none, none, (.fields #[]), #[]⟩
noncomputable def q289 (P : Params) : Obj := ⟨(.type "tuple"), none, (.seq #[(.str "heap" 553), (.str "item_kind" 554), (.str "sizes" 555), (.str "items" 556)] 0), #[]⟩
noncomputable def q290 (P : Params) : Obj := ⟨(.type "tuple"), none, (.seq #[] 0), #[]⟩
noncomputable def q291 (P : Params) : Obj := ⟨.none, none, (.func { name := "made", qualname := "made", params := (dR 32).params, body := .stmts (dR 32).body, scope := (dR 32).scope, globals := 0, closure := [], defaults := .none, kwdefaults := .none, doc := .none, pyModule := .none, annotations := none, code := .none, closureTuple := .none, builtins := 0 }), #[]⟩
noncomputable def q292 (P : Params) : Obj := ⟨(.type "code"), none, (.fields #[(.str "made" 550), (.str "made" 551), (.str "/claim/cut.py" 552), (.int 125 0), (.int 4 0), (.int 0 0), (.int 0 0), (.int 3 0), (.ref 288), (.bool true), (.int 181 0), (.ref 289), .none, (.ref 290), (.ref 291), (.ref 292), (.int 557 0), (.int 125 0), (.str "/claim/cut.py" 558)]), #[]⟩
noncomputable def q293 (P : Params) : Obj := ⟨(.type "function"), none, (.func { name := "made", qualname := "made", params := (dR 32).params, body := .stmts (dR 32).body, scope := (dR 32).scope, globals := 3, closure := [], defaults := .none, kwdefaults := .none, doc := .none, pyModule := (.str "methodrows.arrays" 441), annotations := none, code := (.ref 293), closureTuple := .none, builtins := 0 }), #[]⟩
noncomputable def H5 (P : Params) : Heap := ⟨⟨[boot_o_0 P, boot_o_1 P, q4 P, q200 P, boot_o_4 P, boot_o_5 P, boot_o_6 P, boot_o_7 P, boot_o_8 P, boot_o_9 P, boot_o_10 P, q0 P, q201 P, q2 P, q3 P, q7 P, q8 P, q9 P, q10 P, q11 P, q12 P, q13 P, q14 P, q15 P, q16 P, q17 P, q18 P, q19 P, q20 P, q21 P, q22 P, q23 P, q24 P, q25 P, q26 P, q27 P, q28 P, q29 P, q30 P, q49 P, q32 P, q33 P, q34 P, q35 P, q36 P, q37 P, q38 P, q39 P, q40 P, q41 P, q42 P, q43 P, q44 P, q45 P, q46 P, q50 P, q51 P, q52 P, q53 P, q54 P, q55 P, q56 P, q57 P, q58 P, q59 P, q60 P, q61 P, q62 P, q63 P, q64 P, q65 P, q66 P, q67 P, q68 P, q69 P, q70 P, q71 P, q72 P, q73 P, q74 P, q75 P, q76 P, q77 P, q78 P, q79 P, q80 P, q81 P, q82 P, q83 P, q84 P, q85 P, q86 P, q87 P, q88 P, q89 P, q90 P, q91 P, q92 P, q93 P, q94 P, q95 P, q96 P, q97 P, q98 P, q99 P, q100 P, q101 P, q102 P, q103 P, q104 P, q105 P, q106 P, q107 P, q108 P, q109 P, q110 P, q111 P, q112 P, q113 P, q114 P, q115 P, q116 P, q117 P, q118 P, q119 P, q120 P, q123 P, q124 P, q125 P, q126 P, q127 P, q128 P, q129 P, q130 P, q131 P, q132 P, q133 P, q134 P, q135 P, q136 P, q137 P, q138 P, q139 P, q140 P, q141 P, q142 P, q143 P, q144 P, q145 P, q146 P, q147 P, q148 P, q149 P, q150 P, q151 P, q152 P, q153 P, q154 P, q155 P, q156 P, q157 P, q158 P, q159 P, q160 P, q161 P, q162 P, q163 P, q164 P, q165 P, q166 P, q167 P, q168 P, q169 P, q170 P, q171 P, q172 P, q173 P, q174 P, q175 P, q176 P, q177 P, q178 P, q179 P, q180 P, q181 P, q182 P, q183 P, q184 P, q185 P, q186 P, q187 P, q188 P, q189 P, q190 P, q191 P, q192 P, q193 P, q194 P, q195 P, q196 P, q197 P, q198 P, q199 P, q202 P, q203 P, q204 P, q205 P, q206 P, q207 P, q208 P, q209 P, q210 P, q211 P, q212 P, q213 P, q214 P, q215 P, q216 P, q217 P, q218 P, q219 P, q220 P, q221 P, q222 P, q223 P, q224 P, q225 P, q226 P, q227 P, q228 P, q229 P, q230 P, q231 P, q232 P, q233 P, q234 P, q235 P, q236 P, q237 P, q238 P, q239 P, q240 P, q241 P, q242 P, q243 P, q244 P, q245 P, q246 P, q247 P, q248 P, q249 P, q250 P, q251 P, q252 P, q253 P, q254 P, q255 P, q256 P, q257 P, q258 P, q259 P, q260 P, q261 P, q262 P, q263 P, q264 P, q265 P, q266 P, q267 P, q268 P, q269 P, q270 P, q271 P, q272 P, q273 P, q274 P, q275 P, q276 P, q277 P, q278 P, q279 P, q280 P, q281 P, q282 P, q283 P, q284 P, q285 P, q286 P, q287 P, q288 P, q289 P, q290 P, q291 P, q292 P, q293 P]⟩, (boot_heap P).life⟩
noncomputable def q294 (P : Params) : Obj := ⟨(.type "dict"), none, (.dict #[kv P "__name__" 165 (.str "law_pc0204_01" 609), kv P "__doc__" 166 .none, kv P "__package__" 167 .none, kv P "__loader__" 168 (.builtin "__main__.__loader__#opaque"), kv P "__spec__" 169 .none, kv P "__annotations__" 170 (.ref 6), kv P "__builtins__" 171 (.ref 4), kv P "__file__" 173 (.str "/claim/cut.py" 172), kv P "__cached__" 174 .none, kv P "_wall" 193 (.ref 21), kv P "RowsError" 226 (.ref 39), kv P "MachineFault" 242 (.ref 52), kv P "Thrown" 267 (.ref 71), kv P "int_value" 278 (.ref 81), kv P "text_value" 285 (.ref 88), kv P "error_kind" 292 (.ref 95), kv P "error_value" 300 (.ref 102), kv P "thrown" 308 (.ref 109), kv P "thrown_text" 316 (.ref 116), kv P "named" 326 (.ref 125), kv P "Thing" 361 (.ref 142), kv P "Heap" 432 (.ref 198), kv P "array_kind" 440 (.ref 209), kv P "MOST_ITEMS" 444 (.int 20000 443), kv P "many_of" 453 (.ref 216), kv P "strides_of" 463 (.ref 223), kv P "offset_of" 475 (.ref 230), kv P "index_of" 485 (.ref 237), kv P "bounds_fault" 491 (.ref 242), kv P "check_sizes" 497 (.ref 247), kv P "is_array" 504 (.ref 254), kv P "parent_of" 512 (.ref 261), kv P "sizes_of" 520 (.ref 268), kv P "layout_of" 528 (.ref 275), kv P "place_in_parent" 543 (.ref 282), kv P "places_of" 549 (.ref 287), kv P "made" 559 (.ref 294), kv P "taken_row" 573 (.ref 301), kv P "edge_indices" 584 (.ref 308), kv P "edge_of" 596 (.ref 315), kv P "view_of" 602 (.ref 320), kv P "line_views" 608 (.ref 325), kv P "_law_mast" 619 (.ref 332), kv P "_law_knot" 628 (.ref 339), kv P "_law_part" 634 (.ref 344), kv P "_law_grid" 640 (.ref 349), kv P "_law_back" 650 (.ref 356), kv P "_law_kept" 656 (.ref 361), kv P "_law_view_right" 662 (.ref 366), kv P "_law_put" 668 (.ref 371), kv P "_law_steps_right" 674 (.ref 376), kv P "_law_lines_right" 680 (.ref 381), kv P "_law_fault" 690 (.ref 388), kv P "_law_beyond_right" 696 (.ref 393), kv P "_law_array" 702 (.ref 398), kv P "law" 708 (.ref 403)] 56), #[]⟩
noncomputable def q295 (P : Params) : Obj := ⟨.none, none, (.fields #[(.int 1 0), (.int 0 0), (.ref 20), (.int 5 0), (.int 0 0), (.ref 27), (.int 11 0), (.int 0 0), (.ref 48), (.int 13 0), (.int 0 0), (.ref 60), (.int 19 0), (.int 0 0), (.ref 80), (.int 21 0), (.int 0 0), (.ref 87), (.int 23 0), (.int 0 0), (.ref 94), (.int 25 0), (.int 0 0), (.ref 101), (.int 27 0), (.int 0 0), (.ref 108), (.int 29 0), (.int 0 0), (.ref 115), (.int 32 0), (.int 0 0), (.ref 124), (.int 35 0), (.int 0 0), (.ref 131), (.int 41 0), (.int 0 0), (.ref 152), (.int 63 0), (.int 0 0), (.ref 208), (.int 67 0), (.int 0 0), (.ref 215), (.int 72 0), (.int 0 0), (.ref 222), (.int 78 0), (.int 0 0), (.ref 229), (.int 89 0), (.int 0 0), (.ref 236), (.int 95 0), (.int 0 0), (.ref 241), (.int 97 0), (.int 0 0), (.ref 246), (.int 100 0), (.int 0 0), (.ref 253), (.int 102 0), (.int 0 0), (.ref 260), (.int 106 0), (.int 0 0), (.ref 267), (.int 108 0), (.int 0 0), (.ref 274), (.int 110 0), (.int 0 0), (.ref 281), (.int 119 0), (.int 0 0), (.ref 286), (.int 125 0), (.int 0 0), (.ref 293), (.int 131 0), (.int 0 0), (.ref 300), (.int 143 0), (.int 0 0), (.ref 307), (.int 151 0), (.int 0 0), (.ref 314), (.int 155 0), (.int 0 0), (.ref 319), (.int 170 0), (.int 0 0), (.ref 324), (.int 178 0), (.int 0 0), (.ref 331), (.int 182 0), (.int 0 0), (.ref 338), (.int 189 0), (.int 0 0), (.ref 343), (.int 201 0), (.int 0 0), (.ref 348), (.int 206 0), (.int 0 0), (.ref 355), (.int 212 0), (.int 0 0), (.ref 360), (.int 214 0), (.int 0 0), (.ref 365), (.int 231 0), (.int 0 0), (.ref 370), (.int 240 0), (.int 0 0), (.ref 375), (.int 244 0), (.int 0 0), (.ref 380), (.int 251 0), (.int 0 0), (.ref 387), (.int 257 0), (.int 0 0), (.ref 392), (.int 267 0), (.int 0 0), (.ref 397), (.int 270 0), (.int 0 0), (.ref 402)]), #[]⟩
noncomputable def q296 (P : Params) : Obj := ⟨(.type "tuple"), none, (.seq #[] 0), #[]⟩
noncomputable def q297 (P : Params) : Obj := ⟨.none, none, (.fields #[]), #[]⟩
noncomputable def q298 (P : Params) : Obj := ⟨(.type "tuple"), none, (.seq #[(.str "part" 565), (.str "size" 566), (.str "first" 567), (.str "step" 568), (.str "many" 569), (.str "last" 570)] 0), #[]⟩
noncomputable def q299 (P : Params) : Obj := ⟨(.type "tuple"), none, (.seq #[] 0), #[]⟩
noncomputable def q300 (P : Params) : Obj := ⟨.none, none, (.func { name := "taken_row", qualname := "taken_row", params := (dR 34).params, body := .stmts (dR 34).body, scope := (dR 34).scope, globals := 0, closure := [], defaults := .none, kwdefaults := .none, doc := .none, pyModule := .none, annotations := none, code := .none, closureTuple := .none, builtins := 0 }), #[]⟩
noncomputable def q301 (P : Params) : Obj := ⟨(.type "code"), none, (.fields #[(.str "taken_row" 562), (.str "taken_row" 563), (.str "/claim/cut.py" 564), (.int 131 0), (.int 2 0), (.int 0 0), (.int 0 0), (.int 3 0), (.ref 295), (.bool true), (.int 181 0), (.ref 296), .none, (.ref 297), (.ref 298), (.ref 299), (.int 571 0), (.int 131 0), (.str "/claim/cut.py" 572)]), #[]⟩
noncomputable def q302 (P : Params) : Obj := ⟨(.type "function"), none, (.func { name := "taken_row", qualname := "taken_row", params := (dR 34).params, body := .stmts (dR 34).body, scope := (dR 34).scope, globals := 3, closure := [], defaults := .none, kwdefaults := .none, doc := .none, pyModule := (.str "methodrows.views" 560), annotations := none, code := (.ref 300), closureTuple := .none, builtins := 0 }), #[]⟩
noncomputable def q303 (P : Params) : Obj := ⟨(.type "tuple"), none, (.seq #[] 0), #[]⟩
noncomputable def q304 (P : Params) : Obj := ⟨.none, none, (.fields #[]), #[]⟩
noncomputable def q305 (P : Params) : Obj := ⟨(.type "tuple"), none, (.seq #[(.str "parts" 577), (.str "sizes" 578), (.str "found" 579), (.str "part" 580), (.str "size" 581)] 0), #[]⟩
noncomputable def q306 (P : Params) : Obj := ⟨(.type "tuple"), none, (.seq #[] 0), #[]⟩
noncomputable def q307 (P : Params) : Obj := ⟨.none, none, (.func { name := "edge_indices", qualname := "edge_indices", params := (dR 35).params, body := .stmts (dR 35).body, scope := (dR 35).scope, globals := 0, closure := [], defaults := .none, kwdefaults := .none, doc := .none, pyModule := .none, annotations := none, code := .none, closureTuple := .none, builtins := 0 }), #[]⟩
noncomputable def q308 (P : Params) : Obj := ⟨(.type "code"), none, (.fields #[(.str "edge_indices" 574), (.str "edge_indices" 575), (.str "/claim/cut.py" 576), (.int 143 0), (.int 2 0), (.int 0 0), (.int 0 0), (.int 3 0), (.ref 302), (.bool true), (.int 181 0), (.ref 303), .none, (.ref 304), (.ref 305), (.ref 306), (.int 582 0), (.int 143 0), (.str "/claim/cut.py" 583)]), #[]⟩
noncomputable def q309 (P : Params) : Obj := ⟨(.type "function"), none, (.func { name := "edge_indices", qualname := "edge_indices", params := (dR 35).params, body := .stmts (dR 35).body, scope := (dR 35).scope, globals := 3, closure := [], defaults := .none, kwdefaults := .none, doc := .none, pyModule := (.str "methodrows.views" 560), annotations := none, code := (.ref 307), closureTuple := .none, builtins := 0 }), #[]⟩
noncomputable def q310 (P : Params) : Obj := ⟨(.type "tuple"), none, (.seq #[] 0), #[]⟩
noncomputable def q311 (P : Params) : Obj := ⟨.none, none, (.fields #[]), #[]⟩
noncomputable def q312 (P : Params) : Obj := ⟨(.type "tuple"), none, (.seq #[(.str "part" 588), (.str "size" 589), (.str "first" 590), (.str "step" 591), (.str "many" 592), (.str "last" 593)] 0), #[]⟩
noncomputable def q313 (P : Params) : Obj := ⟨(.type "tuple"), none, (.seq #[] 0), #[]⟩
noncomputable def q314 (P : Params) : Obj := ⟨.none, none, (.func { name := "edge_of", qualname := "edge_of", params := (dR 36).params, body := .stmts (dR 36).body, scope := (dR 36).scope, globals := 0, closure := [], defaults := .none, kwdefaults := .none, doc := .none, pyModule := .none, annotations := none, code := .none, closureTuple := .none, builtins := 0 }), #[]⟩
noncomputable def q315 (P : Params) : Obj := ⟨(.type "code"), none, (.fields #[(.str "edge_of" 585), (.str "edge_of" 586), (.str "/claim/cut.py" 587), (.int 151 0), (.int 2 0), (.int 0 0), (.int 0 0), (.int 3 0), (.ref 309), (.bool true), (.int 181 0), (.ref 310), .none, (.ref 311), (.ref 312), (.ref 313), (.int 594 0), (.int 151 0), (.str "/claim/cut.py" 595)]), #[]⟩
noncomputable def q316 (P : Params) : Obj := ⟨(.type "function"), none, (.func { name := "edge_of", qualname := "edge_of", params := (dR 36).params, body := .stmts (dR 36).body, scope := (dR 36).scope, globals := 3, closure := [], defaults := .none, kwdefaults := .none, doc := .none, pyModule := (.str "methodrows.views" 560), annotations := none, code := (.ref 314), closureTuple := .none, builtins := 0 }), #[]⟩
noncomputable def q317 (P : Params) : Obj := ⟨(.type "tuple"), none, (.seq #[] 0), #[]⟩
noncomputable def q318 (P : Params) : Obj := ⟨.none, none, (.fields #[]), #[]⟩
noncomputable def q319 (P : Params) : Obj := ⟨.none, none, (.func { name := "view_of", qualname := "view_of", params := (dR 37).params, body := .stmts (dR 37).body, scope := (dR 37).scope, globals := 0, closure := [], defaults := .none, kwdefaults := .none, doc := .none, pyModule := .none, annotations := none, code := .none, closureTuple := .none, builtins := 0 }), #[]⟩
noncomputable def q320 (P : Params) : Obj := ⟨(.type "code"), none, (.fields #[(.str "view_of" 597), (.str "view_of" 598), (.str "/claim/cut.py" 599), (.int 155 0), (.int 3 0), (.int 0 0), (.int 0 0), (.int 3 0), (.ref 316), (.bool true), (.int 181 0), (.ref 317), .none, .none, .none, (.ref 318), (.int 600 0), (.int 155 0), (.str "/claim/cut.py" 601)]), #[]⟩
noncomputable def q321 (P : Params) : Obj := ⟨(.type "function"), none, (.func { name := "view_of", qualname := "view_of", params := (dR 37).params, body := .stmts (dR 37).body, scope := (dR 37).scope, globals := 3, closure := [], defaults := .none, kwdefaults := .none, doc := .none, pyModule := (.str "methodrows.views" 560), annotations := none, code := (.ref 319), closureTuple := .none, builtins := 0 }), #[]⟩
noncomputable def q322 (P : Params) : Obj := ⟨(.type "tuple"), none, (.seq #[] 0), #[]⟩
noncomputable def q323 (P : Params) : Obj := ⟨.none, none, (.fields #[]), #[]⟩
noncomputable def q324 (P : Params) : Obj := ⟨.none, none, (.func { name := "line_views", qualname := "line_views", params := (dR 38).params, body := .stmts (dR 38).body, scope := (dR 38).scope, globals := 0, closure := [], defaults := .none, kwdefaults := .none, doc := .none, pyModule := .none, annotations := none, code := .none, closureTuple := .none, builtins := 0 }), #[]⟩
noncomputable def q325 (P : Params) : Obj := ⟨(.type "code"), none, (.fields #[(.str "line_views" 603), (.str "line_views" 604), (.str "/claim/cut.py" 605), (.int 170 0), (.int 3 0), (.int 0 0), (.int 0 0), (.int 3 0), (.ref 321), (.bool true), (.int 181 0), (.ref 322), .none, .none, .none, (.ref 323), (.int 606 0), (.int 170 0), (.str "/claim/cut.py" 607)]), #[]⟩
noncomputable def q326 (P : Params) : Obj := ⟨(.type "function"), none, (.func { name := "line_views", qualname := "line_views", params := (dR 38).params, body := .stmts (dR 38).body, scope := (dR 38).scope, globals := 3, closure := [], defaults := .none, kwdefaults := .none, doc := .none, pyModule := (.str "methodrows.views" 560), annotations := none, code := (.ref 324), closureTuple := .none, builtins := 0 }), #[]⟩
noncomputable def q327 (P : Params) : Obj := ⟨(.type "tuple"), none, (.seq #[] 0), #[]⟩
noncomputable def q328 (P : Params) : Obj := ⟨.none, none, (.fields #[]), #[]⟩
noncomputable def q329 (P : Params) : Obj := ⟨(.type "tuple"), none, (.seq #[(.str "script" 614), (.str "cell" 615), (.str "sail" 616)] 0), #[]⟩
noncomputable def q330 (P : Params) : Obj := ⟨(.type "tuple"), none, (.seq #[] 0), #[]⟩
noncomputable def q331 (P : Params) : Obj := ⟨.none, none, (.func { name := "_law_mast", qualname := "_law_mast", params := (dR 40).params, body := .stmts (dR 40).body, scope := (dR 40).scope, globals := 0, closure := [], defaults := .none, kwdefaults := .none, doc := .none, pyModule := .none, annotations := none, code := .none, closureTuple := .none, builtins := 0 }), #[]⟩
noncomputable def q332 (P : Params) : Obj := ⟨(.type "code"), none, (.fields #[(.str "_law_mast" 611), (.str "_law_mast" 612), (.str "/claim/cut.py" 613), (.int 178 0), (.int 1 0), (.int 0 0), (.int 0 0), (.int 3 0), (.ref 326), (.bool true), (.int 181 0), (.ref 327), .none, (.ref 328), (.ref 329), (.ref 330), (.int 617 0), (.int 178 0), (.str "/claim/cut.py" 618)]), #[]⟩
noncomputable def q333 (P : Params) : Obj := ⟨(.type "function"), none, (.func { name := "_law_mast", qualname := "_law_mast", params := (dR 40).params, body := .stmts (dR 40).body, scope := (dR 40).scope, globals := 3, closure := [], defaults := .none, kwdefaults := .none, doc := .none, pyModule := (.str "law_pc0204_01" 609), annotations := none, code := (.ref 331), closureTuple := .none, builtins := 0 }), #[]⟩
noncomputable def q334 (P : Params) : Obj := ⟨(.type "tuple"), none, (.seq #[] 0), #[]⟩
noncomputable def q335 (P : Params) : Obj := ⟨.none, none, (.fields #[]), #[]⟩
noncomputable def q336 (P : Params) : Obj := ⟨(.type "tuple"), none, (.seq #[(.str "mast" 623), (.str "many" 624), (.str "loop" 625)] 0), #[]⟩
noncomputable def q337 (P : Params) : Obj := ⟨(.type "tuple"), none, (.seq #[] 0), #[]⟩
noncomputable def q338 (P : Params) : Obj := ⟨.none, none, (.func { name := "_law_knot", qualname := "_law_knot", params := (dR 41).params, body := .stmts (dR 41).body, scope := (dR 41).scope, globals := 0, closure := [], defaults := .none, kwdefaults := .none, doc := .none, pyModule := .none, annotations := none, code := .none, closureTuple := .none, builtins := 0 }), #[]⟩
noncomputable def q339 (P : Params) : Obj := ⟨(.type "code"), none, (.fields #[(.str "_law_knot" 620), (.str "_law_knot" 621), (.str "/claim/cut.py" 622), (.int 182 0), (.int 2 0), (.int 0 0), (.int 0 0), (.int 3 0), (.ref 333), (.bool true), (.int 181 0), (.ref 334), .none, (.ref 335), (.ref 336), (.ref 337), (.int 626 0), (.int 182 0), (.str "/claim/cut.py" 627)]), #[]⟩
noncomputable def q340 (P : Params) : Obj := ⟨(.type "function"), none, (.func { name := "_law_knot", qualname := "_law_knot", params := (dR 41).params, body := .stmts (dR 41).body, scope := (dR 41).scope, globals := 3, closure := [], defaults := .none, kwdefaults := .none, doc := .none, pyModule := (.str "law_pc0204_01" 609), annotations := none, code := (.ref 338), closureTuple := .none, builtins := 0 }), #[]⟩
noncomputable def q341 (P : Params) : Obj := ⟨(.type "tuple"), none, (.seq #[] 0), #[]⟩
noncomputable def q342 (P : Params) : Obj := ⟨.none, none, (.fields #[]), #[]⟩
noncomputable def q343 (P : Params) : Obj := ⟨.none, none, (.func { name := "_law_part", qualname := "_law_part", params := (dR 42).params, body := .stmts (dR 42).body, scope := (dR 42).scope, globals := 0, closure := [], defaults := .none, kwdefaults := .none, doc := .none, pyModule := .none, annotations := none, code := .none, closureTuple := .none, builtins := 0 }), #[]⟩
noncomputable def q344 (P : Params) : Obj := ⟨(.type "code"), none, (.fields #[(.str "_law_part" 629), (.str "_law_part" 630), (.str "/claim/cut.py" 631), (.int 189 0), (.int 2 0), (.int 0 0), (.int 0 0), (.int 3 0), (.ref 340), (.bool true), (.int 181 0), (.ref 341), .none, .none, .none, (.ref 342), (.int 632 0), (.int 189 0), (.str "/claim/cut.py" 633)]), #[]⟩
noncomputable def q345 (P : Params) : Obj := ⟨(.type "function"), none, (.func { name := "_law_part", qualname := "_law_part", params := (dR 42).params, body := .stmts (dR 42).body, scope := (dR 42).scope, globals := 3, closure := [], defaults := .none, kwdefaults := .none, doc := .none, pyModule := (.str "law_pc0204_01" 609), annotations := none, code := (.ref 343), closureTuple := .none, builtins := 0 }), #[]⟩
noncomputable def q346 (P : Params) : Obj := ⟨(.type "tuple"), none, (.seq #[] 0), #[]⟩
noncomputable def q347 (P : Params) : Obj := ⟨.none, none, (.fields #[]), #[]⟩
noncomputable def q348 (P : Params) : Obj := ⟨.none, none, (.func { name := "_law_grid", qualname := "_law_grid", params := (dR 43).params, body := .stmts (dR 43).body, scope := (dR 43).scope, globals := 0, closure := [], defaults := .none, kwdefaults := .none, doc := .none, pyModule := .none, annotations := none, code := .none, closureTuple := .none, builtins := 0 }), #[]⟩
noncomputable def q349 (P : Params) : Obj := ⟨(.type "code"), none, (.fields #[(.str "_law_grid" 635), (.str "_law_grid" 636), (.str "/claim/cut.py" 637), (.int 201 0), (.int 1 0), (.int 0 0), (.int 0 0), (.int 3 0), (.ref 345), (.bool true), (.int 181 0), (.ref 346), .none, .none, .none, (.ref 347), (.int 638 0), (.int 201 0), (.str "/claim/cut.py" 639)]), #[]⟩
noncomputable def q350 (P : Params) : Obj := ⟨(.type "function"), none, (.func { name := "_law_grid", qualname := "_law_grid", params := (dR 43).params, body := .stmts (dR 43).body, scope := (dR 43).scope, globals := 3, closure := [], defaults := .none, kwdefaults := .none, doc := .none, pyModule := (.str "law_pc0204_01" 609), annotations := none, code := (.ref 348), closureTuple := .none, builtins := 0 }), #[]⟩
noncomputable def q351 (P : Params) : Obj := ⟨(.type "tuple"), none, (.seq #[] 0), #[]⟩
noncomputable def q352 (P : Params) : Obj := ⟨.none, none, (.fields #[]), #[]⟩
noncomputable def q353 (P : Params) : Obj := ⟨(.type "tuple"), none, (.seq #[(.str "sizes" 644), (.str "place" 645), (.str "found" 646), (.str "far" 647)] 0), #[]⟩
noncomputable def q354 (P : Params) : Obj := ⟨(.type "tuple"), none, (.seq #[] 0), #[]⟩
noncomputable def q355 (P : Params) : Obj := ⟨.none, none, (.func { name := "_law_back", qualname := "_law_back", params := (dR 44).params, body := .stmts (dR 44).body, scope := (dR 44).scope, globals := 0, closure := [], defaults := .none, kwdefaults := .none, doc := .none, pyModule := .none, annotations := none, code := .none, closureTuple := .none, builtins := 0 }), #[]⟩
noncomputable def q356 (P : Params) : Obj := ⟨(.type "code"), none, (.fields #[(.str "_law_back" 641), (.str "_law_back" 642), (.str "/claim/cut.py" 643), (.int 206 0), (.int 2 0), (.int 0 0), (.int 0 0), (.int 3 0), (.ref 350), (.bool true), (.int 181 0), (.ref 351), .none, (.ref 352), (.ref 353), (.ref 354), (.int 648 0), (.int 206 0), (.str "/claim/cut.py" 649)]), #[]⟩
noncomputable def q357 (P : Params) : Obj := ⟨(.type "function"), none, (.func { name := "_law_back", qualname := "_law_back", params := (dR 44).params, body := .stmts (dR 44).body, scope := (dR 44).scope, globals := 3, closure := [], defaults := .none, kwdefaults := .none, doc := .none, pyModule := (.str "law_pc0204_01" 609), annotations := none, code := (.ref 355), closureTuple := .none, builtins := 0 }), #[]⟩
noncomputable def q358 (P : Params) : Obj := ⟨(.type "tuple"), none, (.seq #[] 0), #[]⟩
noncomputable def q359 (P : Params) : Obj := ⟨.none, none, (.fields #[]), #[]⟩
noncomputable def q360 (P : Params) : Obj := ⟨.none, none, (.func { name := "_law_kept", qualname := "_law_kept", params := (dR 45).params, body := .stmts (dR 45).body, scope := (dR 45).scope, globals := 0, closure := [], defaults := .none, kwdefaults := .none, doc := .none, pyModule := .none, annotations := none, code := .none, closureTuple := .none, builtins := 0 }), #[]⟩
noncomputable def q361 (P : Params) : Obj := ⟨(.type "code"), none, (.fields #[(.str "_law_kept" 651), (.str "_law_kept" 652), (.str "/claim/cut.py" 653), (.int 212 0), (.int 1 0), (.int 0 0), (.int 0 0), (.int 3 0), (.ref 357), (.bool true), (.int 181 0), (.ref 358), .none, .none, .none, (.ref 359), (.int 654 0), (.int 212 0), (.str "/claim/cut.py" 655)]), #[]⟩
noncomputable def q362 (P : Params) : Obj := ⟨(.type "function"), none, (.func { name := "_law_kept", qualname := "_law_kept", params := (dR 45).params, body := .stmts (dR 45).body, scope := (dR 45).scope, globals := 3, closure := [], defaults := .none, kwdefaults := .none, doc := .none, pyModule := (.str "law_pc0204_01" 609), annotations := none, code := (.ref 360), closureTuple := .none, builtins := 0 }), #[]⟩
noncomputable def q363 (P : Params) : Obj := ⟨(.type "tuple"), none, (.seq #[] 0), #[]⟩
noncomputable def q364 (P : Params) : Obj := ⟨.none, none, (.fields #[]), #[]⟩
noncomputable def q365 (P : Params) : Obj := ⟨.none, none, (.func { name := "_law_view_right", qualname := "_law_view_right", params := (dR 46).params, body := .stmts (dR 46).body, scope := (dR 46).scope, globals := 0, closure := [], defaults := .none, kwdefaults := .none, doc := .none, pyModule := .none, annotations := none, code := .none, closureTuple := .none, builtins := 0 }), #[]⟩
noncomputable def q366 (P : Params) : Obj := ⟨(.type "code"), none, (.fields #[(.str "_law_view_right" 657), (.str "_law_view_right" 658), (.str "/claim/cut.py" 659), (.int 214 0), (.int 4 0), (.int 0 0), (.int 0 0), (.int 3 0), (.ref 362), (.bool true), (.int 181 0), (.ref 363), .none, .none, .none, (.ref 364), (.int 660 0), (.int 214 0), (.str "/claim/cut.py" 661)]), #[]⟩
noncomputable def q367 (P : Params) : Obj := ⟨(.type "function"), none, (.func { name := "_law_view_right", qualname := "_law_view_right", params := (dR 46).params, body := .stmts (dR 46).body, scope := (dR 46).scope, globals := 3, closure := [], defaults := .none, kwdefaults := .none, doc := .none, pyModule := (.str "law_pc0204_01" 609), annotations := none, code := (.ref 365), closureTuple := .none, builtins := 0 }), #[]⟩
noncomputable def q368 (P : Params) : Obj := ⟨(.type "tuple"), none, (.seq #[] 0), #[]⟩
noncomputable def q369 (P : Params) : Obj := ⟨.none, none, (.fields #[]), #[]⟩
noncomputable def q370 (P : Params) : Obj := ⟨.none, none, (.func { name := "_law_put", qualname := "_law_put", params := (dR 47).params, body := .stmts (dR 47).body, scope := (dR 47).scope, globals := 0, closure := [], defaults := .none, kwdefaults := .none, doc := .none, pyModule := .none, annotations := none, code := .none, closureTuple := .none, builtins := 0 }), #[]⟩
noncomputable def q371 (P : Params) : Obj := ⟨(.type "code"), none, (.fields #[(.str "_law_put" 663), (.str "_law_put" 664), (.str "/claim/cut.py" 665), (.int 231 0), (.int 2 0), (.int 0 0), (.int 0 0), (.int 3 0), (.ref 367), (.bool true), (.int 181 0), (.ref 368), .none, .none, .none, (.ref 369), (.int 666 0), (.int 231 0), (.str "/claim/cut.py" 667)]), #[]⟩
noncomputable def q372 (P : Params) : Obj := ⟨(.type "function"), none, (.func { name := "_law_put", qualname := "_law_put", params := (dR 47).params, body := .stmts (dR 47).body, scope := (dR 47).scope, globals := 3, closure := [], defaults := .none, kwdefaults := .none, doc := .none, pyModule := (.str "law_pc0204_01" 609), annotations := none, code := (.ref 370), closureTuple := .none, builtins := 0 }), #[]⟩
noncomputable def q373 (P : Params) : Obj := ⟨(.type "tuple"), none, (.seq #[] 0), #[]⟩
noncomputable def q374 (P : Params) : Obj := ⟨.none, none, (.fields #[]), #[]⟩
noncomputable def q375 (P : Params) : Obj := ⟨.none, none, (.func { name := "_law_steps_right", qualname := "_law_steps_right", params := (dR 48).params, body := .stmts (dR 48).body, scope := (dR 48).scope, globals := 0, closure := [], defaults := .none, kwdefaults := .none, doc := .none, pyModule := .none, annotations := none, code := .none, closureTuple := .none, builtins := 0 }), #[]⟩
noncomputable def q376 (P : Params) : Obj := ⟨(.type "code"), none, (.fields #[(.str "_law_steps_right" 669), (.str "_law_steps_right" 670), (.str "/claim/cut.py" 671), (.int 240 0), (.int 4 0), (.int 0 0), (.int 0 0), (.int 3 0), (.ref 372), (.bool true), (.int 181 0), (.ref 373), .none, .none, .none, (.ref 374), (.int 672 0), (.int 240 0), (.str "/claim/cut.py" 673)]), #[]⟩
noncomputable def q377 (P : Params) : Obj := ⟨(.type "function"), none, (.func { name := "_law_steps_right", qualname := "_law_steps_right", params := (dR 48).params, body := .stmts (dR 48).body, scope := (dR 48).scope, globals := 3, closure := [], defaults := .none, kwdefaults := .none, doc := .none, pyModule := (.str "law_pc0204_01" 609), annotations := none, code := (.ref 375), closureTuple := .none, builtins := 0 }), #[]⟩
noncomputable def q378 (P : Params) : Obj := ⟨(.type "tuple"), none, (.seq #[] 0), #[]⟩
noncomputable def q379 (P : Params) : Obj := ⟨.none, none, (.fields #[]), #[]⟩
noncomputable def q380 (P : Params) : Obj := ⟨.none, none, (.func { name := "_law_lines_right", qualname := "_law_lines_right", params := (dR 49).params, body := .stmts (dR 49).body, scope := (dR 49).scope, globals := 0, closure := [], defaults := .none, kwdefaults := .none, doc := .none, pyModule := .none, annotations := none, code := .none, closureTuple := .none, builtins := 0 }), #[]⟩
noncomputable def q381 (P : Params) : Obj := ⟨(.type "code"), none, (.fields #[(.str "_law_lines_right" 675), (.str "_law_lines_right" 676), (.str "/claim/cut.py" 677), (.int 244 0), (.int 3 0), (.int 0 0), (.int 0 0), (.int 3 0), (.ref 377), (.bool true), (.int 181 0), (.ref 378), .none, .none, .none, (.ref 379), (.int 678 0), (.int 244 0), (.str "/claim/cut.py" 679)]), #[]⟩
noncomputable def q382 (P : Params) : Obj := ⟨(.type "function"), none, (.func { name := "_law_lines_right", qualname := "_law_lines_right", params := (dR 49).params, body := .stmts (dR 49).body, scope := (dR 49).scope, globals := 3, closure := [], defaults := .none, kwdefaults := .none, doc := .none, pyModule := (.str "law_pc0204_01" 609), annotations := none, code := (.ref 380), closureTuple := .none, builtins := 0 }), #[]⟩
noncomputable def q383 (P : Params) : Obj := ⟨(.type "tuple"), none, (.seq #[] 0), #[]⟩
noncomputable def q384 (P : Params) : Obj := ⟨.none, none, (.fields #[]), #[]⟩
noncomputable def q385 (P : Params) : Obj := ⟨(.type "tuple"), none, (.seq #[(.str "heap" 684), (.str "value" 685), (.str "parts" 686), (.str "error" 687)] 0), #[]⟩
noncomputable def q386 (P : Params) : Obj := ⟨(.type "tuple"), none, (.seq #[] 0), #[]⟩
noncomputable def q387 (P : Params) : Obj := ⟨.none, none, (.func { name := "_law_fault", qualname := "_law_fault", params := (dR 50).params, body := .stmts (dR 50).body, scope := (dR 50).scope, globals := 0, closure := [], defaults := .none, kwdefaults := .none, doc := .none, pyModule := .none, annotations := none, code := .none, closureTuple := .none, builtins := 0 }), #[]⟩
noncomputable def q388 (P : Params) : Obj := ⟨(.type "code"), none, (.fields #[(.str "_law_fault" 681), (.str "_law_fault" 682), (.str "/claim/cut.py" 683), (.int 251 0), (.int 3 0), (.int 0 0), (.int 0 0), (.int 3 0), (.ref 382), (.bool true), (.int 181 0), (.ref 383), .none, (.ref 384), (.ref 385), (.ref 386), (.int 688 0), (.int 251 0), (.str "/claim/cut.py" 689)]), #[]⟩
noncomputable def q389 (P : Params) : Obj := ⟨(.type "function"), none, (.func { name := "_law_fault", qualname := "_law_fault", params := (dR 50).params, body := .stmts (dR 50).body, scope := (dR 50).scope, globals := 3, closure := [], defaults := .none, kwdefaults := .none, doc := .none, pyModule := (.str "law_pc0204_01" 609), annotations := none, code := (.ref 387), closureTuple := .none, builtins := 0 }), #[]⟩
noncomputable def q390 (P : Params) : Obj := ⟨(.type "tuple"), none, (.seq #[] 0), #[]⟩
noncomputable def q391 (P : Params) : Obj := ⟨.none, none, (.fields #[]), #[]⟩
noncomputable def q392 (P : Params) : Obj := ⟨.none, none, (.func { name := "_law_beyond_right", qualname := "_law_beyond_right", params := (dR 51).params, body := .stmts (dR 51).body, scope := (dR 51).scope, globals := 0, closure := [], defaults := .none, kwdefaults := .none, doc := .none, pyModule := .none, annotations := none, code := .none, closureTuple := .none, builtins := 0 }), #[]⟩
noncomputable def q393 (P : Params) : Obj := ⟨(.type "code"), none, (.fields #[(.str "_law_beyond_right" 691), (.str "_law_beyond_right" 692), (.str "/claim/cut.py" 693), (.int 257 0), (.int 3 0), (.int 0 0), (.int 0 0), (.int 3 0), (.ref 389), (.bool true), (.int 181 0), (.ref 390), .none, .none, .none, (.ref 391), (.int 694 0), (.int 257 0), (.str "/claim/cut.py" 695)]), #[]⟩
noncomputable def q394 (P : Params) : Obj := ⟨(.type "function"), none, (.func { name := "_law_beyond_right", qualname := "_law_beyond_right", params := (dR 51).params, body := .stmts (dR 51).body, scope := (dR 51).scope, globals := 3, closure := [], defaults := .none, kwdefaults := .none, doc := .none, pyModule := (.str "law_pc0204_01" 609), annotations := none, code := (.ref 392), closureTuple := .none, builtins := 0 }), #[]⟩
noncomputable def q395 (P : Params) : Obj := ⟨(.type "tuple"), none, (.seq #[] 0), #[]⟩
noncomputable def q396 (P : Params) : Obj := ⟨.none, none, (.fields #[]), #[]⟩
noncomputable def q397 (P : Params) : Obj := ⟨.none, none, (.func { name := "_law_array", qualname := "_law_array", params := (dR 52).params, body := .stmts (dR 52).body, scope := (dR 52).scope, globals := 0, closure := [], defaults := .none, kwdefaults := .none, doc := .none, pyModule := .none, annotations := none, code := .none, closureTuple := .none, builtins := 0 }), #[]⟩
noncomputable def q398 (P : Params) : Obj := ⟨(.type "code"), none, (.fields #[(.str "_law_array" 697), (.str "_law_array" 698), (.str "/claim/cut.py" 699), (.int 267 0), (.int 2 0), (.int 0 0), (.int 0 0), (.int 3 0), (.ref 394), (.bool true), (.int 181 0), (.ref 395), .none, .none, .none, (.ref 396), (.int 700 0), (.int 267 0), (.str "/claim/cut.py" 701)]), #[]⟩
noncomputable def q399 (P : Params) : Obj := ⟨(.type "function"), none, (.func { name := "_law_array", qualname := "_law_array", params := (dR 52).params, body := .stmts (dR 52).body, scope := (dR 52).scope, globals := 3, closure := [], defaults := .none, kwdefaults := .none, doc := .none, pyModule := (.str "law_pc0204_01" 609), annotations := none, code := (.ref 397), closureTuple := .none, builtins := 0 }), #[]⟩
noncomputable def q400 (P : Params) : Obj := ⟨(.type "tuple"), none, (.seq #[] 0), #[]⟩
noncomputable def q401 (P : Params) : Obj := ⟨.none, none, (.fields #[]), #[]⟩
noncomputable def q402 (P : Params) : Obj := ⟨.none, none, (.func { name := "law", qualname := "law", params := (dR 53).params, body := .stmts (dR 53).body, scope := (dR 53).scope, globals := 0, closure := [], defaults := .none, kwdefaults := .none, doc := .none, pyModule := .none, annotations := none, code := .none, closureTuple := .none, builtins := 0 }), #[]⟩
noncomputable def q403 (P : Params) : Obj := ⟨(.type "code"), none, (.fields #[(.str "law" 703), (.str "law" 704), (.str "/claim/cut.py" 705), (.int 270 0), (.int 1 0), (.int 0 0), (.int 0 0), (.int 3 0), (.ref 399), (.bool true), (.int 181 0), (.ref 400), .none, .none, .none, (.ref 401), (.int 706 0), (.int 270 0), (.str "/claim/cut.py" 707)]), #[]⟩
noncomputable def q404 (P : Params) : Obj := ⟨(.type "function"), none, (.func { name := "law", qualname := "law", params := (dR 53).params, body := .stmts (dR 53).body, scope := (dR 53).scope, globals := 3, closure := [], defaults := .none, kwdefaults := .none, doc := .none, pyModule := (.str "law_pc0204_01" 609), annotations := none, code := (.ref 402), closureTuple := .none, builtins := 0 }), #[]⟩
noncomputable def H6 (P : Params) : Heap := ⟨⟨[boot_o_0 P, boot_o_1 P, q4 P, q294 P, boot_o_4 P, boot_o_5 P, boot_o_6 P, boot_o_7 P, boot_o_8 P, boot_o_9 P, boot_o_10 P, q0 P, q295 P, q2 P, q3 P, q7 P, q8 P, q9 P, q10 P, q11 P, q12 P, q13 P, q14 P, q15 P, q16 P, q17 P, q18 P, q19 P, q20 P, q21 P, q22 P, q23 P, q24 P, q25 P, q26 P, q27 P, q28 P, q29 P, q30 P, q49 P, q32 P, q33 P, q34 P, q35 P, q36 P, q37 P, q38 P, q39 P, q40 P, q41 P, q42 P, q43 P, q44 P, q45 P, q46 P, q50 P, q51 P, q52 P, q53 P, q54 P, q55 P, q56 P, q57 P, q58 P, q59 P, q60 P, q61 P, q62 P, q63 P, q64 P, q65 P, q66 P, q67 P, q68 P, q69 P, q70 P, q71 P, q72 P, q73 P, q74 P, q75 P, q76 P, q77 P, q78 P, q79 P, q80 P, q81 P, q82 P, q83 P, q84 P, q85 P, q86 P, q87 P, q88 P, q89 P, q90 P, q91 P, q92 P, q93 P, q94 P, q95 P, q96 P, q97 P, q98 P, q99 P, q100 P, q101 P, q102 P, q103 P, q104 P, q105 P, q106 P, q107 P, q108 P, q109 P, q110 P, q111 P, q112 P, q113 P, q114 P, q115 P, q116 P, q117 P, q118 P, q119 P, q120 P, q123 P, q124 P, q125 P, q126 P, q127 P, q128 P, q129 P, q130 P, q131 P, q132 P, q133 P, q134 P, q135 P, q136 P, q137 P, q138 P, q139 P, q140 P, q141 P, q142 P, q143 P, q144 P, q145 P, q146 P, q147 P, q148 P, q149 P, q150 P, q151 P, q152 P, q153 P, q154 P, q155 P, q156 P, q157 P, q158 P, q159 P, q160 P, q161 P, q162 P, q163 P, q164 P, q165 P, q166 P, q167 P, q168 P, q169 P, q170 P, q171 P, q172 P, q173 P, q174 P, q175 P, q176 P, q177 P, q178 P, q179 P, q180 P, q181 P, q182 P, q183 P, q184 P, q185 P, q186 P, q187 P, q188 P, q189 P, q190 P, q191 P, q192 P, q193 P, q194 P, q195 P, q196 P, q197 P, q198 P, q199 P, q202 P, q203 P, q204 P, q205 P, q206 P, q207 P, q208 P, q209 P, q210 P, q211 P, q212 P, q213 P, q214 P, q215 P, q216 P, q217 P, q218 P, q219 P, q220 P, q221 P, q222 P, q223 P, q224 P, q225 P, q226 P, q227 P, q228 P, q229 P, q230 P, q231 P, q232 P, q233 P, q234 P, q235 P, q236 P, q237 P, q238 P, q239 P, q240 P, q241 P, q242 P, q243 P, q244 P, q245 P, q246 P, q247 P, q248 P, q249 P, q250 P, q251 P, q252 P, q253 P, q254 P, q255 P, q256 P, q257 P, q258 P, q259 P, q260 P, q261 P, q262 P, q263 P, q264 P, q265 P, q266 P, q267 P, q268 P, q269 P, q270 P, q271 P, q272 P, q273 P, q274 P, q275 P, q276 P, q277 P, q278 P, q279 P, q280 P, q281 P, q282 P, q283 P, q284 P, q285 P, q286 P, q287 P, q288 P, q289 P, q290 P, q291 P, q292 P, q293 P, q296 P, q297 P, q298 P, q299 P, q300 P, q301 P, q302 P, q303 P, q304 P, q305 P, q306 P, q307 P, q308 P, q309 P, q310 P, q311 P, q312 P, q313 P, q314 P, q315 P, q316 P, q317 P, q318 P, q319 P, q320 P, q321 P, q322 P, q323 P, q324 P, q325 P, q326 P, q327 P, q328 P, q329 P, q330 P, q331 P, q332 P, q333 P, q334 P, q335 P, q336 P, q337 P, q338 P, q339 P, q340 P, q341 P, q342 P, q343 P, q344 P, q345 P, q346 P, q347 P, q348 P, q349 P, q350 P, q351 P, q352 P, q353 P, q354 P, q355 P, q356 P, q357 P, q358 P, q359 P, q360 P, q361 P, q362 P, q363 P, q364 P, q365 P, q366 P, q367 P, q368 P, q369 P, q370 P, q371 P, q372 P, q373 P, q374 P, q375 P, q376 P, q377 P, q378 P, q379 P, q380 P, q381 P, q382 P, q383 P, q384 P, q385 P, q386 P, q387 P, q388 P, q389 P, q390 P, q391 P, q392 P, q393 P, q394 P, q395 P, q396 P, q397 P, q398 P, q399 P, q400 P, q401 P, q402 P, q403 P, q404 P]⟩, (boot_heap P).life⟩
noncomputable abbrev hbd : List Stmt := behindTheImports pw
noncomputable abbrev henv : Env := { scope := pw.main.scope, locals := mainNs, globals := mainNs, cells := [], code := .ref 13, frame := some 14 }
noncomputable abbrev hp0 : Pos := ⟨0, 0, 0, 0⟩
noncomputable abbrev hcd : Code := .body hbd henv
noncomputable abbrev hG : Array GenState := ⟨[]⟩
theorem hpre : ∀ w : World, (fun os => topGo treeTable pw w 11 (some (.ref 6)) 12 ⟨boot_heap w.params, hG, boot_drawn, boot_toks, os⟩ (topStub pw)) = fun os => some (⟨H0 w.params, hG, boot_drawn, 187, os⟩, ⟨denote treeTable hcd, hcd, hp0, [topFrame hp0]⟩) := by intro w; kernel_rfl
theorem hblk : ∀ w : World, (fun os => segRun treeTable pw w 11 (some (.ref 6)) 1 1 ⟨H0 w.params, hG, boot_drawn, 187, os⟩ (blockOf hbd henv hcd hp0 [topFrame hp0])) = fun os => some (.next, ⟨H1 w.params, hG, boot_drawn, 187, os⟩, hcd, hp0) := by intro w; kernel_rfl
noncomputable abbrev hL1 : List Stmt := hbd.drop 4
theorem hseg1 : ∀ w : World, (fun os => segRun treeTable pw w 11 (some (.ref 6)) 1 483 ⟨H1 w.params, hG, boot_drawn, 187, os⟩ (piecesOf (hbd.take 4) henv hcd ⟨0, 0, 0, 0⟩ [topFrame hp0])) = fun os => some (.next, ⟨H2 w.params, hG, boot_drawn, 243, os⟩, hcd, ⟨11, 0, 12, 8⟩) := by intro w; kernel_rfl
noncomputable abbrev hL2 : List Stmt := hL1.drop 11
theorem hseg2 : ∀ w : World, (fun os => segRun treeTable pw w 11 (some (.ref 6)) 1 486 ⟨H2 w.params, hG, boot_drawn, 243, os⟩ (piecesOf (hL1.take 11) henv hcd ⟨11, 0, 12, 8⟩ [topFrame hp0])) = fun os => some (.next, ⟨H3 w.params, hG, boot_drawn, 329, os⟩, hcd, ⟨34, 0, 34, 8⟩) := by intro w; kernel_rfl
noncomputable abbrev hL3 : List Stmt := hL2.drop 2
theorem hseg3 : ∀ w : World, (fun os => segRun treeTable pw w 11 (some (.ref 6)) 1 611 ⟨H3 w.params, hG, boot_drawn, 329, os⟩ (piecesOf (hL2.take 2) henv hcd ⟨34, 0, 34, 8⟩ [topFrame hp0])) = fun os => some (.next, ⟨H4 w.params, hG, boot_drawn, 433, os⟩, hcd, ⟨41, 0, 62, 35⟩) := by intro w; kernel_rfl
noncomputable abbrev hL4 : List Stmt := hL3.drop 17
theorem hseg4 : ∀ w : World, (fun os => segRun treeTable pw w 11 (some (.ref 6)) 1 453 ⟨H4 w.params, hG, boot_drawn, 433, os⟩ (piecesOf (hL3.take 17) henv hcd ⟨41, 0, 62, 35⟩ [topFrame hp0])) = fun os => some (.next, ⟨H5 w.params, hG, boot_drawn, 562, os⟩, hcd, ⟨130, 0, 130, 8⟩) := by intro w; kernel_rfl
noncomputable abbrev hL5 : List Stmt := hL4.drop 20
theorem hseg5 : ∀ w : World, (fun os => segRun treeTable pw w 11 (some (.ref 6)) 1 549 ⟨H5 w.params, hG, boot_drawn, 562, os⟩ (piecesOf (hL4.take 20) henv hcd ⟨130, 0, 130, 8⟩ [topFrame hp0])) = fun os => some (.next, ⟨H6 w.params, hG, boot_drawn, 709, os⟩, hcd, ⟨270, 0, 288, 69⟩) := by intro w; kernel_rfl
theorem hfin : ∀ w : World, (fun os => topRun treeTable pw w 11 (some (.ref 6)) 2 ⟨H6 w.params, hG, boot_drawn, 709, os⟩ ⟨doneF .next, hcd, ⟨270, 0, 288, 69⟩, [topFrame hp0]⟩) = fun os => some ⟨H6 w.params, hG, boot_drawn, 709, os⟩ := by intro w; kernel_rfl
theorem hcut (w : World) (N : Nat) (s : Shared) (ps : Pos) (l : List Stmt) (n : Nat) (r : Option Shared) (h : topRun treeTable pw w 11 (some (.ref 6)) N s (restOf (l.take n ++ l.drop n) henv hcd ps [topFrame hp0]) = r) : topRun treeTable pw w 11 (some (.ref 6)) N s (restOf l henv hcd ps [topFrame hp0]) = r := by rwa [List.take_append_drop] at h
theorem hrun : ∀ (w : World) (os : OsState), topRun treeTable pw w 11 (some (.ref 6)) (12 + (1 + (483 + (486 + (611 + (453 + (549 + 2))))))) ⟨boot_heap w.params, hG, boot_drawn, boot_toks, os⟩ (topStub pw) = some ⟨H6 w.params, hG, boot_drawn, 709, os⟩ := by
  intro w os
  refine go_top (congrFun (hpre w) os) ?_
  refine piece_block (congrFun (hblk w) os) ?_
  refine hcut w _ _ _ hbd 4 _ ?_
  refine piece_app (congrFun (hseg1 w) os) ?_
  refine hcut w _ _ _ hL1 11 _ ?_
  refine piece_app (congrFun (hseg2 w) os) ?_
  refine hcut w _ _ _ hL2 2 _ ?_
  refine piece_app (congrFun (hseg3 w) os) ?_
  refine hcut w _ _ _ hL3 17 _ ?_
  refine piece_app (congrFun (hseg4 w) os) ?_
  refine hcut w _ _ _ hL4 20 _ ?_
  refine piece_app (congrFun (hseg5 w) os) ?_
  have e : hL5 = [] := by kernel_rfl
  rw [show hL4.drop 20 = [] from e]
  exact piece_nil (congrFun (hfin w) os)
noncomputable def hloose : List Str := [Str.ofString "_wall", Str.ofString "RowsError", Str.ofString "MachineFault", Str.ofString "Thrown", Str.ofString "int_value", Str.ofString "text_value", Str.ofString "error_kind", Str.ofString "error_value", Str.ofString "thrown", Str.ofString "thrown_text", Str.ofString "named", Str.ofString "Thing", Str.ofString "Heap", Str.ofString "array_kind", Str.ofString "MOST_ITEMS", Str.ofString "many_of", Str.ofString "strides_of", Str.ofString "offset_of", Str.ofString "index_of", Str.ofString "bounds_fault", Str.ofString "check_sizes", Str.ofString "is_array", Str.ofString "parent_of", Str.ofString "sizes_of", Str.ofString "layout_of", Str.ofString "place_in_parent", Str.ofString "places_of", Str.ofString "made", Str.ofString "taken_row", Str.ofString "edge_indices", Str.ofString "edge_of", Str.ofString "view_of", Str.ofString "line_views", Str.ofString "_law_mast", Str.ofString "_law_knot", Str.ofString "_law_part", Str.ofString "_law_grid", Str.ofString "_law_back", Str.ofString "_law_kept", Str.ofString "_law_view_right", Str.ofString "_law_put", Str.ofString "_law_steps_right", Str.ofString "_law_lines_right", Str.ofString "_law_fault", Str.ofString "_law_beyond_right", Str.ofString "_law_array"]
noncomputable def hq : Program := { pw with main := { pw.main with body := [nthSt pw.main.body 53] } }
theorem hopen : ∀ w : World, (fencedOpening treeTable pw w 4000).map (fun s => (s.heap, s.gens, s.drawn, s.toks)) = some (boot_heap w.params, Array.mk [], boot_drawn, boot_toks) :=
  boot_open (by kernel_rfl) (by decide) (by intro s; kernel_rfl)
theorem hsize : ∀ w : World, ((boot_heap w.params).isNs mainGlobals && hG.size == 0, (boot_heap w.params).objs.size, (boot_heap w.params).nsMap mainGlobals "__annotations__") = (true, 11, some (.ref 6)) := by intro w; kernel_rfl
theorem hlook1 : ∀ w : World, (fun os : OsState => (staticsOk (importedModules pw.main.body) (boot_heap w.params) (H6 w.params) && namesBound pw (H6 w.params) && gensDone ⟨H6 w.params, hG, boot_drawn, 709, os⟩ && laidKept (boot_heap w.params) (H6 w.params))) = fun _ => true := by intro w; kernel_rfl
theorem hlook2 : ∀ w : World, (fun os : OsState => openSeen hq hloose (importedModules pw.main.body) (fun _ => true) true ⟨H6 w.params, hG, boot_drawn, 709, os⟩) = fun _ => openGood hq hloose := by intro w; kernel_rfl
theorem hleft : LeftO pw hq hloose (fun _ => true) (fun s => s.heap) (fun w => H6 w.params) 4000 :=
  LeftO.of_pieces hopen hsize hrun (by decide) fun w => by
    funext os
    exact Prod.ext (congrFun (hlook1 w) os) (Prod.ext (congrFun (hlook2 w) os) rfl)
noncomputable def fldOf : Data → Array Value
  | .fields vs => vs
  | _ => #[]
noncomputable def esOf : Data → Array DictEntry
  | .dict es _ => es
  | _ => #[]
noncomputable def epOf : Data → Nat
  | .dict _ n => n
  | _ => 0
structure At6 (c : Cx) (P : Params) : Prop where
  keep : ∀ b o, (H6 P).get? b = some o → c.h0.get? b = some o
  ns : c.h0.Ns mainGlobals c.mg
section
variable {c : Cx} {P : Params}
theorem at_main : (H6 P).get? 3 = some (q294 P) := by kernel_rfl
theorem main_data : (q294 P).data = .dict (esOf (q294 P).data) (epOf (q294 P).data) := by kernel_rfl
theorem At6.mg (x : At6 c P) {n : Str} {v : Option Value} (h : nsFind (esOf (q294 P).data) n = v) : c.mg n = v := by
  obtain ⟨o, es, ep, e, d, _, k⟩ := x.ns
  have e' := x.keep 3 _ at_main
  rw [show c.h0.get? 3 = some o from e] at e'
  cases e'
  rw [main_data] at d
  cases d
  rw [← k n]; exact h
theorem At6.fnIs (x : At6 c P) {qual : Str} {d : DefRec} {a C : Addr} {o oc : Obj} {pm doc : Value} {t : Tok} (h1 : (H6 P).get? a = some o) (h2 : o.data = .func { docDef d.name d.params d.body d.scope pm (.ref C) doc with qualname := qual, defaults := .none, kwdefaults := .none })
    (h3 : (H6 P).get? C = some oc) (h4 : oc.data = .fields (fldOf oc.data)) (h5 : (fldOf oc.data)[1]? = some (.str qual t)) : FnIs c qual d [] a :=
  ⟨⟨o, pm, .ref C, doc, .none, x.keep _ _ h1, h2, ⟨C, oc, _, t, rfl, x.keep _ _ h3, h4, h5⟩, .inl ⟨rfl, rfl⟩⟩⟩
theorem At6.fnIs1 (x : At6 c P) {qual : Str} {d : DefRec} {a C T : Addr} {o oc oT : Obj} {pm doc v : Value} {t : Tok} {dd : D} {n : Nat} (h1 : (H6 P).get? a = some o) (h2 : o.data = .func { docDef d.name d.params d.body d.scope pm (.ref C) doc with qualname := qual, defaults := .ref T, kwdefaults := .none })
    (h3 : (H6 P).get? C = some oc) (h4 : oc.data = .fields (fldOf oc.data)) (h5 : (fldOf oc.data)[1]? = some (.str qual t)) (h6 : (H6 P).get? T = some oT) (h7 : oT.data = .seq #[v] n) (h8 : Rep (fun _ => False) c.h0 v dd) : FnIs c qual d [dd] a :=
  ⟨⟨o, pm, .ref C, doc, .ref T, x.keep _ _ h1, h2, ⟨C, oc, _, t, rfl, x.keep _ _ h3, h4, h5⟩, .inr ⟨by simp, T, oT, n, [v], rfl, x.keep _ _ h6, h7, .cons h8 .nil⟩⟩⟩
theorem hf8 (x : At6 c P) : FnIs c "error_kind" (dR 8) [] 95 := x.fnIs (C := 94) (o := q90 P) (oc := q89 P) (pm := (.str "methodrows.forms" 268)) (doc := .none) (t := 287) (by kernel_rfl) (by kernel_rfl) (by kernel_rfl) (by kernel_rfl) (by kernel_rfl)
theorem hn8 : (dR 8).name = "error_kind" := by kernel_rfl
theorem hg8 (x : At6 c P) : Glob c (dR 8) [] := ⟨95, x.mg (by kernel_rfl), hn8 ▸ hf8 x⟩
theorem hf9 (x : At6 c P) : FnIs c "error_value" (dR 9) [] 102 := x.fnIs (C := 101) (o := q97 P) (oc := q96 P) (pm := (.str "methodrows.forms" 268)) (doc := .none) (t := 294) (by kernel_rfl) (by kernel_rfl) (by kernel_rfl) (by kernel_rfl) (by kernel_rfl)
theorem hn9 : (dR 9).name = "error_value" := by kernel_rfl
theorem hg9 (x : At6 c P) : Glob c (dR 9) [] := ⟨102, x.mg (by kernel_rfl), hn9 ▸ hf9 x⟩
theorem hf10 (x : At6 c P) : FnIs c "thrown" (dR 10) [] 109 := x.fnIs (C := 108) (o := q104 P) (oc := q103 P) (pm := (.str "methodrows.forms" 268)) (doc := .none) (t := 302) (by kernel_rfl) (by kernel_rfl) (by kernel_rfl) (by kernel_rfl) (by kernel_rfl)
theorem hn10 : (dR 10).name = "thrown" := by kernel_rfl
theorem hg10 (x : At6 c P) : Glob c (dR 10) [] := ⟨109, x.mg (by kernel_rfl), hn10 ▸ hf10 x⟩
theorem hf17 (x : At6 c P) : FnIs c "array_kind" (dR 17) [] 209 := x.fnIs (C := 208) (o := q208 P) (oc := q207 P) (pm := (.str "methodrows.values" 327)) (doc := .none) (t := 434) (by kernel_rfl) (by kernel_rfl) (by kernel_rfl) (by kernel_rfl) (by kernel_rfl)
theorem hn17 : (dR 17).name = "array_kind" := by kernel_rfl
theorem hg17 (x : At6 c P) : Glob c (dR 17) [] := ⟨209, x.mg (by kernel_rfl), hn17 ▸ hf17 x⟩
theorem hf20 (x : At6 c P) : FnIs c "many_of" (dR 20) [] 216 := x.fnIs (C := 215) (o := q215 P) (oc := q214 P) (pm := (.str "methodrows.arrays" 441)) (doc := .none) (t := 446) (by kernel_rfl) (by kernel_rfl) (by kernel_rfl) (by kernel_rfl) (by kernel_rfl)
theorem hn20 : (dR 20).name = "many_of" := by kernel_rfl
theorem hg20 (x : At6 c P) : Glob c (dR 20) [] := ⟨216, x.mg (by kernel_rfl), hn20 ▸ hf20 x⟩
theorem hf21 (x : At6 c P) : FnIs c "strides_of" (dR 21) [] 223 := x.fnIs (C := 222) (o := q222 P) (oc := q221 P) (pm := (.str "methodrows.arrays" 441)) (doc := .none) (t := 455) (by kernel_rfl) (by kernel_rfl) (by kernel_rfl) (by kernel_rfl) (by kernel_rfl)
theorem hn21 : (dR 21).name = "strides_of" := by kernel_rfl
theorem hg21 (x : At6 c P) : Glob c (dR 21) [] := ⟨223, x.mg (by kernel_rfl), hn21 ▸ hf21 x⟩
theorem hf22 (x : At6 c P) : FnIs c "offset_of" (dR 22) [] 230 := x.fnIs (C := 229) (o := q229 P) (oc := q228 P) (pm := (.str "methodrows.arrays" 441)) (doc := .none) (t := 465) (by kernel_rfl) (by kernel_rfl) (by kernel_rfl) (by kernel_rfl) (by kernel_rfl)
theorem hn22 : (dR 22).name = "offset_of" := by kernel_rfl
theorem hg22 (x : At6 c P) : Glob c (dR 22) [] := ⟨230, x.mg (by kernel_rfl), hn22 ▸ hf22 x⟩
theorem hf23 (x : At6 c P) : FnIs c "index_of" (dR 23) [] 237 := x.fnIs (C := 236) (o := q236 P) (oc := q235 P) (pm := (.str "methodrows.arrays" 441)) (doc := .none) (t := 477) (by kernel_rfl) (by kernel_rfl) (by kernel_rfl) (by kernel_rfl) (by kernel_rfl)
theorem hn23 : (dR 23).name = "index_of" := by kernel_rfl
theorem hg23 (x : At6 c P) : Glob c (dR 23) [] := ⟨237, x.mg (by kernel_rfl), hn23 ▸ hf23 x⟩
theorem hf24 (x : At6 c P) : FnIs c "bounds_fault" (dR 24) [] 242 := x.fnIs (C := 241) (o := q241 P) (oc := q240 P) (pm := (.str "methodrows.arrays" 441)) (doc := .none) (t := 487) (by kernel_rfl) (by kernel_rfl) (by kernel_rfl) (by kernel_rfl) (by kernel_rfl)
theorem hn24 : (dR 24).name = "bounds_fault" := by kernel_rfl
theorem hg24 (x : At6 c P) : Glob c (dR 24) [] := ⟨242, x.mg (by kernel_rfl), hn24 ▸ hf24 x⟩
theorem hf25 (x : At6 c P) : FnIs c "check_sizes" (dR 25) [] 247 := x.fnIs (C := 246) (o := q246 P) (oc := q245 P) (pm := (.str "methodrows.arrays" 441)) (doc := .none) (t := 493) (by kernel_rfl) (by kernel_rfl) (by kernel_rfl) (by kernel_rfl) (by kernel_rfl)
theorem hn25 : (dR 25).name = "check_sizes" := by kernel_rfl
theorem hg25 (x : At6 c P) : Glob c (dR 25) [] := ⟨247, x.mg (by kernel_rfl), hn25 ▸ hf25 x⟩
theorem hf26 (x : At6 c P) : FnIs c "is_array" (dR 26) [] 254 := x.fnIs (C := 253) (o := q253 P) (oc := q252 P) (pm := (.str "methodrows.arrays" 441)) (doc := .none) (t := 499) (by kernel_rfl) (by kernel_rfl) (by kernel_rfl) (by kernel_rfl) (by kernel_rfl)
theorem hn26 : (dR 26).name = "is_array" := by kernel_rfl
theorem hg26 (x : At6 c P) : Glob c (dR 26) [] := ⟨254, x.mg (by kernel_rfl), hn26 ▸ hf26 x⟩
theorem hf27 (x : At6 c P) : FnIs c "parent_of" (dR 27) [] 261 := x.fnIs (C := 260) (o := q260 P) (oc := q259 P) (pm := (.str "methodrows.arrays" 441)) (doc := .none) (t := 506) (by kernel_rfl) (by kernel_rfl) (by kernel_rfl) (by kernel_rfl) (by kernel_rfl)
theorem hn27 : (dR 27).name = "parent_of" := by kernel_rfl
theorem hg27 (x : At6 c P) : Glob c (dR 27) [] := ⟨261, x.mg (by kernel_rfl), hn27 ▸ hf27 x⟩
theorem hf28 (x : At6 c P) : FnIs c "sizes_of" (dR 28) [] 268 := x.fnIs (C := 267) (o := q267 P) (oc := q266 P) (pm := (.str "methodrows.arrays" 441)) (doc := .none) (t := 514) (by kernel_rfl) (by kernel_rfl) (by kernel_rfl) (by kernel_rfl) (by kernel_rfl)
theorem hn28 : (dR 28).name = "sizes_of" := by kernel_rfl
theorem hg28 (x : At6 c P) : Glob c (dR 28) [] := ⟨268, x.mg (by kernel_rfl), hn28 ▸ hf28 x⟩
theorem hf29 (x : At6 c P) : FnIs c "layout_of" (dR 29) [] 275 := x.fnIs (C := 274) (o := q274 P) (oc := q273 P) (pm := (.str "methodrows.arrays" 441)) (doc := .none) (t := 522) (by kernel_rfl) (by kernel_rfl) (by kernel_rfl) (by kernel_rfl) (by kernel_rfl)
theorem hn29 : (dR 29).name = "layout_of" := by kernel_rfl
theorem hg29 (x : At6 c P) : Glob c (dR 29) [] := ⟨275, x.mg (by kernel_rfl), hn29 ▸ hf29 x⟩
theorem hf30 (x : At6 c P) : FnIs c "place_in_parent" (dR 30) [] 282 := x.fnIs (C := 281) (o := q281 P) (oc := q280 P) (pm := (.str "methodrows.arrays" 441)) (doc := .none) (t := 530) (by kernel_rfl) (by kernel_rfl) (by kernel_rfl) (by kernel_rfl) (by kernel_rfl)
theorem hn30 : (dR 30).name = "place_in_parent" := by kernel_rfl
theorem hg30 (x : At6 c P) : Glob c (dR 30) [] := ⟨282, x.mg (by kernel_rfl), hn30 ▸ hf30 x⟩
theorem hf31 (x : At6 c P) : FnIs c "places_of" (dR 31) [] 287 := x.fnIs (C := 286) (o := q286 P) (oc := q285 P) (pm := (.str "methodrows.arrays" 441)) (doc := .none) (t := 545) (by kernel_rfl) (by kernel_rfl) (by kernel_rfl) (by kernel_rfl) (by kernel_rfl)
theorem hn31 : (dR 31).name = "places_of" := by kernel_rfl
theorem hg31 (x : At6 c P) : Glob c (dR 31) [] := ⟨287, x.mg (by kernel_rfl), hn31 ▸ hf31 x⟩
theorem hf32 (x : At6 c P) : FnIs c "made" (dR 32) [] 294 := x.fnIs (C := 293) (o := q293 P) (oc := q292 P) (pm := (.str "methodrows.arrays" 441)) (doc := .none) (t := 551) (by kernel_rfl) (by kernel_rfl) (by kernel_rfl) (by kernel_rfl) (by kernel_rfl)
theorem hn32 : (dR 32).name = "made" := by kernel_rfl
theorem hg32 (x : At6 c P) : Glob c (dR 32) [] := ⟨294, x.mg (by kernel_rfl), hn32 ▸ hf32 x⟩
theorem hf34 (x : At6 c P) : FnIs c "taken_row" (dR 34) [] 301 := x.fnIs (C := 300) (o := q302 P) (oc := q301 P) (pm := (.str "methodrows.views" 560)) (doc := .none) (t := 563) (by kernel_rfl) (by kernel_rfl) (by kernel_rfl) (by kernel_rfl) (by kernel_rfl)
theorem hn34 : (dR 34).name = "taken_row" := by kernel_rfl
theorem hg34 (x : At6 c P) : Glob c (dR 34) [] := ⟨301, x.mg (by kernel_rfl), hn34 ▸ hf34 x⟩
theorem hf35 (x : At6 c P) : FnIs c "edge_indices" (dR 35) [] 308 := x.fnIs (C := 307) (o := q309 P) (oc := q308 P) (pm := (.str "methodrows.views" 560)) (doc := .none) (t := 575) (by kernel_rfl) (by kernel_rfl) (by kernel_rfl) (by kernel_rfl) (by kernel_rfl)
theorem hn35 : (dR 35).name = "edge_indices" := by kernel_rfl
theorem hg35 (x : At6 c P) : Glob c (dR 35) [] := ⟨308, x.mg (by kernel_rfl), hn35 ▸ hf35 x⟩
theorem hf36 (x : At6 c P) : FnIs c "edge_of" (dR 36) [] 315 := x.fnIs (C := 314) (o := q316 P) (oc := q315 P) (pm := (.str "methodrows.views" 560)) (doc := .none) (t := 586) (by kernel_rfl) (by kernel_rfl) (by kernel_rfl) (by kernel_rfl) (by kernel_rfl)
theorem hn36 : (dR 36).name = "edge_of" := by kernel_rfl
theorem hg36 (x : At6 c P) : Glob c (dR 36) [] := ⟨315, x.mg (by kernel_rfl), hn36 ▸ hf36 x⟩
theorem hf37 (x : At6 c P) : FnIs c "view_of" (dR 37) [] 320 := x.fnIs (C := 319) (o := q321 P) (oc := q320 P) (pm := (.str "methodrows.views" 560)) (doc := .none) (t := 598) (by kernel_rfl) (by kernel_rfl) (by kernel_rfl) (by kernel_rfl) (by kernel_rfl)
theorem hn37 : (dR 37).name = "view_of" := by kernel_rfl
theorem hg37 (x : At6 c P) : Glob c (dR 37) [] := ⟨320, x.mg (by kernel_rfl), hn37 ▸ hf37 x⟩
theorem hf38 (x : At6 c P) : FnIs c "line_views" (dR 38) [] 325 := x.fnIs (C := 324) (o := q326 P) (oc := q325 P) (pm := (.str "methodrows.views" 560)) (doc := .none) (t := 604) (by kernel_rfl) (by kernel_rfl) (by kernel_rfl) (by kernel_rfl) (by kernel_rfl)
theorem hn38 : (dR 38).name = "line_views" := by kernel_rfl
theorem hg38 (x : At6 c P) : Glob c (dR 38) [] := ⟨325, x.mg (by kernel_rfl), hn38 ▸ hf38 x⟩
theorem hf40 (x : At6 c P) : FnIs c "_law_mast" (dR 40) [] 332 := x.fnIs (C := 331) (o := q333 P) (oc := q332 P) (pm := (.str "law_pc0204_01" 609)) (doc := .none) (t := 612) (by kernel_rfl) (by kernel_rfl) (by kernel_rfl) (by kernel_rfl) (by kernel_rfl)
theorem hn40 : (dR 40).name = "_law_mast" := by kernel_rfl
theorem hg40 (x : At6 c P) : Glob c (dR 40) [] := ⟨332, x.mg (by kernel_rfl), hn40 ▸ hf40 x⟩
theorem hf41 (x : At6 c P) : FnIs c "_law_knot" (dR 41) [] 339 := x.fnIs (C := 338) (o := q340 P) (oc := q339 P) (pm := (.str "law_pc0204_01" 609)) (doc := .none) (t := 621) (by kernel_rfl) (by kernel_rfl) (by kernel_rfl) (by kernel_rfl) (by kernel_rfl)
theorem hn41 : (dR 41).name = "_law_knot" := by kernel_rfl
theorem hg41 (x : At6 c P) : Glob c (dR 41) [] := ⟨339, x.mg (by kernel_rfl), hn41 ▸ hf41 x⟩
theorem hf42 (x : At6 c P) : FnIs c "_law_part" (dR 42) [] 344 := x.fnIs (C := 343) (o := q345 P) (oc := q344 P) (pm := (.str "law_pc0204_01" 609)) (doc := .none) (t := 630) (by kernel_rfl) (by kernel_rfl) (by kernel_rfl) (by kernel_rfl) (by kernel_rfl)
theorem hn42 : (dR 42).name = "_law_part" := by kernel_rfl
theorem hg42 (x : At6 c P) : Glob c (dR 42) [] := ⟨344, x.mg (by kernel_rfl), hn42 ▸ hf42 x⟩
theorem hf43 (x : At6 c P) : FnIs c "_law_grid" (dR 43) [] 349 := x.fnIs (C := 348) (o := q350 P) (oc := q349 P) (pm := (.str "law_pc0204_01" 609)) (doc := .none) (t := 636) (by kernel_rfl) (by kernel_rfl) (by kernel_rfl) (by kernel_rfl) (by kernel_rfl)
theorem hn43 : (dR 43).name = "_law_grid" := by kernel_rfl
theorem hg43 (x : At6 c P) : Glob c (dR 43) [] := ⟨349, x.mg (by kernel_rfl), hn43 ▸ hf43 x⟩
theorem hf44 (x : At6 c P) : FnIs c "_law_back" (dR 44) [] 356 := x.fnIs (C := 355) (o := q357 P) (oc := q356 P) (pm := (.str "law_pc0204_01" 609)) (doc := .none) (t := 642) (by kernel_rfl) (by kernel_rfl) (by kernel_rfl) (by kernel_rfl) (by kernel_rfl)
theorem hn44 : (dR 44).name = "_law_back" := by kernel_rfl
theorem hg44 (x : At6 c P) : Glob c (dR 44) [] := ⟨356, x.mg (by kernel_rfl), hn44 ▸ hf44 x⟩
theorem hf45 (x : At6 c P) : FnIs c "_law_kept" (dR 45) [] 361 := x.fnIs (C := 360) (o := q362 P) (oc := q361 P) (pm := (.str "law_pc0204_01" 609)) (doc := .none) (t := 652) (by kernel_rfl) (by kernel_rfl) (by kernel_rfl) (by kernel_rfl) (by kernel_rfl)
theorem hn45 : (dR 45).name = "_law_kept" := by kernel_rfl
theorem hg45 (x : At6 c P) : Glob c (dR 45) [] := ⟨361, x.mg (by kernel_rfl), hn45 ▸ hf45 x⟩
theorem hf46 (x : At6 c P) : FnIs c "_law_view_right" (dR 46) [] 366 := x.fnIs (C := 365) (o := q367 P) (oc := q366 P) (pm := (.str "law_pc0204_01" 609)) (doc := .none) (t := 658) (by kernel_rfl) (by kernel_rfl) (by kernel_rfl) (by kernel_rfl) (by kernel_rfl)
theorem hn46 : (dR 46).name = "_law_view_right" := by kernel_rfl
theorem hg46 (x : At6 c P) : Glob c (dR 46) [] := ⟨366, x.mg (by kernel_rfl), hn46 ▸ hf46 x⟩
theorem hf47 (x : At6 c P) : FnIs c "_law_put" (dR 47) [] 371 := x.fnIs (C := 370) (o := q372 P) (oc := q371 P) (pm := (.str "law_pc0204_01" 609)) (doc := .none) (t := 664) (by kernel_rfl) (by kernel_rfl) (by kernel_rfl) (by kernel_rfl) (by kernel_rfl)
theorem hn47 : (dR 47).name = "_law_put" := by kernel_rfl
theorem hg47 (x : At6 c P) : Glob c (dR 47) [] := ⟨371, x.mg (by kernel_rfl), hn47 ▸ hf47 x⟩
theorem hf48 (x : At6 c P) : FnIs c "_law_steps_right" (dR 48) [] 376 := x.fnIs (C := 375) (o := q377 P) (oc := q376 P) (pm := (.str "law_pc0204_01" 609)) (doc := .none) (t := 670) (by kernel_rfl) (by kernel_rfl) (by kernel_rfl) (by kernel_rfl) (by kernel_rfl)
theorem hn48 : (dR 48).name = "_law_steps_right" := by kernel_rfl
theorem hg48 (x : At6 c P) : Glob c (dR 48) [] := ⟨376, x.mg (by kernel_rfl), hn48 ▸ hf48 x⟩
theorem hf49 (x : At6 c P) : FnIs c "_law_lines_right" (dR 49) [] 381 := x.fnIs (C := 380) (o := q382 P) (oc := q381 P) (pm := (.str "law_pc0204_01" 609)) (doc := .none) (t := 676) (by kernel_rfl) (by kernel_rfl) (by kernel_rfl) (by kernel_rfl) (by kernel_rfl)
theorem hn49 : (dR 49).name = "_law_lines_right" := by kernel_rfl
theorem hg49 (x : At6 c P) : Glob c (dR 49) [] := ⟨381, x.mg (by kernel_rfl), hn49 ▸ hf49 x⟩
theorem hf50 (x : At6 c P) : FnIs c "_law_fault" (dR 50) [] 388 := x.fnIs (C := 387) (o := q389 P) (oc := q388 P) (pm := (.str "law_pc0204_01" 609)) (doc := .none) (t := 682) (by kernel_rfl) (by kernel_rfl) (by kernel_rfl) (by kernel_rfl) (by kernel_rfl)
theorem hn50 : (dR 50).name = "_law_fault" := by kernel_rfl
theorem hg50 (x : At6 c P) : Glob c (dR 50) [] := ⟨388, x.mg (by kernel_rfl), hn50 ▸ hf50 x⟩
theorem hf51 (x : At6 c P) : FnIs c "_law_beyond_right" (dR 51) [] 393 := x.fnIs (C := 392) (o := q394 P) (oc := q393 P) (pm := (.str "law_pc0204_01" 609)) (doc := .none) (t := 692) (by kernel_rfl) (by kernel_rfl) (by kernel_rfl) (by kernel_rfl) (by kernel_rfl)
theorem hn51 : (dR 51).name = "_law_beyond_right" := by kernel_rfl
theorem hg51 (x : At6 c P) : Glob c (dR 51) [] := ⟨393, x.mg (by kernel_rfl), hn51 ▸ hf51 x⟩
theorem hf52 (x : At6 c P) : FnIs c "_law_array" (dR 52) [] 398 := x.fnIs (C := 397) (o := q399 P) (oc := q398 P) (pm := (.str "law_pc0204_01" 609)) (doc := .none) (t := 698) (by kernel_rfl) (by kernel_rfl) (by kernel_rfl) (by kernel_rfl) (by kernel_rfl)
theorem hn52 : (dR 52).name = "_law_array" := by kernel_rfl
theorem hg52 (x : At6 c P) : Glob c (dR 52) [] := ⟨398, x.mg (by kernel_rfl), hn52 ▸ hf52 x⟩
theorem hf6 (x : At6 c P) : FnIs c "int_value" (dR 6) [(.str "Int64")] 81 := x.fnIs1 (C := 80) (T := 74) (o := q76 P) (oc := q75 P) (oT := q69 P) (pm := (.str "methodrows.forms" 268)) (doc := .none) (v := (.str "Int64" 270)) (t := 272) (n := 0) (by kernel_rfl) (by kernel_rfl) (by kernel_rfl) (by kernel_rfl) (by kernel_rfl) (by kernel_rfl) (by kernel_rfl) (.str _ _)
theorem hn6 : (dR 6).name = "int_value" := by kernel_rfl
theorem hg6 (x : At6 c P) : Glob c (dR 6) [.str "Int64"] := ⟨81, x.mg (by kernel_rfl), hn6 ▸ hf6 x⟩
theorem hf13 (x : At6 c P) : FnIs c "named" (dR 13) [(.tuple [])] 125 := x.fnIs1 (C := 124) (T := 118) (o := q120 P) (oc := q119 P) (oT := q113 P) (pm := (.str "methodrows.kind_terms" 317)) (doc := .none) (v := (.ref 117)) (t := 320) (n := 0) (by kernel_rfl) (by kernel_rfl) (by kernel_rfl) (by kernel_rfl) (by kernel_rfl) (by kernel_rfl) (by kernel_rfl) (.tuple (vs := []) (fun h => h.elim) ⟨0, x.keep 117 _ (by kernel_rfl)⟩ .nil)
theorem hn13 : (dR 13).name = "named" := by kernel_rfl
theorem hg13 (x : At6 c P) : Glob c (dR 13) [.tuple []] := ⟨125, x.mg (by kernel_rfl), hn13 ▸ hf13 x⟩
theorem hf53 (x : At6 c P) : FnIs c "law" (dR 53) [] 403 := x.fnIs (C := 402) (o := q404 P) (oc := q403 P) (pm := (.str "law_pc0204_01" 609)) (doc := .none) (t := 704) (by kernel_rfl) (by kernel_rfl) (by kernel_rfl) (by kernel_rfl) (by kernel_rfl)
theorem hn53 : (dR 53).name = "law" := by kernel_rfl
theorem hg53 (x : At6 c P) : Glob c (dR 53) [] := ⟨403, x.mg (by kernel_rfl), hn53 ▸ hf53 x⟩
theorem hRE (x : At6 c P) : FnIs c "RowsError.__init__" (mR 2 0) [.none] 36 := x.fnIs1 (C := 35) (T := 29) (o := q28 P) (oc := q27 P) (oT := q21 P) (pm := (.str "methodrows.errors" 194)) (doc := .none) (v := .none) (t := 209) (n := 0) (by kernel_rfl) (by kernel_rfl) (by kernel_rfl) (by kernel_rfl) (by kernel_rfl) (by kernel_rfl) (by kernel_rfl) .none
theorem hTI (x : At6 c P) : FnIs c "Thrown.__init__" (mR 4 0) [] 68 := x.fnIs (C := 67) (o := q63 P) (oc := q62 P) (pm := (.str "methodrows.errors" 194)) (doc := .none) (t := 256) (by kernel_rfl) (by kernel_rfl) (by kernel_rfl) (by kernel_rfl) (by kernel_rfl)
theorem hTH (x : At6 c P) : FnIs c "Thing.__init__" (mR 15 0) [] 139 := x.fnIs (C := 138) (o := q136 P) (oc := q135 P) (pm := (.str "methodrows.values" 327)) (doc := .none) (t := 342) (by kernel_rfl) (by kernel_rfl) (by kernel_rfl) (by kernel_rfl) (by kernel_rfl)
theorem hHI (x : At6 c P) : FnIs c "Heap.__init__" (mR 16 0) [] 160 := x.fnIs (C := 159) (o := q157 P) (oc := q156 P) (pm := (.str "methodrows.values" 327)) (doc := .none) (t := 375) (by kernel_rfl) (by kernel_rfl) (by kernel_rfl) (by kernel_rfl) (by kernel_rfl)
theorem hHP (x : At6 c P) : FnIs c "Heap.put" (mR 16 1) [] 167 := x.fnIs (C := 166) (o := q164 P) (oc := q163 P) (pm := (.str "methodrows.values" 327)) (doc := .none) (t := 382) (by kernel_rfl) (by kernel_rfl) (by kernel_rfl) (by kernel_rfl) (by kernel_rfl)
theorem hHN (x : At6 c P) : FnIs c "Heap.new_array" (mR 16 3) [] 181 := x.fnIs (C := 180) (o := q178 P) (oc := q177 P) (pm := (.str "methodrows.values" 327)) (doc := .none) (t := 399) (by kernel_rfl) (by kernel_rfl) (by kernel_rfl) (by kernel_rfl) (by kernel_rfl)
theorem hHO (x : At6 c P) : FnIs c "Heap.object" (mR 16 5) [] 195 := x.fnIs (C := 194) (o := q192 P) (oc := q191 P) (pm := (.str "methodrows.values" 327)) (doc := .none) (t := 417) (by kernel_rfl) (by kernel_rfl) (by kernel_rfl) (by kernel_rfl) (by kernel_rfl)
noncomputable def hK (P : Params) : Frag := [(2, q4 P), (3, q294 P), (36, q28 P), (38, q30 P), (39, q49 P), (68, q63 P), (70, q65 P), (71, q66 P), (139, q136 P), (141, q138 P), (142, q139 P), (160, q157 P), (167, q164 P), (181, q178 P), (195, q192 P), (197, q194 P), (198, q195 P)]
theorem hK_in : (hK P).In (H6 P) := Frag.in_of (as := [2, 3, 36, 38, 39, 68, 70, 71, 139, 141, 142, 160, 167, 181, 195, 197, 198]) (by kernel_rfl) (by kernel_rfl)
theorem At6.inn (x : At6 c P) : (hK P).In c.h0 := hK_in.keeps x.keep
theorem hGr (x : At6 c P) : Gr c := by
  refine ⟨fun n hn => ?_, fun i hi => ?_, hg6 x, hg13 x⟩
  · have k : builtinNames.all (fun n => (nsFind (esOf (q294 P).data) n).isNone) = true := by kernel_rfl
    exact x.mg (Option.isNone_iff_eq_none.mp (List.all_eq_true.mp k n hn))
  · simp only [fnIdx, List.mem_cons, List.not_mem_nil, or_false] at hi
    rcases hi with rfl | rfl | rfl | rfl | rfl | rfl | rfl | rfl | rfl | rfl | rfl | rfl | rfl | rfl | rfl | rfl | rfl | rfl | rfl | rfl | rfl | rfl | rfl | rfl | rfl | rfl | rfl | rfl | rfl | rfl | rfl | rfl | rfl | rfl | rfl
    · exact hg8 x
    · exact hg9 x
    · exact hg10 x
    · exact hg17 x
    · exact hg20 x
    · exact hg21 x
    · exact hg22 x
    · exact hg23 x
    · exact hg24 x
    · exact hg25 x
    · exact hg26 x
    · exact hg27 x
    · exact hg28 x
    · exact hg29 x
    · exact hg30 x
    · exact hg31 x
    · exact hg32 x
    · exact hg34 x
    · exact hg35 x
    · exact hg36 x
    · exact hg37 x
    · exact hg38 x
    · exact hg40 x
    · exact hg41 x
    · exact hg42 x
    · exact hg43 x
    · exact hg44 x
    · exact hg45 x
    · exact hg46 x
    · exact hg47 x
    · exact hg48 x
    · exact hg49 x
    · exact hg50 x
    · exact hg51 x
    · exact hg52 x
theorem hThrK (x : At6 c P) : ThrK c (hK P) 71 39 68 36 [.ref 39, .type "Exception", .type "BaseException", .type "object"] where
  inn := x.inn
  cls := {
    obj := ⟨"Thrown", "Thrown", 70, [.ref 39], [], [], false, none, none, some (.ref 55), none, some (.str "Thrown" 243), some (.str "Thrown" 251), some (.bool true), by kernel_rfl⟩
    hasE := by decide +kernel
    hasB := by decide +kernel
    hasO := by decide +kernel
    noA := by decide +kernel
    noN := by decide +kernel
    passes := fun self => by rw [refuseLoop_ref]; kernel_rfl
    sa := by kernel_rfl
    ga := by kernel_rfl
    gt := by kernel_rfl
    tk := fun n hn => by
      simp only [List.mem_cons, List.not_mem_nil, or_false] at hn
      rcases hn with rfl | rfl | rfl <;> kernel_rfl
    fd := fun n hn => by
      simp only [List.mem_cons, List.not_mem_nil, or_false] at hn
      rcases hn with rfl | rfl | rfl <;> kernel_rfl }
  keep := by kernel_rfl
  initT := by kernel_rfl
  initTf := by kernel_rfl
  fnT := hTI x
  fnR := hRE x
  gaR := by kernel_rfl
  tyR := by kernel_rfl
  opR := fun M => looks_opaque x.inn (by kernel_rfl)
  fiR := by kernel_rfl
theorem hcls142 (x : At6 c P) : ∃ cd, ClsIs c 142 (hK P) cd := by
  have h : (clsIn (hK P) 142).any (·.hasDict) = true := by kernel_rfl
  obtain ⟨cd, h1, h2⟩ := any_some h
  exact ⟨cd, x.inn, by kernel_rfl, by kernel_rfl, h1, h2⟩
theorem hcls198 (x : At6 c P) : ∃ cd, ClsIs c 198 (hK P) cd := by
  have h : (clsIn (hK P) 198).any (·.hasDict) = true := by kernel_rfl
  obtain ⟨cd, h1, h2⟩ := any_some h
  exact ⟨cd, x.inn, by kernel_rfl, by kernel_rfl, h1, h2⟩
theorem hNewT (x : At6 c P) : NewOk c 142 (hK P) 139 ["kind", "fields", "sizes"] where
  inn := x.inn
  makes := by kernel_rfl
  keep := by kernel_rfl
  init := by kernel_rfl
  initf := by kernel_rfl
  sa := by kernel_rfl
  over := by kernel_rfl
  tk := fun n hn => by
    simp only [List.mem_cons, List.not_mem_nil, or_false] at hn
    rcases hn with rfl | rfl | rfl <;> kernel_rfl
  hd := by kernel_rfl
theorem hNewH (x : At6 c P) : NewOk c 198 (hK P) 160 ["things"] where
  inn := x.inn
  makes := by kernel_rfl
  keep := by kernel_rfl
  init := by kernel_rfl
  initf := by kernel_rfl
  sa := by kernel_rfl
  over := by kernel_rfl
  tk := fun n hn => by
    simp only [List.mem_cons, List.not_mem_nil, or_false] at hn
    subst hn; kernel_rfl
  hd := by kernel_rfl
theorem hfacts (x : At6 c P) (ok : CxOk c) : LawFacts c 198 142 71 39 where
  ok := ok
  G := hGr x
  T := ⟨x.mg (by kernel_rfl), x.mg (by kernel_rfl), x.mg (by kernel_rfl), hK P, 68, 36, _, hThrK x⟩
  th := ⟨x.mg (by kernel_rfl), ⟨hK P, 139, hNewT x, hTH x⟩, let ⟨cd, k⟩ := hcls142 x; ⟨hK P, cd, k, by kernel_rfl⟩⟩
  attr := let ⟨cd, k⟩ := hcls198 x; ⟨hK P, cd, k, by kernel_rfl⟩
  put := ⟨167, let ⟨cd, k⟩ := hcls198 x; ⟨hK P, cd, k, by kernel_rfl, by kernel_rfl⟩, hHP x⟩
  new_array := ⟨181, let ⟨cd, k⟩ := hcls198 x; ⟨hK P, cd, k, by kernel_rfl, by kernel_rfl⟩, hHN x⟩
  object := ⟨195, let ⟨cd, k⟩ := hcls198 x; ⟨hK P, cd, k, by kernel_rfl, by kernel_rfl⟩, hHO x⟩
  hen := x.mg (by kernel_rfl)
  most := ⟨443, x.mg (by kernel_rfl)⟩
  heap := x.mg (by kernel_rfl)
  new := ⟨hK P, 160, hNewH x, hHI x, by kernel_rfl⟩
end
noncomputable abbrev lrow : OpenRow := PySem.Challenge.rw_pc0204_01.row
theorem items_ints : ∀ {xs : List WData}, WShape.hasItems [] xs .int = true → ∃ zs : List Int, xs = zs.map WData.int
  | [], _ => ⟨[], rfl⟩
  | d :: xs, h => by
    simp only [WShape.hasItems, Bool.and_eq_true] at h
    obtain ⟨i, rfl⟩ := hasW_int h.1
    obtain ⟨zs, rfl⟩ := items_ints h.2
    exact ⟨i :: zs, rfl⟩
theorem args_of {args : List WData} (h : lrow.toRowW.claim.pre args = true) : ∃ zs : List Int, args = [.list (zs.map .int)] ∧ zs.length ≤ 63 := by
  obtain ⟨h1, h2⟩ := pre_splitW h
  obtain ⟨d, r, rfl, hd, hr⟩ := hasAllW_cons (e := .list .int) (es := []) h1
  obtain rfl := hasAllW_nil hr
  obtain ⟨xs, rfl, hx⟩ := hasW_list hd
  obtain ⟨zs, rfl⟩ := items_ints hx
  refine ⟨zs, rfl, ?_⟩
  rcases Nat.lt_or_ge 63 zs.length with q | q
  · exfalso
    have e : WTm.holds [] lrow.pre { args := [.list (zs.map WData.int)] } = true := h2
    have k : (63 : Int) < (zs.map WData.int).length := by rw [List.length_map]; omega
    have z : WTm.holds [] (.and (.not (.lt (.lit (.int 63)) (.len (.arg 0)))) (.lit (.bool true))) { args := [.list (zs.map WData.int)] } = true := e
    have this : WTm.value [] (.not (.lt (.lit (.int 63)) (.len (.arg 0)))) { args := [.list (zs.map WData.int)] } = some (.bool (!(decide ((63 : Int) < ((zs.map WData.int).length : Int))))) := by kernel_rfl
    unfold WTm.holds at z
    unfold WTm.value at z
    rw [this, decide_eq_true k] at z
    cases z
  · exact q
theorem reads_reps {X : Addr → Prop} {cl : Str → Option Addr} {h : Heap} : ∀ {vs : List Value} {zs : List Int} {as : List Addr}, ReadsAllW [] cl h vs (zs.map WData.int) as → Reps X h vs (zs.map D.int)
  | [], [], _, _ => .nil
  | [], _ :: _, _, r => by cases r
  | _ :: _, [], _, r => by cases r
  | v :: vs, z :: zs, as, r => by
    cases r with
    | cons a b =>
      cases a with
      | int _ t => exact .cons (.int z t) (reads_reps b)
theorem reads_arg {X : Addr → Prop} (hX : ∀ b, ¬ X b) {cl : Str → Option Addr} {h : Heap} {vals : List Value} {zs : List Int} {as : List Addr} (r : ReadsAllW [] cl h vals [.list (zs.map WData.int)] as) : Reps X h vals [.wlist (zs.map D.int)] := by
  cases r with
  | cons a b =>
    cases b
    cases a with
    | list h1 h2 h3 h4 => exact .cons (.wlist (vs := _) (hX _) ⟨_, h1, h2, _, by simpa using h3⟩ (reads_reps h4)) .nil
theorem hcall : WalkO hq hloose (fun _ _ => True) (fun w h => ∀ b o, (H6 w.params).get? b = some o → h.get? b = some o) lrow.toRowW (dR 53) [] fun f vs => PySem.call f vs := by
  intro w s₀ s₁ mg mb G Y a o pm cd doc dV kV ho hd hcd hD hmg hg args vals as hpre hlay hrd hwl hlo
  obtain ⟨zs, rfl, hz⟩ := args_of hpre
  let c : Cx := { prog := pw, w := w, h0 := s₁.heap, mg := mg, mb := mb, gens := s₁.gens, os := s₁.os, drawn := s₁.drawn, M := fun _ => False, Inv := fun _ _ _ => True, invCarry := fun _ _ _ _ _ _ _ _ => trivial }
  have ok : ∀ M Inv hc, CxOk (c.with M Inv hc) := fun M Inv hc => ⟨G.T.nolimit, G.T.g, G.T.b, G.T.builtins⟩
  have at6 : ∀ M Inv hc, At6 (c.with M Inv hc) w.params := fun M Inv hc => ⟨Y, G.T.g⟩
  have at0 : At6 c w.params := ⟨Y, G.T.g⟩
  obtain ⟨f, hf, F⟩ := hg53 at0
  have e : Value.ref a = .ref f := Option.some.inj (hmg.symm.trans hf)
  cases e
  have rel : GRel c ⟨0, 0, []⟩ (fun _ => False) s₁ := ⟨fun _ _ e => e, fun _ h => h.elim, fun _ h => h.elim, rfl, rfl, rfl, fun _ h => h.elim, fun _ h => h.elim, trivial⟩
  refine law_ok (c := c) (k := 10) (fun _ h => h) (hfacts at0 ⟨G.T.nolimit, G.T.g, G.T.b, G.T.builtins⟩) (fun M Inv hc => hfacts (at6 M Inv hc) (ok M Inv hc)) F hz ⟨rfl, by decide +kernel, by decide +kernel⟩ rfl rel (reads_arg (fun _ h => h) hrd) fun s' h1 h2 h3 h4 => ?_
  refine ⟨.inl ⟨.bool true, .bool true, [], rfl, fun _ => rfl, .bool true, by kernel_rfl, fun _ => ⟨List.nodup_nil, fun a h => by cases h⟩⟩, OldK.of_keep h1, h3, AllBare.of_eq ?_⟩
  rw [h2]; exact hg
theorem hlooks : looksOpen lrow.prog = true := by
  unfold looksOpen
  repeat' (with_reducible refine look_both ?_ ?_)
  all_goals kernel_rfl
theorem hpart : lrow.partSaid = true := by
  unfold OpenRow.partSaid
  repeat' (with_reducible refine look_both ?_ ?_)
  · exact hlooks
  all_goals kernel_rfl
theorem hrow : lrow.wellSaid = true := by
  unfold OpenRow.wellSaid
  repeat' (with_reducible refine look_both ?_ ?_)
  · exact hpart
  all_goals kernel_rfl
theorem hwell : PySem.Challenge.rw_pc0204_01.wellSaid = true := by
  unfold OpenLaw.wellSaid
  repeat' (with_reducible refine look_both ?_ ?_)
  · exact hrow
  all_goals kernel_rfl
end V204
theorem PySem.Challenge.cw_pc0204_01_holds : PySem.Challenge.rw_pc0204_01.Holds := by
  refine holds_law V204.hwell fun said => ?_
  refine holds_open (q := V204.hq) (loose := V204.hloose) (Xt := fun _ => true) (XP := fun _ _ => True) (Yf := fun s => s.heap) (Ya := fun w => V204.H6 w.params) (YP := fun w h => ∀ b o, (V204.H6 w.params).get? b = some o → h.get? b = some o) (d := V204.dR 53) (kwd := []) (N := 4000)
    V204.hleft (fun w s e b o h => by rw [e]; exact h) (fun w h h' y k b o e => k b o (y b o e)) (fun _ _ => trivial) (fun _ _ _ _ _ => trivial) (by kernel_rfl) (by kernel_rfl) (by kernel_rfl) (fun s _ => recFacts_nil rfl) (by rfl) (by assumption) (by kernel_rfl) ?_ ?_ V204.hcall
  · refine ⟨?_, ?_, ?_, ?_, ?_, ?_⟩ <;> kernel_rfl
  · w_witness2
