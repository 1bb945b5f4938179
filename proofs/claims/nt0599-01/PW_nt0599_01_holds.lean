import PyProof.Rows.All
import Wide.All
import OpenK.AllK
import Wide.FinOn
import Lean
import PySem.Challenge.RW_nt0599_01
set_option Elab.async false
set_option maxRecDepth 100000
set_option linter.unusedVariables false
open PySem PySem.W PySem.Calls PyProof.Rows PySem.Spec
namespace Mine

section

/-! heaps -/
noncomputable abbrev Sub (h h' : Heap) : Prop := ∀ b o, h.get? b = some o → h'.get? b = some o
theorem Sub.refl {h : Heap} : Sub h h := fun _ _ e => e
theorem Sub.trans {h h' h'' : Heap} (x : Sub h h') (y : Sub h' h'') : Sub h h'' := fun b o e => y b o (x b o e)
theorem Sub.push (h : Heap) (o : Obj) : Sub h (h.push o) := fun _ _ e => Heap.get?_push_of_some _ e

theorem hide_sub (l : List Addr) (h : Heap) : Sub (hideAll h l) h := fun _ _ e => of_hideAll l e
theorem hide_not {l : List Addr} {h : Heap} {b : Addr} {o : Obj} (e : (hideAll h l).get? b = some o) : b ∉ l := fun hb => by
  rw [hideAll_none l hb] at e; cases e
theorem hide_mono {l : List Addr} {h h' : Heap} (k : ∀ b o, b ∉ l → h.get? b = some o → h'.get? b = some o) : Sub (hideAll h l) (hideAll h' l) := fun b o e =>
  hideAll_get l (k b o (hide_not e) (of_hideAll l e)) (hide_not e)

/-! what a value is known to be -/
inductive Ab where
  | dat (d : PyData)
  | val (v : Value)
mutual
/-- plain data, read off the heap -/
inductive Rd (h : Heap) : Value → PyData → Prop
  | none : Rd h .none .none
  | bool (b : Bool) : Rd h (.bool b) (.bool b)
  | int (i : Int) (t : Tok) : Rd h (.int i t) (.int i)
  | str (x : Str) (t : Tok) : Rd h (.str x t) (.str x)
  | list {a : Addr} {vs : Array Value} {n : Nat} {ds : List PyData} : h.get? a = some ⟨.type "list", Option.none, .seq vs n, #[]⟩ → RdAll h vs.toList ds → Rd h (.ref a) (.list ds)
  | tuple {a : Addr} {vs : Array Value} {n : Nat} {ds : List PyData} : h.get? a = some ⟨.type "tuple", Option.none, .seq vs n, #[]⟩ → RdAll h vs.toList ds → Rd h (.ref a) (.tuple ds)
inductive RdAll (h : Heap) : List Value → List PyData → Prop
  | nil : RdAll h [] []
  | cons {v : Value} {vs : List Value} {d : PyData} {ds : List PyData} : Rd h v d → RdAll h vs ds → RdAll h (v :: vs) (d :: ds)
end
noncomputable def Ab.of (h : Heap) (u : Value) : Ab → Prop
  | .dat d => Rd h u d
  | .val v => u = v
mutual
theorem Rd.mono {h h' : Heap} (k : Sub h h') : ∀ {v : Value} {d : PyData}, Rd h v d → Rd h' v d
  | _, _, .none => .none
  | _, _, .bool b => .bool b
  | _, _, .int i t => .int i t
  | _, _, .str i t => .str i t
  | _, _, .list e r => .list (k _ _ e) (RdAll.mono k r)
  | _, _, .tuple e r => .tuple (k _ _ e) (RdAll.mono k r)
theorem RdAll.mono {h h' : Heap} (k : Sub h h') : ∀ {vs : List Value} {ds : List PyData}, RdAll h vs ds → RdAll h' vs ds
  | _, _, .nil => .nil
  | _, _, .cons a b => .cons (Rd.mono k a) (RdAll.mono k b)
end
mutual
theorem Rd.reads {h : Heap} : ∀ {v : Value} {d : PyData}, Rd h v d → ∃ as, Reads h v d as
  | _, _, .none => ⟨_, .none⟩
  | _, _, .bool b => ⟨_, .bool b⟩
  | _, _, .int i t => ⟨_, .int i t⟩
  | _, _, .str i t => ⟨_, .str i t⟩
  | _, _, .list e r => let ⟨as, q⟩ := RdAll.reads r; ⟨_, .list e rfl rfl q⟩
  | _, _, .tuple e r => let ⟨as, q⟩ := RdAll.reads r; ⟨_, .tuple e rfl rfl q⟩
theorem RdAll.reads {h : Heap} : ∀ {vs : List Value} {ds : List PyData}, RdAll h vs ds → ∃ as, ReadsAll h vs ds as
  | _, _, .nil => ⟨_, .nil⟩
  | _, _, .cons a b => let ⟨as, p⟩ := Rd.reads a; let ⟨bs, q⟩ := RdAll.reads b; ⟨_, .cons p q⟩
end
theorem Ab.mono {h h' : Heap} {u : Value} {a : Ab} (k : Sub h h') (x : a.of h u) : a.of h' u := by
  cases a with
  | dat d => exact Rd.mono k x
  | val v => exact x
theorem Rd.getInt {h : Heap} {v : Value} {i : Int} (x : Rd h v (.int i)) : ∃ t, v = .int i t := by cases x; exact ⟨_, rfl⟩
theorem Rd.getStr {h : Heap} {v : Value} {i : Str} (x : Rd h v (.str i)) : ∃ t, v = .str i t := by cases x; exact ⟨_, rfl⟩
theorem Rd.getBool {h : Heap} {v : Value} {b : Bool} (x : Rd h v (.bool b)) : v = .bool b := by cases x; rfl
theorem Rd.getList {h : Heap} {v : Value} {ds : List PyData} (x : Rd h v (.list ds)) : ∃ a vs n, v = .ref a ∧ h.get? a = some ⟨.type "list", Option.none, .seq vs n, #[]⟩ ∧ RdAll h vs.toList ds := by
  cases x with
  | list e r => exact ⟨_, _, _, rfl, e, r⟩
theorem Rd.getTuple {h : Heap} {v : Value} {ds : List PyData} (x : Rd h v (.tuple ds)) : ∃ a vs n, v = .ref a ∧ h.get? a = some ⟨.type "tuple", Option.none, .seq vs n, #[]⟩ ∧ RdAll h vs.toList ds := by
  cases x with
  | tuple e r => exact ⟨_, _, _, rfl, e, r⟩
theorem isList_of {h : Heap} {a : Addr} {vs : Array Value} {n : Nat} (e : h.get? a = some ⟨.type "list", none, .seq vs n, #[]⟩) : h.IsList a vs := ⟨_, e, rfl, _, rfl⟩
theorem isTuple_of {h : Heap} {a : Addr} {vs : Array Value} {n : Nat} (e : h.get? a = some ⟨.type "tuple", none, .seq vs n, #[]⟩) : h.IsTuple a vs := ⟨_, e, rfl, _, rfl⟩
theorem RdAll.length {h : Heap} : ∀ {vs : List Value} {ds : List PyData}, RdAll h vs ds → vs.length = ds.length
  | _, _, .nil => rfl
  | _, _, .cons _ r => by simp [RdAll.length r]
theorem RdAll.get {h : Heap} : ∀ {vs : List Value} {ds : List PyData}, RdAll h vs ds → ∀ {k : Nat} {d : PyData}, ds[k]? = some d → ∃ v, vs[k]? = some v ∧ Rd h v d
  | _, _, .nil, k, d, e => by simp at e
  | _, _, .cons a r, 0, d, e => by simp at e; subst e; exact ⟨_, rfl, a⟩
  | _, _, .cons a r, k + 1, d, e => by simp at e; obtain ⟨v, a, b⟩ := RdAll.get r e; exact ⟨v, by simpa using a, b⟩
theorem RdAll.get' {h : Heap} : ∀ {vs : List Value} {ds : List PyData}, RdAll h vs ds → ∀ {k : Nat} {v : Value}, vs[k]? = some v → ∃ d, ds[k]? = some d ∧ Rd h v d
  | _, _, .nil, k, d, e => by simp at e
  | _, _, .cons a r, 0, d, e => by simp at e; subst e; exact ⟨_, rfl, a⟩
  | _, _, .cons a r, k + 1, d, e => by simp at e; obtain ⟨v, a, b⟩ := RdAll.get' r e; exact ⟨v, by simpa using a, b⟩
theorem RdAll.append {h : Heap} {ws : List Value} {es : List PyData} (y : RdAll h ws es) : ∀ {vs : List Value} {ds : List PyData}, RdAll h vs ds → RdAll h (vs ++ ws) (ds ++ es)
  | _, _, .nil => y
  | _, _, .cons a r => .cons a (RdAll.append y r)
theorem RdAll.take {h : Heap} : ∀ (n : Nat) {vs : List Value} {ds : List PyData}, RdAll h vs ds → RdAll h (vs.take n) (ds.take n)
  | 0, _, _, _ => .nil
  | _ + 1, _, _, .nil => .nil
  | n + 1, _, _, .cons a r => .cons a (RdAll.take n r)
theorem RdAll.drop {h : Heap} : ∀ (n : Nat) {vs : List Value} {ds : List PyData}, RdAll h vs ds → RdAll h (vs.drop n) (ds.drop n)
  | 0, _, _, x => x
  | _ + 1, _, _, .nil => .nil
  | n + 1, _, _, .cons a r => RdAll.drop n r

/-! the frame at hand -/
noncomputable def mu (env : Env) (C : List (Addr × Obj)) : List Addr := env.locals :: (env.cells.map (·.2) ++ C.map (·.1))
noncomputable def vis (env : Env) (C : List (Addr × Obj)) (h : Heap) : Heap := hideAll h (mu env C)
noncomputable def VarIs (env : Env) (m : Str → Option Value) (h : Heap) (x : Str) (u : Value) : Prop :=
  (env.kindOf x = some .local ∧ m x = some u) ∨ (env.kindOf x = some .cell ∧ ∃ c, env.cells.lookup x = some c ∧ h.IsCell c (some u))
noncomputable abbrev Rho := Str → Option Ab

structure St (r : Shared) (h₀ : Heap) (env : Env) (C : List (Addr × Obj)) (ρ : Rho) (s : Shared) : Prop where
  same : ∃ h tk, s = { r with heap := h, toks := tk }
  base : Sub h₀ (vis env C s.heap)
  ns : ∃ m, s.heap.Ns env.locals m ∧ ∀ x a, ρ x = some a → ∃ u, VarIs env m s.heap x u ∧ a.of (vis env C s.heap) u
  cell : ∀ x c, (x, c) ∈ env.cells → ∃ v, s.heap.IsCell c v
  obj : ∀ p ∈ C, s.heap.get? p.1 = some p.2
  apart : (mu env C).Nodup

section
variable {r : Shared} {h₀ : Heap} {env : Env} {C : List (Addr × Obj)} {ρ : Rho} {s s' : Shared}
theorem vis_mono {h h' : Heap} (k : Sub h h') : Sub (vis env C h) (vis env C h') := hide_mono fun b o _ e => k b o e
theorem vis_sub (h : Heap) : Sub (vis env C h) h := hide_sub _ h
theorem VarIs.keeps {m : Str → Option Value} {h h' : Heap} {x : Str} {u : Value} (k : Sub h h') (v : VarIs env m h x u) : VarIs env m h' x u :=
  v.elim .inl fun ⟨a, c, b, d⟩ => .inr ⟨a, c, b, d.keeps k⟩
theorem St.keeps (S : St r h₀ env C ρ s) (k : Keeps s s') : St r h₀ env C ρ s' := by
  obtain ⟨h', tk, rfl, k⟩ := k
  obtain ⟨h, tk₀, e⟩ := S.same
  obtain ⟨m, hn, hv⟩ := S.ns
  refine ⟨⟨h', tk, by rw [e]⟩, S.base.trans (vis_mono k), ⟨m, hn.keeps k, fun x a e => ?_⟩, fun x c e => ?_, fun p hp => k _ _ (S.obj p hp), S.apart⟩
  · obtain ⟨u, a, b⟩ := hv x a e; exact ⟨u, a.keeps k, Ab.mono (vis_mono k) b⟩
  · obtain ⟨v, a⟩ := S.cell x c e; exact ⟨v, a.keeps k⟩
theorem kp_refl (s : Shared) : Keeps s s := ⟨s.heap, s.toks, by cases s; exact .refl _, fun _ _ e => e⟩
theorem kp_trans {s₁ s₂ s₃ : Shared} (a : Keeps s₁ s₂) (b : Keeps s₂ s₃) : Keeps s₁ s₃ := by
  obtain ⟨h, t, rfl, k⟩ := a
  obtain ⟨h', t', rfl, k'⟩ := b
  exact ⟨h', t', rfl, fun b o e => k' b o (k b o e)⟩
theorem kp_sub {s s' : Shared} (a : Keeps s s') : Sub s.heap s'.heap := by obtain ⟨h, t, rfl, k⟩ := a; exact k
theorem kp_tok (s : Shared) (t : Nat) : Keeps s { s with toks := t } := ⟨s.heap, t, by cases s; exact .refl _, fun _ _ e => e⟩
theorem kp_to {s : Shared} {h : Heap} {t : Nat} (k : Sub s.heap h) : Keeps s { s with heap := h, toks := t } := ⟨h, t, by cases s; exact .refl _, k⟩
theorem kp_heap {s : Shared} {h : Heap} (k : Sub s.heap h) : Keeps s { s with heap := h } := ⟨h, s.toks, by cases s; exact .refl _, k⟩

theorem mem_mu_lt (S : St r h₀ env C ρ s) {a : Addr} (ha : a ∈ mu env C) : a < s.heap.objs.size := by
  obtain ⟨m, hn, _⟩ := S.ns
  rcases List.mem_cons.mp ha with rfl | ha
  · exact hn.lt
  · rcases List.mem_append.mp ha with ha | ha
    · obtain ⟨p, hp, rfl⟩ := List.mem_map.mp ha
      obtain ⟨v, hv⟩ := S.cell p.1 p.2 hp; exact hv.lt
    · obtain ⟨p, hp, rfl⟩ := List.mem_map.mp ha
      exact Heap.lt_size (S.obj p hp)
theorem mem_mu_some (S : St r h₀ env C ρ s) {a : Addr} (ha : a ∈ mu env C) : ∃ o, s.heap.get? a = some o := by
  obtain ⟨m, hn, _⟩ := S.ns
  rcases List.mem_cons.mp ha with rfl | ha
  · obtain ⟨o, _, _, h, _⟩ := hn; exact ⟨o, h⟩
  · rcases List.mem_append.mp ha with ha | ha
    · obtain ⟨p, hp, rfl⟩ := List.mem_map.mp ha
      obtain ⟨v, o, h, _⟩ := S.cell p.1 p.2 hp; exact ⟨o, h⟩
    · obtain ⟨p, hp, rfl⟩ := List.mem_map.mp ha
      exact ⟨_, S.obj p hp⟩
theorem vis_none (S : St r h₀ env C ρ s) {h' : Heap} {a : Addr} {o : Obj} (ha : s.heap.get? a = none) (e : h'.get? a = some o) : (vis env C h').get? a = some o :=
  hideAll_get _ e fun hm => by
    obtain ⟨o', e'⟩ := mem_mu_some S hm
    rw [ha] at e'; cases e'
/-- what is new is seen -/
theorem vis_new (S : St r h₀ env C ρ s) {h' : Heap} {a : Addr} {o : Obj} (ha : s.heap.objs.size ≤ a) (e : h'.get? a = some o) : (vis env C h').get? a = some o :=
  hideAll_get _ e fun hm => Nat.lt_irrefl _ (Nat.lt_of_lt_of_le (mem_mu_lt S hm) ha)

/-- an expression gives a value that is so; the heap only grows -/
structure Ev (prog : Program) (w : World) (A : Around) (r : Shared) (h₀ : Heap) (env : Env) (C : List (Addr × Obj)) (ρ : Rho) (e : Expr) (a : Ab) : Prop where
  go : ∀ s, St r h₀ env C ρ s → wpAny (model prog w) A (eval e env) (fun u s' => Keeps s s' ∧ a.of (vis env C s'.heap) u) (fun _ _ => False) s
/-- a test -/
structure Tt (prog : Program) (w : World) (A : Around) (r : Shared) (h₀ : Heap) (env : Env) (C : List (Addr × Obj)) (ρ : Rho) (e : Expr) (b : Bool) : Prop where
  go : ∀ s, St r h₀ env C ρ s → wpAny (model prog w) A (PySem.isTrue e env (eval e env)) (fun u s' => Keeps s s' ∧ u = b) (fun _ _ => False) s
end
end

section

structure Gnd (K : Frag) (mg mb : Str → Option Value) (h : Heap) : Prop where
  X : K.In h
  g : h.Ns mainGlobals mg
  b : h.Ns builtinsNs mb
  nolimit : h.NoLimit
  builtins : ∀ x : Str, x ≠ "__name__" → mb x = bootBuiltins x
theorem Gnd.mono {K : Frag} {mg mb : Str → Option Value} {h h' : Heap} (k : Sub h h') (G : Gnd K mg mb h) : Gnd K mg mb h' := ⟨G.X.keeps k, G.g.keeps k, G.b.keeps k, G.nolimit.keeps k, G.builtins⟩
structure Room (A : Around) (n : Nat) : Prop where
  h : A.handled = none
  d : A.depth + n < recursionLimit
  u : A.units + 8 * n + 80 < cLine
theorem Room.less {A : Around} {n m : Nat} (R : Room A n) (h : m ≤ n) : Room A m := ⟨R.h, by have := R.d; omega, by have := R.u; omega⟩
theorem Room.deeper {A : Around} {n : Nat} {env : Env} (R : Room A (n + 1)) : Room (A.deeper env) n := ⟨R.h, by have := R.d; show A.depth + 1 + n < _; omega, by have := R.u; show A.units + 3 + 8 * n + 80 < _; omega⟩
theorem Room.u64 {A : Around} {n : Nat} (R : Room A n) : A.units + 64 < cLine := by have := R.u; omega

/-- the frame's constants -/
structure Fe (env : Env) : Prop where
  kind : env.scope.kind = .function
  glob : env.globals = mainGlobals
  blt : env.builtins = builtinsNs

section
variable {prog : Program} {w : World} {A : Around} {r : Shared} {h₀ : Heap} {env : Env} {C : List (Addr × Obj)} {ρ : Rho} {s : Shared} {K : Frag} {mg mb : Str → Option Value} {n : Nat}

theorem Ev.use {e : Expr} {a : Ab} {Q : Value → Shared → Prop} {E : Value → Shared → Prop} (x : Ev prog w A r h₀ env C ρ e a) (S : St r h₀ env C ρ s)
    (k : ∀ u s', Keeps s s' → St r h₀ env C ρ s' → a.of (vis env C s'.heap) u → Q u s') : wpAny (model prog w) A (eval e env) Q E s :=
  wpAny_mono (x.go s S) (fun u s' h => k u s' h.1 (S.keeps h.1) h.2) fun _ _ f => f.elim
theorem Tt.use {e : Expr} {b : Bool} {Q : Bool → Shared → Prop} {E : Value → Shared → Prop} (x : Tt prog w A r h₀ env C ρ e b) (S : St r h₀ env C ρ s)
    (k : ∀ s', Keeps s s' → St r h₀ env C ρ s' → Q b s') : wpAny (model prog w) A (PySem.isTrue e env (eval e env)) Q E s :=
  wpAny_mono (x.go s S) (fun u s' h => h.2 ▸ k s' h.1 (S.keeps h.1)) fun _ _ f => f.elim
theorem Ev.weak {e : Expr} {v : Value} {d : PyData} (x : Ev prog w A r h₀ env C ρ e (.val v)) (h : Rd h₀ v d) : Ev prog w A r h₀ env C ρ e (.dat d) := .mk fun s S =>
  x.use S fun u s' k S' e => ⟨k, by cases e; exact h.mono S'.base⟩
theorem Ev.eq {e : Expr} {a b : Ab} (x : Ev prog w A r h₀ env C ρ e a) (h : a = b) : Ev prog w A r h₀ env C ρ e b := h ▸ x
theorem Tt.eq {e : Expr} {a b : Bool} (x : Tt prog w A r h₀ env C ρ e a) (h : a = b) : Tt prog w A r h₀ env C ρ e b := h ▸ x

theorem ev_name {x : Str} {pos : Pos} {a : Ab} (F : Fe env) (hx : ρ x = some a) (hd : (x == ("__debug__" : Str)) = false) : Ev prog w A r h₀ env C ρ (.Name x pos) a := .mk fun s S => by
  obtain ⟨m, hn, hv⟩ := S.ns
  obtain ⟨u, v, q⟩ := hv x a hx
  rcases v with ⟨hk, hm⟩ | ⟨hk, c, hc, hi⟩
  · exact wpAny_Name (wpAny_loadName_local F.kind hk hn hm ⟨kp_refl s, q⟩) hd
  · exact wpAny_Name (wpAny_loadName_cell F.kind hk hc hi ⟨kp_refl s, q⟩) hd
theorem gnd_s (G : Gnd K mg mb h₀) (S : St r h₀ env C ρ s) : Gnd K mg mb s.heap := G.mono (S.base.trans (vis_sub _))
theorem base_s (S : St r h₀ env C ρ s) : Sub h₀ s.heap := S.base.trans (vis_sub _)
theorem ev_glob {x : Str} {pos : Pos} {v : Value} (F : Fe env) (G : Gnd K mg mb h₀) (hx : env.kindOf x = some .globalImplicit) (hk : nsIn K mainGlobals x = some (some v)) (hd : (x == ("__debug__" : Str)) = false) :
    Ev prog w A r h₀ env C ρ (.Name x pos) (.val v) := .mk fun s S =>
  Name_function_global F.kind hx (loadGlobal_global (by rw [F.glob]; exact (gnd_s G S).g) (mg_of (gnd_s G S).X (gnd_s G S).g hk) ⟨kp_refl s, rfl⟩) hd
theorem ev_built {x : Str} {pos : Pos} {v : Value} (F : Fe env) (G : Gnd K mg mb h₀) (hx : env.kindOf x = some .globalImplicit) (hk : nsIn K mainGlobals x = some none) (hv : bootBuiltins x = some v) (hn : x ≠ "__name__") (hd : (x == ("__debug__" : Str)) = false) :
    Ev prog w A r h₀ env C ρ (.Name x pos) (.val v) := .mk fun s S =>
  Name_function_global F.kind hx (loadGlobal_builtin (by rw [F.glob]; exact (gnd_s G S).g) (mg_none_of (gnd_s G S).X (gnd_s G S).g hk) (by rw [F.blt]; exact (gnd_s G S).b) (((gnd_s G S).builtins x hn).trans hv) ⟨kp_refl s, rfl⟩) hd
theorem ev_int {i : Int} {k : Nat} {pos : Pos} : Ev prog w A r h₀ env C ρ (.Constant (.int i) k pos) (.dat (.int i)) := .mk fun s _ => wpAny_Constant_int ⟨kp_tok s _, Rd.int _ _⟩
theorem ev_str {x : Str} {k : Nat} {pos : Pos} : Ev prog w A r h₀ env C ρ (.Constant (.str x) k pos) (.dat (.str x)) := .mk fun s _ => wpAny_Constant_str ⟨kp_tok s _, Rd.str _ _⟩
theorem ev_bool {b : Bool} {k : Nat} {pos : Pos} : Ev prog w A r h₀ env C ρ (.Constant (.bool b) k pos) (.dat (.bool b)) := .mk fun s _ => wpAny_Constant_bool ⟨kp_refl s, Rd.bool _⟩

/-- two parts, then one step -/
theorem ev_two {l rr : Expr} {a b : Ab} {Q : Value → Shared → Prop} {E : Value → Shared → Prop} {f : Value → Value → Sem Value} (x : Ev prog w A r h₀ env C ρ l a) (y : Ev prog w A r h₀ env C ρ rr b) (S : St r h₀ env C ρ s)
    (k : ∀ u v s', Keeps s s' → St r h₀ env C ρ s' → a.of (vis env C s'.heap) u → b.of (vis env C s'.heap) v → wpAny (model prog w) A (f u v) Q E s') :
    wpAny (model prog w) A (eval l env) (fun u s₁ => wpAny (model prog w) A (eval rr env) (fun v s₂ => wpAny (model prog w) A (f u v) Q E s₂) E s₁) E s :=
  x.use S fun u s₁ k₁ S₁ a₁ => y.use S₁ fun v s₂ k₂ S₂ b₂ => k u v s₂ (kp_trans k₁ k₂) S₂ (Ab.mono (vis_mono (kp_sub k₂)) a₁) b₂
theorem ev_bin {op : Operator} {l rr : Expr} {pos : Pos} {a b : Ab} {c : Ab} (x : Ev prog w A r h₀ env C ρ l a) (y : Ev prog w A r h₀ env C ρ rr b)
    (k : ∀ u v s, St r h₀ env C ρ s → a.of (vis env C s.heap) u → b.of (vis env C s.heap) v → wpAny (model prog w) A (binaryOp op u v) (fun u' s' => Keeps s s' ∧ c.of (vis env C s'.heap) u') (fun _ _ => False) s) :
    Ev prog w A r h₀ env C ρ (.BinOp l op rr pos) c := .mk fun s S =>
  wpAny_BinOp (ev_two x y S fun u v s' k' S' a' b' => wpAny_mono (k u v s' S' a' b') (fun _ _ h => ⟨kp_trans k' h.1, h.2⟩) fun _ _ f => f)
theorem ev_add {l rr : Expr} {pos : Pos} {a b : Int} (x : Ev prog w A r h₀ env C ρ l (.dat (.int a))) (y : Ev prog w A r h₀ env C ρ rr (.dat (.int b))) : Ev prog w A r h₀ env C ρ (.BinOp l .Add rr pos) (.dat (.int (a + b))) :=
  ev_bin x y fun u v s S hu hv => by
    obtain ⟨t, rfl⟩ := Rd.getInt hu; obtain ⟨t', rfl⟩ := Rd.getInt hv
    exact add_int ⟨kp_tok s _, Rd.int _ _⟩
theorem ev_sub {l rr : Expr} {pos : Pos} {a b : Int} (x : Ev prog w A r h₀ env C ρ l (.dat (.int a))) (y : Ev prog w A r h₀ env C ρ rr (.dat (.int b))) : Ev prog w A r h₀ env C ρ (.BinOp l .Sub rr pos) (.dat (.int (a - b))) :=
  ev_bin x y fun u v s S hu hv => by
    obtain ⟨t, rfl⟩ := Rd.getInt hu; obtain ⟨t', rfl⟩ := Rd.getInt hv
    exact PyProof.Rows.sub_int ⟨kp_tok s _, Rd.int _ _⟩
theorem ev_mul {l rr : Expr} {pos : Pos} {a b : Int} (x : Ev prog w A r h₀ env C ρ l (.dat (.int a))) (y : Ev prog w A r h₀ env C ρ rr (.dat (.int b))) (hm : IntMulOk a b) : Ev prog w A r h₀ env C ρ (.BinOp l .Mult rr pos) (.dat (.int (a * b))) :=
  ev_bin x y fun u v s S hu hv => by
    obtain ⟨t, rfl⟩ := Rd.getInt hu; obtain ⟨t', rfl⟩ := Rd.getInt hv
    exact PyProof.Rows.mul_int ⟨kp_tok s _, Rd.int _ _⟩ hm
theorem ev_mod {l rr : Expr} {pos : Pos} {a b : Int} (x : Ev prog w A r h₀ env C ρ l (.dat (.int a))) (y : Ev prog w A r h₀ env C ρ rr (.dat (.int b))) (hb : b ≠ 0) : Ev prog w A r h₀ env C ρ (.BinOp l .Mod rr pos) (.dat (.int (a.fmod b))) :=
  ev_bin x y fun u v s S hu hv => by
    obtain ⟨t, rfl⟩ := Rd.getInt hu; obtain ⟨t', rfl⟩ := Rd.getInt hv
    exact PyProof.Rows.mod_int hb ⟨kp_tok s _, Rd.int _ _⟩
theorem ev_div {l rr : Expr} {pos : Pos} {a b : Int} (hp : ∀ s, St r h₀ env C ρ s → PylongRoom (model prog w) A s) (x : Ev prog w A r h₀ env C ρ l (.dat (.int a))) (y : Ev prog w A r h₀ env C ρ rr (.dat (.int b))) (hb : b ≠ 0) : Ev prog w A r h₀ env C ρ (.BinOp l .FloorDiv rr pos) (.dat (.int (a.fdiv b))) :=
  ev_bin x y fun u v s S hu hv => by
    obtain ⟨t, rfl⟩ := Rd.getInt hu; obtain ⟨t', rfl⟩ := Rd.getInt hv
    exact floordiv_int hb ⟨kp_tok s _, Rd.int _ _⟩ (Or.inr (hp s S))
theorem ev_addS {l rr : Expr} {pos : Pos} {a b : Str} (x : Ev prog w A r h₀ env C ρ l (.dat (.str a))) (y : Ev prog w A r h₀ env C ρ rr (.dat (.str b))) (hl : a.length + b.length ≤ sizeLine) : Ev prog w A r h₀ env C ρ (.BinOp l .Add rr pos) (.dat (.str (a ++ b))) :=
  ev_bin x y fun u v s S hu hv => by
    obtain ⟨t, rfl⟩ := Rd.getStr hu; obtain ⟨t', rfl⟩ := Rd.getStr hv
    exact add_str (fun t' tk => ⟨kp_tok s _, Rd.str _ _⟩) hl
theorem ev_neg {l : Expr} {pos : Pos} {a : Int} (x : Ev prog w A r h₀ env C ρ l (.dat (.int a))) : Ev prog w A r h₀ env C ρ (.UnaryOp .USub l pos) (.dat (.int (-a))) := .mk fun s S =>
  wpAny_UnaryOp (x.use S fun u s' k S' hu => by
    obtain ⟨t, rfl⟩ := Rd.getInt hu
    exact neg_int ⟨kp_trans k (kp_tok s' _), Rd.int _ _⟩)
theorem ev_not {l : Expr} {pos : Pos} {b : Bool} (x : Ev prog w A r h₀ env C ρ l (.dat (.bool b))) : Ev prog w A r h₀ env C ρ (.UnaryOp .Not l pos) (.dat (.bool (!b))) := .mk fun s S =>
  wpAny_UnaryOp (x.use S fun u s' k S' hu => by
    obtain rfl := Rd.getBool hu
    exact not_value (wpAny_truthy_bool ⟨k, Rd.bool _⟩))

/-! comparing -/
theorem ev_cmp {op : CmpOp} {l rr : Expr} {pos : Pos} {a b : Ab} {c : Bool} (x : Ev prog w A r h₀ env C ρ l a) (y : Ev prog w A r h₀ env C ρ rr b)
    (k : ∀ u v s, St r h₀ env C ρ s → a.of (vis env C s.heap) u → b.of (vis env C s.heap) v → wpAny (model prog w) A (compareOp op u v) (fun u' s' => Keeps s s' ∧ u' = .bool c) (fun _ _ => False) s)
    (hm : behindInMarks op rr = false) : Ev prog w A r h₀ env C ρ (.Compare l [op] [rr] pos) (.dat (.bool c)) := .mk fun s S =>
  wpAny_Compare1 (ev_two x y S fun u v s' k' S' a' b' => wpAny_mono (k u v s' S' a' b') (fun _ _ h => ⟨kp_trans k' h.1, by rw [h.2]; exact Rd.bool _⟩) fun _ _ f => f) hm
theorem tt_cmp {op : CmpOp} {l rr : Expr} {pos : Pos} {a b : Ab} {c : Bool} (x : Ev prog w A r h₀ env C ρ l a) (y : Ev prog w A r h₀ env C ρ rr b)
    (k : ∀ u v s, St r h₀ env C ρ s → a.of (vis env C s.heap) u → b.of (vis env C s.heap) v → wpAny (model prog w) A (compareOp op u v) (fun u' s' => Keeps s s' ∧ u' = .bool c) (fun _ _ => False) s)
    (hm : behindInMarks op rr = false) : Tt prog w A r h₀ env C ρ (.Compare l [op] [rr] pos) c := .mk fun s S =>
  wpAny_isTrue_Compare1 (ev_two x y S fun u v s' k' S' a' b' => wpAny_mono (k u v s' S' a' b') (fun _ _ h => by rw [h.2]; exact wpAny_truthy_bool ⟨kp_trans k' h.1, rfl⟩) fun _ _ f => f.elim) hm
/-- what each comparison gives -/
structure Cmp (prog : Program) (w : World) (A : Around) (op : CmpOp) (a b : PyData) (c : Bool) : Prop where
  go : ∀ u v s, Rd s.heap u a → Rd s.heap v b → wpAny (model prog w) A (compareOp op u v) (fun u' s' => Keeps s s' ∧ u' = .bool c) (fun _ _ => False) s
theorem cmp_eq {a b : PyData} (R : Room A n) (ha : SeqAt.shaped a = true) (hb : SeqAt.shaped b = true) : Cmp prog w A .Eq a b (a.eqv b) := .mk fun u v s hu hv => let ⟨_, ru⟩ := hu.reads; let ⟨_, rv⟩ := hv.reads; eq_dataH ru rv ha hb R.u64 ⟨kp_refl s, rfl⟩
theorem cmp_ne {a b : PyData} (R : Room A n) (ha : SeqAt.shaped a = true) (hb : SeqAt.shaped b = true) : Cmp prog w A .NotEq a b (!a.eqv b) := .mk fun u v s hu hv => let ⟨_, ru⟩ := hu.reads; let ⟨_, rv⟩ := hv.reads; ne_dataH ru rv ha hb R.u64 ⟨kp_refl s, rfl⟩
theorem cmp_ge {a b : Int} : Cmp prog w A .GtE (.int a) (.int b) (decide (a ≥ b)) := .mk fun u v s hu hv => by
  obtain ⟨t, rfl⟩ := Rd.getInt hu; obtain ⟨t', rfl⟩ := Rd.getInt hv
  exact PyProof.Rows.ge_int ⟨kp_refl s, rfl⟩
theorem room_in_list {xs : List PyData} {d : PyData} (R : Room A n) (hd : d.depth ≤ 64) : A.units + 1 + min (PyData.depthAll xs) d.depth < cLine := by
  have := R.u
  have := Nat.min_le_right (PyData.depthAll xs) d.depth
  omega
theorem cmp_in {x : PyData} {xs : List PyData} (R : Room A n) (hx : PyData.canLayAll0 xs = true) (hd : x.canLay0 = true) (h64 : x.depth ≤ 64) : Cmp prog w A .In x (.list xs) (xs.any fun y => y.eqv x) := .mk fun u v s hu hv => let ⟨_, ru⟩ := hu.reads; let ⟨_, rv⟩ := hv.reads;
  SeqAt.in_list_reads rv ru hx hd (room_in_list R h64) ⟨kp_refl s, rfl⟩
theorem cmp_inT {x : PyData} {xs : List PyData} (R : Room A n) (hx : PyData.canLayAll0 xs = true) (hd : x.canLay0 = true) (h64 : x.depth ≤ 64) : Cmp prog w A .In x (.tuple xs) (xs.any fun y => y.eqv x) := .mk fun u v s hu hv => let ⟨_, ru⟩ := hu.reads; let ⟨_, rv⟩ := hv.reads;
  SeqAt.in_tuple_reads rv ru hx hd (room_in_list R h64) ⟨kp_refl s, rfl⟩
theorem cmp_notin {x : PyData} {xs : List PyData} (R : Room A n) (hx : PyData.canLayAll0 xs = true) (hd : x.canLay0 = true) (h64 : x.depth ≤ 64) : Cmp prog w A .NotIn x (.list xs) (!xs.any fun y => y.eqv x) := .mk fun u v s hu hv => let ⟨_, ru⟩ := hu.reads; let ⟨_, rv⟩ := hv.reads;
  SeqAt.notIn_list_reads rv ru hx hd (room_in_list R h64) ⟨kp_refl s, rfl⟩
theorem cmp_notinT {x : PyData} {xs : List PyData} (R : Room A n) (hx : PyData.canLayAll0 xs = true) (hd : x.canLay0 = true) (h64 : x.depth ≤ 64) : Cmp prog w A .NotIn x (.tuple xs) (!xs.any fun y => y.eqv x) := .mk fun u v s hu hv => let ⟨_, ru⟩ := hu.reads; let ⟨_, rv⟩ := hv.reads;
  SeqAt.notIn_tuple_reads rv ru hx hd (room_in_list R h64) ⟨kp_refl s, rfl⟩
theorem ev_cmpd {op : CmpOp} {l rr : Expr} {pos : Pos} {a b : PyData} {c : Bool} (x : Ev prog w A r h₀ env C ρ l (.dat a)) (y : Ev prog w A r h₀ env C ρ rr (.dat b)) (k : Cmp prog w A op a b c) (hm : behindInMarks op rr = false) :
    Ev prog w A r h₀ env C ρ (.Compare l [op] [rr] pos) (.dat (.bool c)) := ev_cmp x y (fun u v s _ hu hv => k.go u v s (hu.mono (vis_sub _)) (hv.mono (vis_sub _))) hm
theorem tt_cmpd {op : CmpOp} {l rr : Expr} {pos : Pos} {a b : PyData} {c : Bool} (x : Ev prog w A r h₀ env C ρ l (.dat a)) (y : Ev prog w A r h₀ env C ρ rr (.dat b)) (k : Cmp prog w A op a b c) (hm : behindInMarks op rr = false) :
    Tt prog w A r h₀ env C ρ (.Compare l [op] [rr] pos) c := tt_cmp x y (fun u v s _ hu hv => k.go u v s (hu.mono (vis_sub _)) (hv.mono (vis_sub _))) hm

/-! and, or, not, if -/
theorem ev_one {op : BoolOp} {e : Expr} {pos : Pos} {a : Ab} (x : Ev prog w A r h₀ env C ρ e a) : Ev prog w A r h₀ env C ρ (.BoolOp op [e] pos) a := .mk fun s S => BoolOp_one (x.go s S)
theorem ev_and {e₁ e₂ : Expr} {rest : List Expr} {pos : Pos} {a b : Bool} (x : Ev prog w A r h₀ env C ρ e₁ (.dat (.bool a))) (y : a = true → Ev prog w A r h₀ env C ρ (.BoolOp .And (e₂ :: rest) pos) (.dat (.bool b))) :
    Ev prog w A r h₀ env C ρ (.BoolOp .And (e₁ :: e₂ :: rest) pos) (.dat (.bool (a && b))) := .mk fun s S =>
  BoolOp_and (x.use S fun u s' k S' hu => by
    obtain rfl := Rd.getBool hu
    refine wpAny_truthy_bool ?_
    cases a with
    | true => rw [if_pos rfl]; exact (y rfl).use S' fun v s'' k' S'' hv => ⟨kp_trans k k', hv⟩
    | false => rw [if_neg (by decide)]; exact ⟨k, hu⟩)
theorem ev_or {e₁ e₂ : Expr} {rest : List Expr} {pos : Pos} {a b : Bool} (x : Ev prog w A r h₀ env C ρ e₁ (.dat (.bool a))) (y : a = false → Ev prog w A r h₀ env C ρ (.BoolOp .Or (e₂ :: rest) pos) (.dat (.bool b))) :
    Ev prog w A r h₀ env C ρ (.BoolOp .Or (e₁ :: e₂ :: rest) pos) (.dat (.bool (a || b))) := .mk fun s S =>
  BoolOp_or (x.use S fun u s' k S' hu => by
    obtain rfl := Rd.getBool hu
    refine wpAny_truthy_bool ?_
    cases a with
    | false => rw [if_neg (by decide)]; exact (y rfl).use S' fun v s'' k' S'' hv => ⟨kp_trans k k', hv⟩
    | true => rw [if_pos rfl]; exact ⟨k, hu⟩)
theorem ev_if {t b o : Expr} {pos : Pos} {c : Bool} {a : Ab} (x : Tt prog w A r h₀ env C ρ t c) (y : c = true → Ev prog w A r h₀ env C ρ b a) (z : c = false → Ev prog w A r h₀ env C ρ o a) : Ev prog w A r h₀ env C ρ (.IfExp t b o pos) a := .mk fun s S =>
  wpAny_IfExp (x.use S fun s' k S' => by
    cases c with
    | true => rw [if_pos rfl]; exact (y rfl).use S' fun v s'' k' S'' hv => ⟨kp_trans k k', hv⟩
    | false => rw [if_neg (by decide)]; exact (z rfl).use S' fun v s'' k' S'' hv => ⟨kp_trans k k', hv⟩)
theorem tt_not {x : Expr} {pos : Pos} {b : Bool} (h : Tt prog w A r h₀ env C ρ x b) : Tt prog w A r h₀ env C ρ (.UnaryOp .Not x pos) (!b) := .mk fun s S =>
  wpAny_isTrue_Not (h.use S fun s' k _ => ⟨k, rfl⟩)
theorem tt_val {e : Expr} {b : Bool} (x : Ev prog w A r h₀ env C ρ e (.dat (.bool b))) (he : PySem.isTrue e env (eval e env) = (do let v ← eval e env; standAt e.pos; holding [v] (truthy v))) : Tt prog w A r h₀ env C ρ e b := .mk fun s S =>
  wpAny_isTrue_value (x.use S fun u s' k S' hu => by
    obtain rfl := Rd.getBool hu
    exact wpAny_truthy_bool ⟨k, rfl⟩) he
structure TtAll (prog : Program) (w : World) (A : Around) (r : Shared) (h₀ : Heap) (env : Env) (C : List (Addr × Obj)) (ρ : Rho) (op : BoolOp) (es : List Expr) (b : Bool) : Prop where
  go : ∀ s, St r h₀ env C ρ s → wpAny (model prog w) A (allTrue op es env) (fun u s' => Keeps s s' ∧ u = b) (fun _ _ => False) s
theorem tt_bool {op : BoolOp} {es : List Expr} {pos : Pos} {b : Bool} (h : TtAll prog w A r h₀ env C ρ op es b) : Tt prog w A r h₀ env C ρ (.BoolOp op es pos) b := .mk fun s S => wpAny_isTrue_BoolOp (h.go s S)
theorem ta_andN : TtAll prog w A r h₀ env C ρ .And [] true := .mk fun s _ => wpAny_allTrue_And_nil ⟨kp_refl s, rfl⟩
theorem ta_orN : TtAll prog w A r h₀ env C ρ .Or [] false := .mk fun s _ => wpAny_allTrue_Or_nil ⟨kp_refl s, rfl⟩
theorem ta_and {x : Expr} {rest : List Expr} {a b : Bool} (h : Tt prog w A r h₀ env C ρ x a) (k : a = true → TtAll prog w A r h₀ env C ρ .And rest b) : TtAll prog w A r h₀ env C ρ .And (x :: rest) (a && b) := .mk fun s S =>
  wpAny_allTrue_And_cons (h.use S fun s' k' S' => by
    cases a with
    | true => rw [if_pos rfl]; exact wpAny_mono ((k rfl).go s' S') (fun _ _ h => ⟨kp_trans k' h.1, h.2⟩) fun _ _ f => f
    | false => rw [if_neg (by decide)]; exact ⟨k', rfl⟩)
theorem ta_or {x : Expr} {rest : List Expr} {a b : Bool} (h : Tt prog w A r h₀ env C ρ x a) (k : a = false → TtAll prog w A r h₀ env C ρ .Or rest b) : TtAll prog w A r h₀ env C ρ .Or (x :: rest) (a || b) := .mk fun s S =>
  wpAny_allTrue_Or_cons (h.use S fun s' k' S' => by
    cases a with
    | false => first
      | (rw [if_neg (by decide)]; exact wpAny_mono ((k rfl).go s' S') (fun _ _ h => ⟨kp_trans k' h.1, h.2⟩) fun _ _ f => f)
    | true => rw [if_pos rfl]; exact ⟨k', rfl⟩)
end
end

section

noncomputable def AllOf (h : Heap) : List Value → List Ab → Prop
  | [], [] => True
  | u :: us, a :: as => a.of h u ∧ AllOf h us as
  | _, _ => False
theorem AllOf.mono {h h' : Heap} (k : Sub h h') : ∀ {us : List Value} {as : List Ab}, AllOf h us as → AllOf h' us as
  | [], [], _ => trivial
  | _ :: _, _ :: _, x => ⟨Ab.mono k x.1, AllOf.mono k x.2⟩
  | [], _ :: _, x => x.elim
  | _ :: _, [], x => x.elim

/-- new data: it lies in objects that were not there -/
noncomputable def RdN (h h' : Heap) (u : Value) (d : PyData) : Prop := ∃ g, Sub g h' ∧ (∀ a o, g.get? a = some o → h.get? a = none) ∧ Rd g u d
noncomputable def Ab.ofN (h h' : Heap) (u : Value) : Ab → Prop
  | .dat d => RdN h h' u d
  | .val v => u = v
noncomputable def gNil : Heap := {}
theorem gNil_get (a : Addr) (o : Obj) : gNil.get? a = some o → False := fun e => by
  have := Heap.lt_size e
  simp [gNil] at this
theorem RdN.flat {h h' : Heap} {u : Value} {d : PyData} (x : Rd gNil u d) : RdN h h' u d := ⟨gNil, fun a o e => (gNil_get a o e).elim, fun a o e => (gNil_get a o e).elim, x⟩
theorem RdN.bool (h h' : Heap) (b : Bool) : RdN h h' (.bool b) (.bool b) := .flat (Rd.bool _)
theorem RdN.int (h h' : Heap) (i : Int) (t : Tok) : RdN h h' (.int i t) (.int i) := .flat (Rd.int _ _)
theorem RdN.str (h h' : Heap) (i : Str) (t : Tok) : RdN h h' (.str i t) (.str i) := .flat (Rd.str _ _)

/-- what a call gives: the heap only grows -/
structure Fn (prog : Program) (w : World) (A : Around) (h : Heap) (f : Value) (as : List Ab) (res : Ab) : Prop where
  go : ∀ s us, Sub h s.heap → AllOf s.heap us as → wpAny (model prog w) A (call f us) (fun u s' => Keeps s s' ∧ res.ofN s.heap s'.heap u) (fun _ _ => False) s
theorem Fn.mono {prog : Program} {w : World} {A : Around} {h h' : Heap} {f : Value} {as : List Ab} {res : Ab} (k : Sub h h') (x : Fn prog w A h f as res) : Fn prog w A h' f as res := .mk fun s us z => x.go s us (k.trans z)

section
variable {prog : Program} {w : World} {A : Around} {r : Shared} {h₀ : Heap} {env : Env} {C : List (Addr × Obj)} {ρ : Rho} {s : Shared} {K : Frag} {mg mb : Str → Option Value} {n : Nat}
theorem ofN_vis (S : St r h₀ env C ρ s) {h' : Heap} {u : Value} {a : Ab} (x : a.ofN s.heap h' u) : a.of (vis env C h') u := by
  cases a with
  | val v => exact x
  | dat d =>
    obtain ⟨g, k, hn, rd⟩ := x
    exact rd.mono fun a o e => vis_none S (hn a o e) (k a o e)

noncomputable def plainArgs (es : List Expr) (env : Env) : List (Bool × Sem Value) := es.map fun e => (false, eval e env)
theorem backTo_plain (es : List Expr) (env : Env) (pos : Pos) : backTo pos (plainArgs es env) = plainArgs es env := by
  induction es with
  | nil => rfl
  | cons e es ih => simp only [backTo, plainArgs, List.map_cons] at *; rw [ih]; rfl
theorem any_plain (es : List Expr) (env : Env) : (plainArgs es env).any (·.1) = false := by
  induction es with
  | nil => rfl
  | cons e es ih => simp only [plainArgs, List.map_cons, List.any_cons] at *; rw [ih]; rfl
structure EvL (prog : Program) (w : World) (A : Around) (r : Shared) (h₀ : Heap) (env : Env) (C : List (Addr × Obj)) (ρ : Rho) (es : List Expr) (as : List Ab) : Prop where
  go : ∀ s, St r h₀ env C ρ s → wpAny (model prog w) A (spliced (plainArgs es env)) (fun us s' => Keeps s s' ∧ AllOf (vis env C s'.heap) us as) (fun _ _ => False) s
structure EvD (prog : Program) (w : World) (A : Around) (r : Shared) (h₀ : Heap) (env : Env) (C : List (Addr × Obj)) (ρ : Rho) (es : List Expr) (ds : List PyData) : Prop where
  go : ∀ s, St r h₀ env C ρ s → wpAny (model prog w) A (spliced (plainArgs es env)) (fun us s' => Keeps s s' ∧ RdAll (vis env C s'.heap) us ds) (fun _ _ => False) s
theorem spl_cons {x : Sem Value} {rest : List (Bool × Sem Value)} {Q : List Value → Shared → Prop} {E : Value → Shared → Prop} {M : Model} (h : wpAny M A x (fun v s₁ => wpAny M A (spliced rest) (fun vs s₂ => Q (v :: vs) s₂) E s₁) E s) :
    wpAny M A (spliced ((false, x) :: rest)) Q E s := by
  show wpAny M A (x >>= fun v => (pure [v] : Sem (List Value)) >>= fun here => holding here (spliced rest) >>= fun vs => pure (here ++ vs)) Q E s
  exact wpAny_bind (wpAny_mono h (fun v s₁ h₁ => wpAny_bind (wpAny_pure (wpAny_bind (wpAny_holding (wpAny_mono h₁ (fun vs s₂ h₂ => wpAny_pure h₂) fun _ _ x => x))))) fun _ _ x => x)
theorem evl_nil : EvL prog w A r h₀ env C ρ [] [] := .mk fun s S => wpAny_pure ⟨kp_refl s, trivial⟩
theorem evl_cons {e : Expr} {es : List Expr} {a : Ab} {as : List Ab} (x : Ev prog w A r h₀ env C ρ e a) (y : EvL prog w A r h₀ env C ρ es as) : EvL prog w A r h₀ env C ρ (e :: es) (a :: as) := .mk fun s S =>
  spl_cons (x.use S fun u s₁ k₁ S₁ h₁ => wpAny_mono (y.go s₁ S₁) (fun us s₂ h₂ => ⟨kp_trans k₁ h₂.1, Ab.mono (vis_mono (kp_sub h₂.1)) h₁, h₂.2⟩) fun _ _ f => f)
theorem evd_nil : EvD prog w A r h₀ env C ρ [] [] := .mk fun s S => wpAny_pure ⟨kp_refl s, .nil⟩
theorem evd_cons {e : Expr} {es : List Expr} {a : PyData} {as : List PyData} (x : Ev prog w A r h₀ env C ρ e (.dat a)) (y : EvD prog w A r h₀ env C ρ es as) : EvD prog w A r h₀ env C ρ (e :: es) (a :: as) := .mk fun s S =>
  spl_cons (x.use S fun u s₁ k₁ S₁ h₁ => wpAny_mono (y.go s₁ S₁) (fun us s₂ h₂ => ⟨kp_trans k₁ h₂.1, .cons (Rd.mono (vis_mono (kp_sub h₂.1)) h₁) h₂.2⟩) fun _ _ f => f)

/-- a new list, a new tuple -/
theorem vis_push (S : St r h₀ env C ρ s) (o : Obj) (hf : o.isFreed = false := by rfl) : (vis env C (s.heap.push o)).get? s.heap.objs.size = some o := vis_new S (Nat.le_refl _) (Heap.get?_push_size _ hf)
theorem ev_list {es : List Expr} {pos : Pos} {ds : List PyData} (x : EvD prog w A r h₀ env C ρ es ds) (hst : starEach es env = plainArgs es env) (hz : ds.length ≤ sizeLine) : Ev prog w A r h₀ env C ρ (.List es pos) (.dat (.list ds)) := .mk fun s S =>
  wpAny_List (by
    rw [hst, backTo_plain]
    refine wpAny_mono (x.go s S) (fun us s' h => ⟨by rw [h.2.length]; exact hz, kp_trans h.1 (kp_heap (Sub.push _ _)), ?_⟩) fun _ _ f => f
    exact Rd.list (vis_push (S.keeps h.1) _) (by simpa using h.2.mono (vis_mono (Sub.push _ _))))
theorem ev_tuple {es : List Expr} {k : Nat} {pos : Pos} {ds : List PyData} (x : EvD prog w A r h₀ env C ρ es ds) (hst : starEach es env = plainArgs es env) (hz : ds.length ≤ sizeLine) : Ev prog w A r h₀ env C ρ (.Tuple es k pos) (.dat (.tuple ds)) := .mk fun s S =>
  wpAny_Tuple (by
    rw [hst, backTo_plain]
    refine wpAny_mono (x.go s S) (fun us s' h => ⟨by rw [h.2.length]; exact hz, kp_trans h.1 (kp_heap (Sub.push _ _)), ?_⟩) fun _ _ f => f
    exact Rd.tuple (vis_push (S.keeps h.1) _) (by simpa using h.2.mono (vis_mono (Sub.push _ _))))

/-! calls -/
theorem evalArgs_nilS {M : Model} {E : Value → Shared → Prop} {f : Value} {Q : Args → Shared → Prop} (h : wpAny M A (spliced []) (fun vs s' => Q ⟨vs, []⟩ s') E s) : wpAny M A (evalArgs f true [] []) Q E s := by
  unfold evalArgs
  show wpAny M A (spliced [] >>= _) Q E s
  refine wpAny_bind (wpAny_mono h (fun vs s₁ h₁ => ?_) fun _ _ x => x)
  refine wpAny_holding ?_
  simp only [List.all_nil, if_true]
  exact wpAny_bind (wpAny_pure (wpAny_bind (wpAny_pure (wpAny_pure h₁))))
theorem cw {f : Value} {first : List Value} {pos : Pos} {es : List Expr} {as : List Ab} {Q : Value → Shared → Prop} {E : Value → Shared → Prop} (hst : starEach es env = plainArgs es env)
    (hk : ∀ s, St r h₀ env C ρ s → ∃ k, (k = Keeper.frame ∨ k = Keeper.machine ∨ k = Keeper.boundFrame) ∧ Looks (model prog w) s.heap (keeperOf f) k) (x : EvL prog w A r h₀ env C ρ es as) (S : St r h₀ env C ρ s)
    (h : ∀ us s', Keeps s s' → St r h₀ env C ρ s' → AllOf (vis env C s'.heap) us as → wpAny (model prog w) A (call f (first ++ us)) Q E s') :
    wpAny (model prog w) A (callWith pos f first (backTo pos (starEach es env)) []) Q E s := by
  rw [hst, backTo_plain]
  refine callWith_of (P := fun h => ∃ k, (k = Keeper.frame ∨ k = Keeper.machine ∨ k = Keeper.boundFrame) ∧ Looks (model prog w) h (keeperOf f) k) (by rw [any_plain]; rfl) (fun h x => x) ?_
  have key : wpAny (model prog w) A (spliced (plainArgs es env)) (fun vs s' => (∃ k, (k = Keeper.frame ∨ k = Keeper.machine ∨ k = Keeper.boundFrame) ∧ Looks (model prog w) s'.heap (keeperOf f) k) ∧ wpAny (model prog w) A (call f (first ++ vs)) Q E s') E s :=
    wpAny_mono (x.go s S) (fun us s' z => ⟨hk s' (S.keeps z.1), h us s' z.1 (S.keeps z.1) z.2⟩) fun _ _ f => f.elim
  cases es with
  | nil => exact evalArgs_nilS key
  | cons e es => exact evalArgs_plain key
end
end

section

/-- an object of a class: its class, its dict by names -/
noncomputable def Inst (h : Heap) (x Cc : Addr) (m : Str → Option Value) : Prop := ∃ ox od, W.InstAt h x ox Cc (some od) ∧ ∀ name, lookIn name od = some (m name)
theorem Inst.mono {h h' : Heap} {x Cc : Addr} {m : Str → Option Value} (k : Sub h h') (I : Inst h x Cc m) : Inst h' x Cc m := by
  obtain ⟨ox, od, I, l⟩ := I
  refine ⟨ox, od, ⟨k _ _ I.at_, I.cls, I.no, ?_⟩, l⟩
  have := I.dict
  revert this
  cases ox.dict with
  | none => exact fun e => e
  | some dx => exact fun e => k _ _ e

section
variable {prog : Program} {w : World} {A : Around} {r : Shared} {h₀ : Heap} {env : Env} {C : List (Addr × Obj)} {ρ : Rho} {s : Shared} {K : Frag} {mg mb : Str → Option Value} {n : Nat}

theorem keeps_bi {M : Model} {h : Heap} {f : Value} (hf : ∀ a, f ≠ .ref a) : ∃ k, (k = Keeper.frame ∨ k = Keeper.machine ∨ k = Keeper.boundFrame) ∧ Looks M h (keeperOf f) k := by
  refine ⟨.machine, .inr (.inl rfl), ?_⟩
  cases f <;> first | exact Looks.of_pure rfl | exact absurd rfl (hf _)
theorem fn_use {f : Value} {as : List Ab} {res : Ab} {s₀ : Shared} (hF : ∀ s, St r h₀ env C ρ s → Fn prog w A s.heap f as res) {us : List Value} (S : St r h₀ env C ρ s) (k : Keeps s₀ s) (x : AllOf (vis env C s.heap) us as) :
    wpAny (model prog w) A (call f us) (fun u s' => Keeps s₀ s' ∧ res.of (vis env C s'.heap) u) (fun _ _ => False) s :=
  wpAny_mono ((hF s S).go s us Sub.refl (x.mono (vis_sub _))) (fun u s' h => ⟨kp_trans k h.1, ofN_vis S h.2⟩) fun _ _ f => f
/-- a call of a def of the top -/
theorem ev_call {f : Addr} {id : Str} {p pos : Pos} {es : List Expr} {as : List Ab} {res : Ab} (F : Fe env) (G : Gnd K mg mb h₀) (hx : env.kindOf id = some .globalImplicit) (hn : nsIn K mainGlobals id = some (some (.ref f)))
    (hd : (id == ("__debug__" : Str)) = false) (hk : keepIn K (.ref f) = true) (hst : starEach es env = plainArgs es env) (x : EvL prog w A r h₀ env C ρ es as) (hF : ∀ s, St r h₀ env C ρ s → Fn prog w A s.heap (.ref f) as res) :
    Ev prog w A r h₀ env C ρ (.Call (.Name id p) es [] pos) res := .mk fun s S => by
  show wpAny _ _ (do callWith pos (← eval (.Name id p) env) [] (backTo pos (starEach es env)) []) _ _ _
  refine wpAny_bind ((ev_glob F G hx hn hd).use S fun u s₁ k₁ S₁ e => ?_)
  cases e
  exact cw hst (fun s S => keeps_K hk _ (gnd_s G S).X) x S₁ fun us s' k' S' a' => fn_use hF S' (kp_trans k₁ k') a'
/-- a call of a built-in function -/
theorem ev_callB {f : Value} {id : Str} {p pos : Pos} {es : List Expr} {as : List Ab} {res : Ab} (F : Fe env) (G : Gnd K mg mb h₀) (hx : env.kindOf id = some .globalImplicit) (hn : nsIn K mainGlobals id = some none)
    (hv : bootBuiltins id = some f) (hm : id ≠ "__name__") (hf : ∀ a, f ≠ .ref a) (hd : (id == ("__debug__" : Str)) = false) (hst : starEach es env = plainArgs es env) (x : EvL prog w A r h₀ env C ρ es as) (hF : ∀ s, St r h₀ env C ρ s → Fn prog w A s.heap f as res) :
    Ev prog w A r h₀ env C ρ (.Call (.Name id p) es [] pos) res := .mk fun s S => by
  show wpAny _ _ (do callWith pos (← eval (.Name id p) env) [] (backTo pos (starEach es env)) []) _ _ _
  refine wpAny_bind ((ev_built F G hx hn hv hm hd).use S fun u s₁ k₁ S₁ e => ?_)
  cases e
  exact cw hst (fun s S => keeps_bi hf) x S₁ fun us s' k' S' a' => fn_use hF S' (kp_trans k₁ k') a'

/-- what a class says of a name: a method, or nothing -/
structure ClsMeth (K : Frag) (Cc : Addr) (name : Str) (f : Addr) : Prop where
  ga : findIn K (.ref Cc) "__getattribute__" = some (some (.builtin "object.__getattribute__"))
  gx : findIn K (.ref Cc) "__getattr__" = some none
  hf : findIn K (.ref Cc) name = some (some (.ref f))
  ht : typeIn K (.ref f) = some (.type "function")
  hk : keepIn K (.ref f) = true
structure ClsFree (K : Frag) (Cc : Addr) (name : Str) : Prop where
  ga : findIn K (.ref Cc) "__getattribute__" = some (some (.builtin "object.__getattribute__"))
  hd : hasDictIn K Cc = true
  hf : findIn K (.ref Cc) name = some none

/-- a call of an own method -/
theorem ev_meth {f x Cc : Addr} {m : Str → Option Value} {o : Expr} {name : Str} {apos pos : Pos} {es : List Expr} {as : List Ab} {res : Ab} {pl : Sem Bool} (G : Gnd K mg mb h₀) (ho : Ev prog w A r h₀ env C ρ o (.val (.ref x)))
    (I : ∀ s, St r h₀ env C ρ s → Inst s.heap x Cc m) (M : ClsMeth K Cc name f) (hm : m name = none) (hst : starEach es env = plainArgs es env) (y : EvL prog w A r h₀ env C ρ es as) (hF : ∀ s, St r h₀ env C ρ s → Fn prog w A s.heap (.ref f) (.val (.ref x) :: as) res)
    (he : eval (.Call (.Attribute o name apos) es [] pos) env = (do
      let ov ← eval o env
      standAt apos.atName
      let (f, first) ← holding [ov] (getMethod ov name pl)
      callWith pos f first (backTo pos (starEach es env)) (backToKw pos (keywordEach [] env)))) :
    Ev prog w A r h₀ env C ρ (.Call (.Attribute o name apos) es [] pos) res := .mk fun s S => by
  refine methodCall_KW (ho.use S fun u s₁ k₁ S₁ e => ?_) he
  cases e
  obtain ⟨ox, od, I₁, l⟩ := I s₁ S₁
  refine method_fn (gnd_s G S₁).X I₁ M.ga M.gx M.hf M.ht (by show Option.map _ (lookIn name od) = _; rw [l, hm]; rfl) ?_
  exact cw hst (fun s S => keeps_K M.hk _ (gnd_s G S).X) y S₁ fun us s' k' S' a' => fn_use (us := .ref x :: us) hF S' (kp_trans k₁ k') ⟨rfl, a'⟩
/-- an attribute of such an object -/
theorem ev_attr {x Cc : Addr} {m : Str → Option Value} {o : Expr} {name : Str} {pos : Pos} {v : Value} (G : Gnd K mg mb h₀) (ho : Ev prog w A r h₀ env C ρ o (.val (.ref x))) (I : ∀ s, St r h₀ env C ρ s → Inst s.heap x Cc m) (M : ClsFree K Cc name) (hm : m name = some v) (hv : handedIn v = true)
    (he : eval (.Attribute o name pos) env = (do
      let ov ← eval o env
      standAt pos.atName
      let r ← holding [ov] (getAttr ov name true)
      letTemporaryGo o ov r
      pure r)) : Ev prog w A r h₀ env C ρ (.Attribute o name pos) (.val v) := .mk fun s S => by
  refine Attribute_any_ (ho.use S fun u s₁ k₁ S₁ e => ?_) he
  cases e
  obtain ⟨ox, od, I₁, l⟩ := I s₁ S₁
  exact get_value (gnd_s G S₁).X I₁ M.ga (findObj_own M.hd M.hf rfl (by rw [l, hm])) hv ⟨kp_trans k₁ (kp_tok s₁ _), rfl⟩

/-! items -/
theorem ev_item {l i : Expr} {pos : Pos} {ds : List PyData} {k : Int} {d : PyData} (x : Ev prog w A r h₀ env C ρ l (.dat (.list ds))) (y : Ev prog w A r h₀ env C ρ i (.dat (.int k))) (h0 : 0 ≤ k) (h1 : k < 2 ^ 63) (hd : ds[k.toNat]? = some d)
    (hs : ∀ o u, subscripted i false (.ref o) (.int k u) = operate [.ref o, .int k u] (getItem (.ref o) (.int k u))) : Ev prog w A r h₀ env C ρ (.Subscript l i pos) (.dat d) := .mk fun s S =>
  Subscript_ (ev_two x y S fun u v s' k' S' hu hv => by
    obtain ⟨a, vs, nn, rfl, e, R⟩ := Rd.getList hu
    obtain ⟨t, rfl⟩ := Rd.getInt hv
    obtain ⟨z, hz, rz⟩ := R.get hd
    have L := isList_of (vis_sub _ _ _ e)
    exact tail_any L.typeIs slot_list_getitem.lookup (wpAny_getItem_list L h0 h1 (by simpa using hz) ⟨k', rz⟩) (hs a t))
theorem ev_itemN {l i : Expr} {pos : Pos} {ds : List PyData} {k : Int} {d : PyData} (x : Ev prog w A r h₀ env C ρ l (.dat (.list ds))) (y : Ev prog w A r h₀ env C ρ i (.dat (.int k))) (h0 : k < 0) (h1 : -(ds.length : Int) ≤ k) (h2 : -2 ^ 63 ≤ k) (hd : ds[(k + ds.length).toNat]? = some d)
    (hs : ∀ o u, subscripted i false (.ref o) (.int k u) = operate [.ref o, .int k u] (getItem (.ref o) (.int k u))) : Ev prog w A r h₀ env C ρ (.Subscript l i pos) (.dat d) := .mk fun s S =>
  Subscript_ (ev_two x y S fun u v s' k' S' hu hv => by
    obtain ⟨a, vs, nn, rfl, e, R⟩ := Rd.getList hu
    obtain ⟨t, rfl⟩ := Rd.getInt hv
    obtain ⟨z, hz, rz⟩ := R.get hd
    have L := isList_of (vis_sub _ _ _ e)
    have hl : vs.size = ds.length := by have := R.length; simpa using this
    exact tail_any L.typeIs slot_list_getitem.lookup (wpAny_getItem_list_neg L h0 (by rw [hl]; exact h1) h2 (by rw [hl]; simpa using hz) ⟨k', rz⟩) (hs a t))

/-! slices -/
theorem ev_upto {l i : Expr} {p pos : Pos} {ds : List PyData} {k : Nat} (x : Ev prog w A r h₀ env C ρ l (.dat (.list ds))) (y : Ev prog w A r h₀ env C ρ i (.dat (.int (k : Int)))) (hz : ds.length ≤ sizeLine) (ht : ∀ o r, letTemporaryGo l o r = pure ()) :
    Ev prog w A r h₀ env C ρ (.Subscript l (.Slice none (some i) none p) pos) (.dat (.list (ds.take k))) := .mk fun s S =>
  wpAny_Subscript_list_slice (x.use S fun u s₁ k₁ S₁ hu => by
    rw [evalPart_none, evalPart_some]
    refine wpAny_pure (y.use S₁ fun v s₂ k₂ S₂ hv => ?_)
    obtain ⟨a, vs, nn, rfl, e, R⟩ := Rd.getList (Rd.mono (vis_mono (kp_sub k₂)) hu)
    obtain ⟨t, rfl⟩ := Rd.getInt hv
    have hl : vs.size = ds.length := by have := R.length; simpa using this
    refine ⟨a, vs, none, some (k : Int), rfl, isList_of (vis_sub _ _ _ e), by rw [hl]; exact hz, .none, .int _ _, kp_trans (kp_trans k₁ k₂) (kp_heap ((Sub.push _ _).trans (Sub.push _ _))), ?_⟩
    rw [slicePick_upto']
    have hn := vis_new S₂ (h' := (s₂.heap.push { cls := .type "slice", data := .fields #[.none, .int k t, .none] }).push { cls := .type "list", data := .seq (vs.toList.take k).toArray }) (Nat.le_succ _) (by
      have := Heap.get?_push_size (s₂.heap.push { cls := .type "slice", data := .fields #[.none, .int k t, .none] }) (o := { cls := .type "list", data := .seq (vs.toList.take k).toArray }) rfl
      rw [Heap.size_push] at this; exact this)
    exact Rd.list hn (by simpa using RdAll.mono (vis_mono ((Sub.push _ _).trans (Sub.push _ _))) (R.take k))) ht
theorem ev_from {l i : Expr} {p pos : Pos} {ds : List PyData} {k : Nat} (x : Ev prog w A r h₀ env C ρ l (.dat (.list ds))) (y : Ev prog w A r h₀ env C ρ i (.dat (.int (k : Int)))) (hz : ds.length ≤ sizeLine) (ht : ∀ o r, letTemporaryGo l o r = pure ()) :
    Ev prog w A r h₀ env C ρ (.Subscript l (.Slice (some i) none none p) pos) (.dat (.list (ds.drop k))) := .mk fun s S =>
  wpAny_Subscript_list_slice (x.use S fun u s₁ k₁ S₁ hu => by
    rw [evalPart_none, evalPart_some]
    refine y.use S₁ fun v s₂ k₂ S₂ hv => wpAny_pure ?_
    obtain ⟨a, vs, nn, rfl, e, R⟩ := Rd.getList (Rd.mono (vis_mono (kp_sub k₂)) hu)
    obtain ⟨t, rfl⟩ := Rd.getInt hv
    have hl : vs.size = ds.length := by have := R.length; simpa using this
    refine ⟨a, vs, some (k : Int), none, rfl, isList_of (vis_sub _ _ _ e), by rw [hl]; exact hz, .int _ _, .none, kp_trans (kp_trans k₁ k₂) (kp_heap ((Sub.push _ _).trans (Sub.push _ _))), ?_⟩
    rw [slicePick_from']
    have hn := vis_new S₂ (h' := (s₂.heap.push { cls := .type "slice", data := .fields #[.int k t, .none, .none] }).push { cls := .type "list", data := .seq (vs.toList.drop k).toArray }) (Nat.le_succ _) (by
      have := Heap.get?_push_size (s₂.heap.push { cls := .type "slice", data := .fields #[.int k t, .none, .none] }) (o := { cls := .type "list", data := .seq (vs.toList.drop k).toArray }) rfl
      rw [Heap.size_push] at this; exact this)
    exact Rd.list hn (by simpa using RdAll.mono (vis_mono ((Sub.push _ _).trans (Sub.push _ _))) (R.drop k))) ht

/-- two lists, one behind the other -/
theorem ev_addL {l rr : Expr} {pos : Pos} {ds es : List PyData} (x : Ev prog w A r h₀ env C ρ l (.dat (.list ds))) (y : Ev prog w A r h₀ env C ρ rr (.dat (.list es))) (hz : ds.length + es.length ≤ sizeLine) :
    Ev prog w A r h₀ env C ρ (.BinOp l .Add rr pos) (.dat (.list (ds ++ es))) :=
  ev_bin x y fun u v s S hu hv => by
    obtain ⟨a, vs, nn, rfl, e, R⟩ := Rd.getList hu
    obtain ⟨b, ws, mm, rfl, e', R'⟩ := Rd.getList hv
    have h1 : vs.size = ds.length := by have := R.length; simpa using this
    have h2 : ws.size = es.length := by have := R'.length; simpa using this
    have g1 := vis_sub _ _ _ e
    have g2 := vis_sub _ _ _ e'
    refine concat_meets ⟨_, g1, rfl⟩ ⟨_, g2, rfl⟩ noFill_list_add seq_list_add PySem.F.slot_list_add PySem.F.entry_list_add (PySem.F.args_list_add_2 _ _) (list_addW a b vs ws nn mm none none #[] #[] (by rw [h1, h2]; exact hz)) ⟨g1, g2, ?_⟩
    refine ⟨kp_heap (Sub.push _ _), Rd.list (vis_push S _) ?_⟩
    rw [Array.toList_append]
    exact RdAll.append (R'.mono (vis_mono (Sub.push _ _))) (R.mono (vis_mono (Sub.push _ _)))

/-! built-ins -/
theorem fn_len {h : Heap} {ds : List PyData} (hz : ds.length < 2 ^ 62) : Fn prog w A h (.builtin "len") [.dat (.list ds)] (.dat (.int ds.length)) := .mk fun s us k x => by
  match us, x with
  | [u], x =>
    obtain ⟨a, vs, nn, rfl, e, R⟩ := Rd.getList x.1
    have h1 : vs.size = ds.length := by have := R.length; simpa using this
    refine len_list (isList_of e) (by rw [h1]; omega) ⟨kp_tok s _, ?_⟩
    rw [h1]; exact RdN.int _ _ _ _
end
end

section

noncomputable def upd (ρ : Rho) (x : Str) (a : Ab) : Rho := fun y => if y = x then some a else ρ y

section
variable {prog : Program} {w : World} {A : Around} {r : Shared} {h₀ : Heap} {env : Env} {C : List (Addr × Obj)} {ρ : Rho} {s : Shared} {K : Frag} {mg mb : Str → Option Value} {n : Nat}

theorem mu_cells (hn : (mu env C).Nodup) {x c : Addr × Unit} : True := trivial
theorem mu_loc_cell (hn : (mu env C).Nodup) {x : Str} {c : Addr} (hc : (x, c) ∈ env.cells) : c ≠ env.locals := by
  intro e
  have := (List.nodup_cons.mp hn).1
  exact this (List.mem_append_left _ (e ▸ List.mem_map.mpr ⟨(x, c), hc, rfl⟩))
theorem mu_loc_obj (hn : (mu env C).Nodup) {p : Addr × Obj} (hp : p ∈ C) : p.1 ≠ env.locals := by
  intro e
  have := (List.nodup_cons.mp hn).1
  exact this (List.mem_append_right _ (e ▸ List.mem_map.mpr ⟨p, hp, rfl⟩))
theorem mu_cell_obj (hn : (mu env C).Nodup) {x : Str} {c : Addr} (hc : (x, c) ∈ env.cells) {p : Addr × Obj} (hp : p ∈ C) : p.1 ≠ c := by
  intro e
  have := (List.nodup_append.mp (List.nodup_cons.mp hn).2).2.2
  exact this c (List.mem_map.mpr ⟨(x, c), hc, rfl⟩) p.1 (List.mem_map.mpr ⟨p, hp, rfl⟩) e.symm
theorem nodup_snd {l : List (Str × Addr)} (hn : (l.map (·.2)).Nodup) {x y : Str} {c : Addr} (hx : (x, c) ∈ l) (hy : (y, c) ∈ l) : x = y := by
  induction l with
  | nil => cases hx
  | cons p l ih =>
    obtain ⟨h1, h2⟩ := List.nodup_cons.mp hn
    rcases List.mem_cons.mp hx with e | hx <;> rcases List.mem_cons.mp hy with e' | hy
    · rw [← e'] at e; exact (Prod.mk.inj e).1
    · exact absurd (List.mem_map.mpr ⟨_, hy, by rw [← e]⟩) h1
    · exact absurd (List.mem_map.mpr ⟨_, hx, by rw [← e']⟩) h1
    · exact ih h2 hx hy
theorem mu_cell_cell (hn : (mu env C).Nodup) {x y : Str} {c : Addr} (hx : (x, c) ∈ env.cells) (hy : (y, c) ∈ env.cells) : x = y := nodup_snd (List.nodup_append.mp (List.nodup_cons.mp hn).2).1 hx hy

/-- a name can be stored -/
noncomputable def Stores (env : Env) (x : Str) : Prop := env.kindOf x = some .local ∨ (env.kindOf x = some .cell ∧ (env.cells.lookup x).isSome = true)
theorem st_store {x : Str} {a : Ab} {u : Value} {Q : Unit → Shared → Prop} {E : Value → Shared → Prop} {M : Model} (F : Fe env) (S : St r h₀ env C ρ s) (hx : Stores env x) (hu : a.of (vis env C s.heap) u)
    (k : ∀ s', St r h₀ env C (upd ρ x a) s' → Sub (vis env C s.heap) (vis env C s'.heap) → (∀ b o, b ∉ env.locals :: env.cells.map (·.2) → s.heap.get? b = some o → s'.heap.get? b = some o) → Q () s') : wpAny M A (storeName env x u) Q E s := by
  obtain ⟨h, tk, e⟩ := S.same
  obtain ⟨m, hn, hv⟩ := S.ns
  rcases hx with hx | ⟨hx, hc⟩
  · refine wpAny_storeName_local hx hn (fun h' hn' hs => ?_) (by rw [F.kind]; rfl)
    have hm : Sub (vis env C s.heap) (vis env C h') := hide_mono fun b o hb e => hs.extBut b o (fun q => hb (q ▸ List.mem_cons_self)) e
    refine k _ ⟨⟨h', _, by rw [e]⟩, S.base.trans hm, ⟨_, hn', fun y b hy => ?_⟩, fun y c hc => ?_, fun p hp => ?_, S.apart⟩ hm fun b o hb e => hs.extBut b o (fun q => hb (q ▸ List.mem_cons_self)) e
    · by_cases hyx : y = x
      · subst hyx
        unfold upd at hy; rw [if_pos rfl] at hy; cases hy
        exact ⟨u, .inl ⟨hx, by simp⟩, Ab.mono hm hu⟩
      · unfold upd at hy; rw [if_neg hyx] at hy
        obtain ⟨z, v, q⟩ := hv y b hy
        refine ⟨z, ?_, Ab.mono hm q⟩
        rcases v with ⟨a1, a2⟩ | ⟨a1, c, a2, a3⟩
        · exact .inl ⟨a1, by simp [hyx, a2]⟩
        · exact .inr ⟨a1, c, a2, a3.sameBut hs (mu_loc_cell S.apart (mem_of_lookup a2))⟩
    · obtain ⟨v, q⟩ := S.cell y c hc
      exact ⟨v, q.sameBut hs (mu_loc_cell S.apart hc)⟩
    · exact (hs.2 p.1 (mu_loc_obj S.apart hp)).trans (S.obj p hp)
  · obtain ⟨c, hc⟩ := Option.isSome_iff_exists.mp hc
    have hcm := mem_of_lookup hc
    obtain ⟨v₀, hv₀⟩ := S.cell x c hcm
    refine wpAny_storeName_cell F.kind hx hc hv₀ fun h' hc' hs => ?_
    have hcmu : c ∈ mu env C := List.mem_cons_of_mem _ (List.mem_append_left _ (List.mem_map.mpr ⟨_, hcm, rfl⟩))
    have hm : Sub (vis env C s.heap) (vis env C h') := hide_mono fun b o hb e => hs.extBut b o (fun q => hb (q ▸ hcmu)) e
    refine k _ ⟨⟨h', s.toks, by rw [e]⟩, S.base.trans hm, ⟨m, hn.sameBut hs (Ne.symm (mu_loc_cell S.apart hcm)), fun y b hy => ?_⟩, fun y c' hc'' => ?_, fun p hp => ?_, S.apart⟩ hm fun b o hb e => hs.extBut b o (fun q => hb (q ▸ List.mem_cons_of_mem _ (List.mem_map.mpr ⟨_, hcm, rfl⟩))) e
    · by_cases hyx : y = x
      · subst hyx
        unfold upd at hy; rw [if_pos rfl] at hy; cases hy
        exact ⟨u, .inr ⟨hx, c, hc, hc'⟩, Ab.mono hm hu⟩
      · unfold upd at hy; rw [if_neg hyx] at hy
        obtain ⟨z, v, q⟩ := hv y b hy
        refine ⟨z, ?_, Ab.mono hm q⟩
        rcases v with ⟨a1, a2⟩ | ⟨a1, c', a2, a3⟩
        · exact .inl ⟨a1, a2⟩
        · exact .inr ⟨a1, c', a2, a3.sameBut hs fun q => hyx (mu_cell_cell S.apart (mem_of_lookup a2) (q ▸ hcm))⟩
    · obtain ⟨v, q⟩ := S.cell y c' hc''
      by_cases hcc : c' = c
      · subst hcc; exact ⟨_, hc'⟩
      · exact ⟨v, q.sameBut hs hcc⟩
    · exact (hs.2 p.1 (mu_cell_obj S.apart hcm hp)).trans (S.obj p hp)

/-! statements -/
structure Ex (prog : Program) (w : World) (A : Around) (r : Shared) (h₀ : Heap) (env : Env) (C : List (Addr × Obj)) (ρ : Rho) (ss : List Stmt) (Q : Flow → Shared → Prop) : Prop where
  go : ∀ s, St r h₀ env C ρ s → wpAny (model prog w) A (execs ss env) Q (fun _ _ => False) s
theorem ex_nil {Q : Flow → Shared → Prop} (h : ∀ s, St r h₀ env C ρ s → Q .next s) : Ex prog w A r h₀ env C ρ [] Q := .mk fun s S => wpAny_execs_nil (h s S)
theorem ex_assign {x : Str} {xp pos : Pos} {e : Expr} {a : Ab} {rest : List Stmt} {Q : Flow → Shared → Prop} (F : Fe env) (hx : Stores env x) (y : Ev prog w A r h₀ env C ρ e a)
    (hs : swapsWith e (some (.Name x xp)) pos.line env = pure false) (k : Ex prog w A r h₀ env C (upd ρ x a) rest Q) : Ex prog w A r h₀ env C ρ (.Assign [.Name x xp] e pos :: rest) Q := .mk fun s S =>
  wpAny_execs_cons (wpAny_Assign_Name (y.use S fun u s₁ k₁ S₁ hu => st_store F S₁ hx hu fun s' S' _ _ => k.go s' S') hs)
theorem ex_ret {e : Expr} {pos : Pos} {a : Ab} {rest : List Stmt} {Q : Flow → Shared → Prop} (y : Ev prog w A r h₀ env C ρ e a) (k : ∀ u s, St r h₀ env C ρ s → a.of (vis env C s.heap) u → Q (.ret u) s) : Ex prog w A r h₀ env C ρ (.Return (some e) pos :: rest) Q := .mk fun s S =>
  wpAny_execs_cons (wpAny_Return_some (y.use S fun u s₁ k₁ S₁ hu => k u s₁ S₁ hu))
noncomputable def Then (prog : Program) (w : World) (A : Around) (env : Env) (rest : List Stmt) (Q : Flow → Shared → Prop) : Flow → Shared → Prop
  | .next, s => wpAny (model prog w) A (execs rest env) Q (fun _ _ => False) s
  | .ret v, s => Q (.ret v) s
  | .brk, s => Q .brk s
  | .cont, s => Q .cont s
theorem ex_then {ss rest : List Stmt} {Q : Flow → Shared → Prop} {st : Stmt} (h : ∀ s, St r h₀ env C ρ s → wpAny (model prog w) A (exec st env) (Then prog w A env rest Q) (fun _ _ => False) s) : Ex prog w A r h₀ env C ρ (st :: rest) Q := .mk fun s S =>
  wpAny_execs_cons (wpAny_mono (h s S) (fun f s' x => by cases f <;> exact x) fun _ _ x => x)
theorem ex_if {t : Expr} {b : Bool} {body orelse rest : List Stmt} {pos : Pos} {Q : Flow → Shared → Prop} (h : Tt prog w A r h₀ env C ρ t b) (k₁ : b = true → Ex prog w A r h₀ env C ρ body (Then prog w A env rest Q)) (k₂ : b = false → Ex prog w A r h₀ env C ρ orelse (Then prog w A env rest Q)) :
    Ex prog w A r h₀ env C ρ (.If t body orelse pos :: rest) Q := ex_then (ss := []) fun s S =>
  wpAny_If (h.use S fun s' k S' => by
    cases b with
    | true => rw [if_pos rfl]; exact (k₁ rfl).go s' S'
    | false => rw [if_neg (by decide)]; exact (k₂ rfl).go s' S')
/-- behind an if -/
theorem ex_go {rest : List Stmt} {Q : Flow → Shared → Prop} (k : Ex prog w A r h₀ env C ρ rest Q) : Ex prog w A r h₀ env C ρ [] (Then prog w A env rest Q) := ex_nil fun s S => k.go s S
theorem Ex.mono {ss : List Stmt} {Q Q' : Flow → Shared → Prop} (x : Ex prog w A r h₀ env C ρ ss Q) (h : ∀ f s, Q f s → Q' f s) : Ex prog w A r h₀ env C ρ ss Q' := .mk fun s S => wpAny_mono (x.go s S) h fun _ _ f => f
end

/-! entering a def -/
theorem bindL_not {kindOf : Str → Option NameKind} : ∀ {binds : List (Str × Value)} {m : Str → Option Value} {x : Str}, x ∉ binds.map (·.1) → bindL kindOf binds m x = m x
  | [], m, x, _ => rfl
  | (n, v) :: r, m, x, h => by
    have h1 : x ≠ n := fun e => h (e ▸ List.mem_cons_self)
    unfold bindL
    rw [bindL_not fun q => h (List.mem_cons_of_mem _ q)]
    split
    · simp [h1]
    · rfl
theorem bindC_not {kindOf : Str → Option NameKind} : ∀ {binds : List (Str × Value)} {m : Str → Option Value} {x : Str}, x ∉ binds.map (·.1) → bindC kindOf binds m x = m x
  | [], m, x, _ => rfl
  | (n, v) :: r, m, x, h => by
    have h1 : x ≠ n := fun e => h (e ▸ List.mem_cons_self)
    unfold bindC
    rw [bindC_not fun q => h (List.mem_cons_of_mem _ q)]
    split
    · rfl
    · simp [h1]
theorem bindL_at {kindOf : Str → Option NameKind} : ∀ {binds : List (Str × Value)} {m : Str → Option Value} {x : Str} {v : Value}, (binds.map (·.1)).Nodup → (x, v) ∈ binds → kindOf x = some .local → bindL kindOf binds m x = some v
  | (n, u) :: r, m, x, v, hn, hm, hk => by
    obtain ⟨h1, h2⟩ := List.nodup_cons.mp hn
    unfold bindL
    rcases List.mem_cons.mp hm with e | hm
    · cases e
      rw [bindL_not h1, if_pos hk]; simp
    · exact bindL_at h2 hm hk
theorem bindC_at {kindOf : Str → Option NameKind} : ∀ {binds : List (Str × Value)} {m : Str → Option Value} {x : Str} {v : Value}, (binds.map (·.1)).Nodup → (x, v) ∈ binds → kindOf x ≠ some .local → bindC kindOf binds m x = some v
  | (n, u) :: r, m, x, v, hn, hm, hk => by
    obtain ⟨h1, h2⟩ := List.nodup_cons.mp hn
    unfold bindC
    rcases List.mem_cons.mp hm with e | hm
    · cases e
      rw [bindC_not h1, if_neg hk]; simp
    · exact bindC_at h2 hm hk

noncomputable def rhoOf (names : List Str) (as : List Ab) : Rho := fun x => (names.zip as).lookup x
theorem rho_value {h : Heap} : ∀ {names : List Str} {us : List Value} {as : List Ab} {x : Str} {a : Ab}, AllOf h us as → (names.zip as).lookup x = some a → ∃ u, (x, u) ∈ names.zip us ∧ a.of h u
  | [], _, _, x, a, _, e => by simp at e
  | _ :: _, [], [], x, a, _, e => by simp at e
  | _ :: _, [], _ :: _, x, a, h, e => h.elim
  | _ :: _, _ :: _, [], x, a, h, e => h.elim
  | n :: names, u :: us, b :: as, x, a, h, e => by
    rw [List.zip_cons_cons, List.lookup_cons] at e
    split at e
    · rename_i q
      cases e
      rw [beq_iff_eq] at q
      subst q
      exact ⟨u, List.mem_cons_self, h.1⟩
    · obtain ⟨v, m, q⟩ := rho_value h.2 e
      exact ⟨v, List.mem_cons_of_mem _ m, q⟩

theorem zip_fst_nodup {β : Type} : ∀ {names : List Str} {xs : List β}, names.Nodup → ((names.zip xs).map (·.1)).Nodup
  | [], _, _ => by simp
  | _ :: _, [], _ => by simp
  | n :: names, x :: xs, h => by
    obtain ⟨h1, h2⟩ := List.nodup_cons.mp h
    rw [List.zip_cons_cons, List.map_cons]
    refine List.nodup_cons.mpr ⟨fun q => ?_, zip_fst_nodup h2⟩
    obtain ⟨p, hp, e⟩ := List.mem_map.mp q
    have e' : p.1 = n := e
    exact h1 (e' ▸ (List.of_mem_zip hp).1)
/-- a def of the text, as it lies at the top -/
structure DefAt (K : Frag) (f : Addr) (fd : FuncData) (body : List Stmt) : Prop where
  at_ : ∃ oc od osl, K.lookup f = some ⟨oc, od, .func fd, osl⟩
  code : codeIn K fd.code fd.qualname = true
  body : fd.body = .stmts body
  clo : fd.closure = []
  kind : fd.scope.kind = .function
  co : fd.scope.isCoroutine = false
  gen : fd.scope.isGenerator = false
  glob : fd.globals = mainGlobals
  blt : fd.builtins = builtinsNs
/-- what a call gives back -/
noncomputable def RetQ (s₀ : Shared) (res : Ab) (f : Flow) (s' : Shared) : Prop := Keeps s₀ s' ∧ res.ofN s₀.heap s'.heap (match f with | .ret v => v | _ => .none)

section
variable {prog : Program} {w : World} {A : Around} {r : Shared} {h₀ : Heap} {env : Env} {C : List (Addr × Obj)} {ρ : Rho} {s : Shared}
theorem St.kp (S : St r r.heap env C ρ s) : Keeps r s := by
  obtain ⟨h, tk, e⟩ := S.same
  refine ⟨h, tk, e, fun b o q => ?_⟩
  have := base_s S b o q
  rw [e] at this; exact this
theorem Rd.flatB {h h' h'' : Heap} {u : Value} {b : Bool} (x : Rd h u (.bool b)) : RdN h' h'' u (.bool b) := by cases x; exact RdN.bool _ _ _
theorem Rd.flatI {h h' h'' : Heap} {u : Value} {b : Int} (x : Rd h u (.int b)) : RdN h' h'' u (.int b) := by cases x; exact RdN.int _ _ _ _
theorem Rd.flatS {h h' h'' : Heap} {u : Value} {b : Str} (x : Rd h u (.str b)) : RdN h' h'' u (.str b) := by cases x; exact RdN.str _ _ _ _
theorem ex_retB {e : Expr} {pos : Pos} {b b' : Bool} {rest : List Stmt} {Q : Flow → Shared → Prop} (y : Ev prog w A r r.heap env C ρ e (.dat (.bool b'))) (hb : b' = b) (hQ : ∀ u s, RetQ r (.dat (.bool b)) (.ret u) s → Q (.ret u) s) :
    Ex prog w A r r.heap env C ρ (.Return (some e) pos :: rest) Q := ex_ret y fun u s S hu => hQ u s ⟨S.kp, by subst hb; exact Rd.flatB hu⟩
theorem ex_retI {e : Expr} {pos : Pos} {b b' : Int} {rest : List Stmt} {Q : Flow → Shared → Prop} (y : Ev prog w A r r.heap env C ρ e (.dat (.int b'))) (hb : b' = b) (hQ : ∀ u s, RetQ r (.dat (.int b)) (.ret u) s → Q (.ret u) s) :
    Ex prog w A r r.heap env C ρ (.Return (some e) pos :: rest) Q := ex_ret y fun u s S hu => hQ u s ⟨S.kp, by subst hb; exact Rd.flatI hu⟩
theorem ex_retS {e : Expr} {pos : Pos} {b b' : Str} {rest : List Stmt} {Q : Flow → Shared → Prop} (y : Ev prog w A r r.heap env C ρ e (.dat (.str b'))) (hb : b' = b) (hQ : ∀ u s, RetQ r (.dat (.str b)) (.ret u) s → Q (.ret u) s) :
    Ex prog w A r r.heap env C ρ (.Return (some e) pos :: rest) Q := ex_ret y fun u s S hu => hQ u s ⟨S.kp, by subst hb; exact Rd.flatS hu⟩
end
theorem fn_def {prog : Program} {w : World} {A : Around} {h : Heap} {K : Frag} {mg mb : Str → Option Value} {n : Nat} {f : Addr} {fd : FuncData} {body : List Stmt} {names : List Str} {as : List Ab} {args : List Ab} {res : Ab} {more : List Value}
    (D : DefAt K f fd body) (G : Gnd K mg mb h) (R : Room A (n + 1)) (hb : ∀ s us, Sub h s.heap → us.length = args.length → BindsTo s fd ⟨us, []⟩ (names.zip (us ++ more))) (hm : ∀ hp, AllOf hp more (as.drop args.length)) (ha : args = as.take args.length)
    (hnd : names.Nodup) (hcl : ((cellsFrom 0 fd.scope.names []).map (·.1)).Nodup)
    (hk' : ∀ L, (names.all fun x => decide (fd.scope.names.lookup x = some .local) || (decide (fd.scope.names.lookup x = some .cell) && ((cellsFrom L fd.scope.names []).lookup x).isSome)) = true)
    (body_ok : ∀ (s₀ : Shared) (L : Addr), Sub h s₀.heap → Gnd K mg mb s₀.heap → Room (A.deeper (callEnvC fd L f)) n → Fe (callEnvC fd L f) →
      Ex prog w (A.deeper (callEnvC fd L f)) s₀ s₀.heap (callEnvC fd L f) [] (rhoOf names as) body (RetQ s₀ res)) : Fn prog w A h (.ref f) args res := .mk fun s us k x => by
  have G' := G.mono k
  have hk : ∀ L, ∀ x ∈ names, fd.scope.names.lookup x = some .local ∨ (fd.scope.names.lookup x = some .cell ∧ ((cellsFrom L fd.scope.names []).lookup x).isSome = true) := fun L x hx => by
    have := List.all_eq_true.mp (hk' L) x hx
    simpa using this
  clear hk'
  obtain ⟨oc, od, osl, hK⟩ := D.at_
  have hl : us.length = args.length := by
    clear hb hm ha hk body_ok
    induction us generalizing args with
    | nil => cases args with | nil => rfl | cons _ _ => exact x.elim
    | cons u us ih => cases args with | nil => exact x.elim | cons a as => simp [ih x.2]
  have x' : AllOf s.heap (us ++ more) as := by
    have y := hm s.heap
    rw [ha] at x
    have : as = as.take args.length ++ as.drop args.length := (List.take_append_drop _ _).symm
    rw [this]
    clear this ha hk body_ok hb hm
    generalize as.take args.length = a1 at x
    generalize as.drop args.length = a2 at y
    clear hl
    induction us generalizing a1 with
    | nil => cases a1 with | nil => exact y | cons _ _ => exact x.elim
    | cons u us ih => cases a1 with | nil => exact x.elim | cons a as => exact ⟨x.1, ih _ x.2⟩
  refine wpAny_call (codeAny_call_function (by have := R.d; omega) (G'.X _ _ hK) rfl D.co D.gen D.body (codeRec_of G'.X D.code) (hb s us k hl _ _ _ _ ?_))
  rw [D.clo]
  refine wpAny_newFunctionEnv_cells D.kind (fun y hy => ?_) fun env he s' X => ?_
  · have : y.1 ∈ names := (List.of_mem_zip hy).1
    exact hk _ _ this
  · have he' : env = callEnvC fd s.heap.objs.size f := he
    have F : Fe (callEnvC fd s.heap.objs.size f) := ⟨D.kind, D.glob, D.blt⟩
    subst he'
    refine ⟨G'.nolimit.keeps X.toInCall.keep, codeAny_func ?_⟩
    have SS : St s s.heap (callEnvC fd s.heap.objs.size f) [] (rhoOf names as) s' := by
      have fresh : ∀ a o, s.heap.get? a = some o → a ∉ mu (callEnvC fd s.heap.objs.size f) [] := fun a o e hm => by
        have lt := Heap.lt_size e
        rcases List.mem_cons.mp hm with q | hm
        · exact Nat.lt_irrefl _ (q ▸ lt)
        · rcases List.mem_append.mp hm with hm | hm
          · obtain ⟨p, hp, q⟩ := List.mem_map.mp hm
            have := X.above p.1 p.2 hp
            have z : s.heap.objs.size < p.2 := this
            have q' : p.2 = a := q
            exact Nat.lt_irrefl _ (Nat.lt_trans z (q' ▸ lt))
          · cases hm
      have base : Sub s.heap (vis (callEnvC fd s.heap.objs.size f) [] s'.heap) := fun a o e => hideAll_get _ (X.toInCall.keep a o e) (fresh a o e)
      refine ⟨X.toInCall.same, base, ⟨_, X.toInCall.ns, fun y a hy => ?_⟩, fun y c hc => ?_, fun p hp => (nomatch hp), ?_⟩
      · obtain ⟨u, hmem, q⟩ := rho_value x' hy
        refine ⟨u, ?_, Ab.mono base q⟩
        have hzip : ((names.zip (us ++ more)).map (·.1)).Nodup := zip_fst_nodup hnd
        rcases hk (s.heap.objs.size + 1) y (List.of_mem_zip hmem).1 with h1 | ⟨h1, h2⟩
        · exact .inl ⟨h1, bindL_at hzip hmem h1⟩
        · obtain ⟨c, hc⟩ := Option.isSome_iff_exists.mp h2
          have hnl : (callEnvC fd s.heap.objs.size f).kindOf y ≠ some .local := by
            intro q
            have : fd.scope.names.lookup y = some .local := q
            rw [h1] at this; cases this
          refine .inr ⟨h1, c, hc, ?_⟩
          have := X.cell y c hc
          rw [bindC_at hzip hmem hnl] at this
          exact this
      · have hcn : ((cellsFrom (s.heap.objs.size + 1) fd.scope.names []).map (·.1)).Nodup := cellsFrom_names fd.scope.names 0 (s.heap.objs.size + 1) [] [] rfl ▸ hcl
        exact ⟨_, X.cell y c (lookup_of_mem_nodup hcn hc)⟩
      · refine List.nodup_cons.mpr ⟨fun q => ?_, ?_⟩
        · rcases List.mem_append.mp q with q | q
          · obtain ⟨p, hp, e⟩ := List.mem_map.mp q
            exact absurd (X.above p.1 p.2 hp) (by rw [e]; exact Nat.lt_irrefl _)
          · cases q
        · rw [show (([] : List (Addr × Obj)).map (·.1)) = [] from rfl, List.append_nil]
          exact List.pairwise_map.mpr X.apart
    refine wpAny_mono ((body_ok s _ k G' R.deeper F).go s' SS) (fun fl s'' h => ?_) fun _ _ f => f.elim
    cases fl <;> exact h
end

section

/-- the iterator's own objects, as they stand -/
noncomputable def ownAt (wr : List Addr) (h : Heap) : List (Addr × Obj) := wr.map fun b => (b, (h.get? b).getD default)
theorem ownAt_fst (wr : List Addr) (h : Heap) : (ownAt wr h).map (·.1) = wr := by simp [ownAt, Function.comp_def]

/-- an iterator over n things -/
structure It (prog : Program) (w : World) (A : Around) (r : Shared) (h₀ : Heap) (env : Env) (C : List (Addr × Obj)) (ρ : Rho) (iter : Expr) (n : Nat) (item : Nat → Ab) : Prop where
  go : ∀ s, St r h₀ env C ρ s → wpAny (model prog w) A (eval iter env) (fun xv s₁ => wpAny (model prog w) A (pyIter xv) (fun it s₂ => Keeps s s₂ ∧ ∃ (I : Addr) (fp wr : List Addr) (P : Nat → Value → Prop) (Sx : Nat → Heap → Prop),
    it = .ref I ∧ Walks prog w A I fp wr n P Sx ∧ Sx 0 s₂.heap ∧ (∀ i h, Sx i h → ∀ b ∈ wr, ∃ o, h.get? b = some o) ∧ wr.Nodup ∧ (∀ b ∈ wr, s.heap.get? b = none) ∧ (∀ b ∈ fp, b ∉ mu env C ∧ b < s₂.heap.objs.size) ∧
    ∀ i v, i < n → P i v → (item i).of (hideAll s₂.heap (mu env C ++ wr)) v) (fun _ _ => False) s₁) (fun _ _ => False) s

section
variable {prog : Program} {w : World} {A : Around} {r : Shared} {h₀ : Heap} {env : Env} {C : List (Addr × Obj)} {ρ : Rho} {s : Shared} {K : Frag} {mg mb : Str → Option Value} {n : Nat}

theorem mu_of_none (S : St r h₀ env C ρ s) {a : Addr} (ha : s.heap.get? a = none) : a ∉ mu env C := fun q => by
  obtain ⟨o, e⟩ := mem_mu_some S q
  rw [ha] at e; cases e
theorem mem_mu_own {wr : List Addr} {h : Heap} {b : Addr} : b ∈ mu env (ownAt wr h ++ C) ↔ b ∈ mu env C ∨ b ∈ wr := by
  unfold mu
  simp only [List.map_append, ownAt_fst, List.mem_cons, List.mem_append]
  constructor
  · rintro (h | h | h | h)
    · exact .inl (.inl h)
    · exact .inl (.inr (.inl h))
    · exact .inr h
    · exact .inl (.inr (.inr h))
  · rintro ((h | h | h) | h)
    · exact .inl h
    · exact .inr (.inl h)
    · exact .inr (.inr (.inr h))
    · exact .inr (.inr (.inl h))
theorem nodup_own {wr : List Addr} {h : Heap} (hn : (mu env C).Nodup) (hw : wr.Nodup) (hd : ∀ b ∈ wr, b ∉ mu env C) : (mu env (ownAt wr h ++ C)).Nodup := by
  unfold mu at *
  obtain ⟨h1, h2⟩ := List.nodup_cons.mp hn
  obtain ⟨h3, h4, h5⟩ := List.nodup_append.mp h2
  rw [List.map_append, ownAt_fst]
  refine List.nodup_cons.mpr ⟨fun q => ?_, List.nodup_append.mpr ⟨h3, List.nodup_append.mpr ⟨hw, h4, ?_⟩, ?_⟩⟩
  · rcases List.mem_append.mp q with q | q
    · exact h1 (List.mem_append_left _ q)
    · rcases List.mem_append.mp q with q | q
      · exact hd _ q List.mem_cons_self
      · exact h1 (List.mem_append_right _ q)
  · intro a ha b hb e
    subst e
    exact hd a ha (List.mem_cons_of_mem _ (List.mem_append_right _ hb))
  · intro a ha b hb e
    subst e
    rcases List.mem_append.mp hb with q | q
    · exact hd a q (List.mem_cons_of_mem _ (List.mem_append_left _ ha))
    · exact h5 a ha a q rfl
theorem hide_eq {l l' : List Addr} (h : Heap) (e : ∀ b, b ∈ l ↔ b ∈ l') : Sub (hideAll h l) (hideAll h l') := fun b o q => hideAll_get _ (of_hideAll _ q) fun hm => hide_not q ((e b).mpr hm)

/-- the iterator's own objects are laid aside -/
theorem st_own {wr : List Addr} {g : Heap} (S : St r h₀ env C ρ s) (hw : wr.Nodup) (hd : ∀ b ∈ wr, b ∉ mu env C) (ho : ∀ b ∈ wr, ∃ o, s.heap.get? b = some o) (hg : Sub g (vis env (ownAt wr s.heap ++ C) s.heap))
    (hρ : ∀ x a, ρ x = some a → ∃ m u, s.heap.Ns env.locals m ∧ VarIs env m s.heap x u ∧ a.of (vis env (ownAt wr s.heap ++ C) s.heap) u) : St r g env (ownAt wr s.heap ++ C) ρ s := by
  obtain ⟨m, hn, _⟩ := S.ns
  refine ⟨S.same, hg, ⟨m, hn, fun x a e => ?_⟩, S.cell, fun p hp => ?_, nodup_own S.apart hw hd⟩
  · obtain ⟨m', u, hn', hv, hu⟩ := hρ x a e
    refine ⟨u, ?_, hu⟩
    have em : m' = m := by
      obtain ⟨o, es, ep, h1, h2, h3, h4⟩ := hn
      obtain ⟨o', es', ep', h1', h2', h3', h4'⟩ := hn'
      rw [h1] at h1'; cases h1'
      rw [h2] at h2'; cases h2'
      funext y; rw [← h4, ← h4']
    exact em ▸ hv
  · rcases List.mem_append.mp hp with hp | hp
    · obtain ⟨b, hb, rfl⟩ := List.mem_map.mp hp
      obtain ⟨o, e⟩ := ho b hb
      show s.heap.get? b = some ((s.heap.get? b).getD default)
      rw [e]; rfl
    · exact S.obj p hp
/-- a step of the iterator -/
theorem st_next {wr : List Addr} {g : Heap} {s' : Shared} (S : St r g env (ownAt wr s.heap ++ C) ρ s) (hs : ∃ h tk, s' = { s with heap := h, toks := tk }) (hd : ∀ b ∈ wr, b ∉ mu env C) (ho : ∀ b ∈ wr, ∃ o, s'.heap.get? b = some o)
    (hk : ∀ b o, b ∉ wr → s.heap.get? b = some o → s'.heap.get? b = some o) : St r g env (ownAt wr s'.heap ++ C) ρ s' := by
  obtain ⟨h', tk', rfl⟩ := hs
  obtain ⟨h, tk, e⟩ := S.same
  obtain ⟨m, hn, hv⟩ := S.ns
  have hloc : env.locals ∉ wr := fun q => hd _ q List.mem_cons_self
  have hcell : ∀ x c, (x, c) ∈ env.cells → c ∉ wr := fun x c hc q => hd _ q (List.mem_cons_of_mem _ (List.mem_append_left _ (List.mem_map.mpr ⟨_, hc, rfl⟩)))
  have hsub : Sub (vis env (ownAt wr s.heap ++ C) s.heap) (vis env (ownAt wr h' ++ C) h') := fun b o q => by
    have hb := hide_not q
    have hb' := fun z => hb (mem_mu_own.mpr z)
    refine hideAll_get _ (hk b o (fun z => hb' (.inr z)) (of_hideAll _ q)) fun z => hb' (mem_mu_own.mp z)
  have hcell' : ∀ c v, c ∉ wr → s.heap.IsCell c v → h'.IsCell c v := fun c v hc ⟨o, h1, h2⟩ => ⟨o, hk c o hc h1, h2⟩
  refine ⟨⟨h', tk', by rw [e]⟩, S.base.trans hsub, ⟨m, hn.at' fun o e => hk _ o hloc e, fun x a hx => ?_⟩, fun x c hc => ?_, fun p hp => ?_, ?_⟩
  · obtain ⟨u, v, q⟩ := hv x a hx
    refine ⟨u, ?_, Ab.mono hsub q⟩
    rcases v with v | ⟨a1, c, a2, a3⟩
    · exact .inl v
    · exact .inr ⟨a1, c, a2, hcell' c _ (hcell x c (mem_of_lookup a2)) a3⟩
  · obtain ⟨v, q⟩ := S.cell x c hc
    exact ⟨v, hcell' c v (hcell x c hc) q⟩
  · rcases List.mem_append.mp hp with hp | hp
    · obtain ⟨b, hb, rfl⟩ := List.mem_map.mp hp
      obtain ⟨o, e⟩ := ho b hb
      show h'.get? b = some ((h'.get? b).getD default)
      have e' : h'.get? b = some o := e
      rw [e']; rfl
    · exact hk _ _ (fun q => hd _ q (List.mem_cons_of_mem _ (List.mem_append_right _ (List.mem_map.mpr ⟨p, hp, rfl⟩)))) (S.obj p (List.mem_append_right _ hp))
  · have := S.apart
    unfold mu at *
    simp only [List.map_append, ownAt_fst] at *
    exact this
/-- it is done -/
theorem st_drop {wr : List Addr} {h : Heap} {g : Heap} (S : St r g env (ownAt wr h ++ C) ρ s) (hg : Sub h₀ g) : St r h₀ env C ρ s := by
  obtain ⟨m, hn, hv⟩ := S.ns
  have hsub : Sub (vis env (ownAt wr h ++ C) s.heap) (vis env C s.heap) := fun b o q => hideAll_get _ (of_hideAll _ q) fun z => hide_not q (mem_mu_own.mpr (.inl z))
  refine ⟨S.same, hg.trans (S.base.trans hsub), ⟨m, hn, fun x a hx => ?_⟩, S.cell, fun p hp => S.obj p (List.mem_append_right _ hp), ?_⟩
  · obtain ⟨u, v, q⟩ := hv x a hx
    exact ⟨u, v, Ab.mono hsub q⟩
  · have := S.apart
    unfold mu at *
    obtain ⟨h1, h2⟩ := List.nodup_cons.mp this
    rw [List.map_append] at h1 h2
    obtain ⟨h3, h4, h5⟩ := List.nodup_append.mp h2
    refine List.nodup_cons.mpr ⟨fun q => h1 ?_, List.nodup_append.mpr ⟨h3, (List.nodup_append.mp h4).2.1, fun a ha b hb => h5 a ha b (List.mem_append_right _ hb)⟩⟩
    rcases List.mem_append.mp q with q | q
    · exact List.mem_append_left _ q
    · exact List.mem_append_right _ (List.mem_append_right _ q)
theorem st_done {wr : List Addr} {g : Heap} {s' : Shared} (S : St r g env (ownAt wr s.heap ++ C) ρ s) (hg : Sub h₀ g) (hs : ∃ h tk, s' = { s with heap := h, toks := tk }) (hd : ∀ b ∈ wr, b ∉ mu env C)
    (hk : ∀ b o, b ∉ wr → s.heap.get? b = some o → s'.heap.get? b = some o) : St r h₀ env C ρ s' := by
  have D := st_drop S hg
  obtain ⟨h', tk', rfl⟩ := hs
  obtain ⟨h, tk, e⟩ := S.same
  obtain ⟨m, hn, hv⟩ := S.ns
  have hloc : env.locals ∉ wr := fun q => hd _ q List.mem_cons_self
  have hcell : ∀ x c, (x, c) ∈ env.cells → c ∉ wr := fun x c hc q => hd _ q (List.mem_cons_of_mem _ (List.mem_append_left _ (List.mem_map.mpr ⟨_, hc, rfl⟩)))
  have hsub : Sub (vis env (ownAt wr s.heap ++ C) s.heap) (vis env C h') := fun b o q => by
    have hb := hide_not q
    have hb' := fun z => hb (mem_mu_own.mpr z)
    exact hideAll_get _ (hk b o (fun z => hb' (.inr z)) (of_hideAll _ q)) fun z => hb' (.inl z)
  have hcell' : ∀ c v, c ∉ wr → s.heap.IsCell c v → h'.IsCell c v := fun c v hc ⟨o, h1, h2⟩ => ⟨o, hk c o hc h1, h2⟩
  refine ⟨⟨h', tk', by rw [e]⟩, hg.trans (S.base.trans hsub), ⟨m, hn.at' fun o e => hk _ o hloc e, fun x a hx => ?_⟩, fun x c hc => ?_, fun p hp => ?_, D.apart⟩
  · obtain ⟨u, v, q⟩ := hv x a hx
    refine ⟨u, ?_, Ab.mono hsub q⟩
    rcases v with v | ⟨a1, c, a2, a3⟩
    · exact .inl v
    · exact .inr ⟨a1, c, a2, hcell' c _ (hcell x c (mem_of_lookup a2)) a3⟩
  · obtain ⟨v, q⟩ := S.cell x c hc
    exact ⟨v, hcell' c v (hcell x c hc) q⟩
  · exact hk _ _ (fun q => hd _ q (List.mem_cons_of_mem _ (List.mem_append_right _ (List.mem_map.mpr ⟨p, hp, rfl⟩)))) (S.obj p (List.mem_append_right _ hp))
theorem St.rebase {g : Heap} (S : St r h₀ env C ρ s) (hg : Sub g (vis env C s.heap)) : St r g env C ρ s := ⟨S.same, hg, S.ns, S.cell, S.obj, S.apart⟩
theorem St.weaken {ρ' : Rho} (S : St r h₀ env C ρ s) (h : ∀ x a, ρ' x = some a → ρ x = some a) : St r h₀ env C ρ' s := by
  obtain ⟨m, hn, hv⟩ := S.ns
  exact ⟨S.same, S.base, ⟨m, hn, fun x a hx => hv x a (h x a hx)⟩, S.cell, S.obj, S.apart⟩

/-- a turn's end -/
noncomputable def TurnQ {σ : Type} (r : Shared) (h₁ : Heap) (env : Env) (own : List (Addr × Obj)) (Cf : σ → List (Addr × Obj)) (ρf : σ → Rho) (I : σ → Prop) (Q : Flow → Shared → Prop) : Flow → Shared → Prop
  | .ret v, s => Q (.ret v) s
  | .brk, _ => False
  | _, s => ∃ c, I c ∧ St r h₁ env (own ++ Cf c) (ρf c) s

theorem ex_for {σ : Type} (Cf : σ → List (Addr × Obj)) (ρf : σ → Rho) (Inv : Nat → σ → Prop) (c₀ : σ) {iter : Expr} {item : Nat → Ab} {x : Str} {xp pos : Pos} {body rest : List Stmt} {Q : Flow → Shared → Prop}
    (F : Fe env) (hx : Stores env x) (adr : ∀ c c', (Cf c).map (·.1) = (Cf c').map (·.1)) (it : It prog w A r h₀ env (Cf c₀) ρ iter n item) (hρ : ∀ y a, ρf c₀ y = some a → ρ y = some a) (h0 : Inv 0 c₀)
    (turn : ∀ i c own h₁, i < n → Inv i c → Sub h₀ h₁ → Ex prog w A r h₁ env (own ++ Cf c) (upd (ρf c) x (item i)) body (TurnQ r h₁ env own Cf ρf (Inv (i + 1)) Q))
    (done : ∀ c, Inv n c → Ex prog w A r h₀ env (Cf c) (ρf c) rest Q)
    (hs : ∀ v, foldedSetIterable iter env v = pure v) : Ex prog w A r h₀ env (Cf c₀) ρ (.For (.Name x xp) iter body [] pos :: rest) Q := ex_then (ss := []) fun s S => by
  refine wpAny_For (wpAny_mono (it.go s S) (fun xv s₁ h₁ => wpAny_mono h₁ (fun itv s₂ h₂ => ?_) fun _ _ f => f.elim) fun _ _ f => f.elim) hs
  obtain ⟨k₂, I, fp, wr, P, Sx, rfl, W, sx0, hal, hwn, hwf, hfp, hP⟩ := h₂
  have S₂ := S.keeps k₂
  have hd : ∀ b ∈ wr, b ∉ mu env (Cf c₀) := fun b hb => mu_of_none S (hwf b hb)
  have hmu : ∀ c b, b ∈ mu env (Cf c) ↔ b ∈ mu env (Cf c₀) := fun c b => by unfold mu; rw [adr c c₀]
  -- what is seen at the start, the iterator laid aside
  generalize hgd : hideAll s₂.heap (mu env (Cf c₀) ++ wr) = g at hP
  have hgs : Sub g (vis env (ownAt wr s₂.heap ++ Cf c₀) s₂.heap) := by
    subst hgd
    exact hide_eq _ fun b => by rw [mem_mu_own, List.mem_append]
  have hsg : Sub (vis env (Cf c₀) s.heap) g := fun b o e => by
    subst hgd
    refine hideAll_get _ (kp_sub k₂ b o (of_hideAll _ e)) fun z => ?_
    rcases List.mem_append.mp z with z | z
    · exact hide_not e z
    · have q := of_hideAll _ e
      rw [hwf b z] at q; cases q
  have hbg : Sub h₀ g := S.base.trans hsg
  have S₀ : St r g env (ownAt wr s₂.heap ++ Cf c₀) (ρf c₀) s₂ := by
    refine st_own (S₂.weaken hρ) hwn hd (hal 0 _ sx0) hgs fun y a e => ?_
    obtain ⟨m, hn, hv⟩ := S.ns
    obtain ⟨u, v, q⟩ := hv y a (hρ y a e)
    exact ⟨m, u, hn.keeps (kp_sub k₂), v.keeps (kp_sub k₂), Ab.mono (hsg.trans hgs) q⟩
  refine codeAny_forLoop (R := fun r s' => match r with | .ok f => Then prog w A env rest Q f s' | .error e => cameBackBy (model prog w) A env (fun _ _ => False) e s')
    (fun k s' => ∃ i c, i ≤ n ∧ k = n + 1 - i ∧ Inv i c ∧ Sx i s'.heap ∧ St r g env (ownAt wr s'.heap ++ Cf c) (ρf c) s' ∧ ∃ h tk, s' = { s₂ with heap := h, toks := tk }) ?_ (n + 1)
    ⟨0, c₀, Nat.zero_le _, rfl, h0, sx0, S₀, s₂.heap, s₂.toks, rfl⟩
  rintro k s' ⟨i, c, hin, rfl, hI, sx, S', hh, tk, rfl⟩
  have hdc : ∀ b ∈ wr, b ∉ mu env (Cf c) := fun b hb hm => hd b hb ((hmu c b).mp hm)
  by_cases hlt : i < n
  · refine W.item i _ _ _ hlt sx fun v h₁ tk₁ hPv sx₁ hk₁ => ?_
    have S₁ : St r g env (ownAt wr h₁ ++ Cf c) (ρf c) { s₂ with heap := h₁, toks := tk₁ } := st_next (s' := { s₂ with heap := h₁, toks := tk₁ }) S' ⟨_, _, rfl⟩ hdc (hal _ _ sx₁) hk₁
    refine wpAny_assign_Name (st_store (a := item i) F S₁ hx (Ab.mono S₁.base (hP i v hlt hPv)) fun s₃ S₃ hv₃ hk₃ => ?_)
    have own_eq : ownAt wr s₃.heap = ownAt wr h₁ := by
      unfold ownAt
      refine List.map_congr_left fun b hb => ?_
      obtain ⟨o, e⟩ := hal _ _ sx₁ b hb
      have e₃ : s₃.heap.get? b = some o := hk₃ b o (fun z => hdc b hb (by
        rcases List.mem_cons.mp z with z | z
        · exact z ▸ List.mem_cons_self
        · exact List.mem_cons_of_mem _ (List.mem_append_left _ z))) e
      rw [e, e₃]
    have sx₃ : Sx (i + 1) s₃.heap := W.frame _ _ _ sx₁ fun b hb o e => hk₃ b o (fun z => (hfp b hb).1 (by
        rcases List.mem_cons.mp z with z | z
        · exact z ▸ List.mem_cons_self
        · exact List.mem_cons_of_mem _ (List.mem_append_left _ z))) e
    refine wpAny_mono ((turn i c (ownAt wr h₁) (vis env (ownAt wr h₁ ++ Cf c) s₃.heap) hlt hI (hbg.trans S₃.base)).go s₃ (S₃.rebase Sub.refl)) (fun f s₄ h₄ => ?_) fun _ _ f => f.elim
    have fin : ∀ c', Inv (i + 1) c' → St r (vis env (ownAt wr h₁ ++ Cf c) s₃.heap) env (ownAt wr h₁ ++ Cf c') (ρf c') s₄ → ∃ m, m < n + 1 - i ∧ ∃ i c, i ≤ n ∧ m = n + 1 - i ∧ Inv i c ∧ Sx i s₄.heap ∧ St r g env (ownAt wr s₄.heap ++ Cf c) (ρf c) s₄ ∧ ∃ h tk, s₄ = { s₂ with heap := h, toks := tk } := by
      intro c' hI' S₄
      have keepF : ∀ b ∈ fp, ∀ o, s₃.heap.get? b = some o → s₄.heap.get? b = some o := fun b hb o e => by
        by_cases hw : b ∈ wr
        · have hm : (b, (h₁.get? b).getD default) ∈ ownAt wr h₁ := List.mem_map.mpr ⟨b, hw, rfl⟩
          have e₄ := S₄.obj _ (List.mem_append_left _ hm)
          have e₃ := S₃.obj _ (List.mem_append_left _ hm)
          rw [e] at e₃
          exact e₄.trans e₃.symm
        · have : (vis env (ownAt wr h₁ ++ Cf c) s₃.heap).get? b = some o := hideAll_get _ e fun z => by
            rcases mem_mu_own.mp z with z | z
            · exact (hfp b hb).1 ((hmu c b).mp z)
            · exact hw z
          exact base_s S₄ b o this
      have sx₄ : Sx (i + 1) s₄.heap := W.frame _ _ _ sx₃ keepF
      have own₄ : ownAt wr s₄.heap = ownAt wr h₁ := by
        unfold ownAt
        refine List.map_congr_left fun b hb => ?_
        have hm : (b, (h₁.get? b).getD default) ∈ ownAt wr h₁ := List.mem_map.mpr ⟨b, hb, rfl⟩
        have e₄ := S₄.obj _ (List.mem_append_left _ hm)
        have e₄' : s₄.heap.get? b = some ((h₁.get? b).getD default) := e₄
        rw [e₄']; rfl
      refine ⟨n + 1 - (i + 1), by omega, i + 1, c', hlt, rfl, hI', sx₄, ?_, ?_⟩
      · rw [own₄]
        exact S₄.rebase (S₃.base.trans S₄.base)
      · obtain ⟨h4, t4, e4⟩ := S₄.same
        obtain ⟨h2, t2, e2⟩ := S₂.same
        exact ⟨h4, t4, by rw [e4, e2]⟩
    cases f with
    | ret v => exact h₄
    | brk => exact h₄.elim
    | next => obtain ⟨c', a, b⟩ := h₄; exact fin c' a b
    | cont => obtain ⟨c', a, b⟩ := h₄; exact fin c' a b
  · have e : i = n := by omega
    subst e
    refine W.done _ _ _ sx fun h' tk' hk' => wpAny_execs_nil ?_
    exact (done c hI).go _ (st_done (s' := { s₂ with heap := h', toks := tk' }) S' hbg ⟨_, _, rfl⟩ hdc hk')
end
end

section

/-! flat data -/
noncomputable def flat : PyData → Bool
  | .int _ | .str _ | .bool _ => true
  | _ => false
noncomputable def dOf : Value → PyData
  | .int i _ => .int i
  | .str x _ => .str x
  | .bool b => .bool b
  | _ => .none
theorem Rd.fl {h : Heap} {v : Value} {d : PyData} (x : Rd h v d) (f : flat d = true) : Rd gNil v d := by
  cases x with
  | none => exact .none
  | bool b => exact .bool _
  | int i t => exact .int _ _
  | str i t => exact .str _ _
  | list e r => simp [flat] at f
  | tuple e r => simp [flat] at f
theorem Rd.dOf {h : Heap} {v : Value} {d : PyData} (x : Rd h v d) (f : flat d = true) : dOf v = d := by
  cases x with
  | none => rfl
  | bool b => rfl
  | int i t => rfl
  | str i t => rfl
  | list e r => simp [flat] at f
  | tuple e r => simp [flat] at f
theorem Rd.nil {h : Heap} {v : Value} {d : PyData} (x : Rd gNil v d) : Rd h v d := x.mono fun a o e => (gNil_get a o e).elim

section
variable {prog : Program} {w : World} {A : Around} {r : Shared} {h₀ : Heap} {env : Env} {C : List (Addr × Obj)} {ρ : Rho} {s : Shared} {K : Frag} {mg mb : Str → Option Value} {n : Nat}

/-- other objects are laid aside -/
theorem st_shift {wr wr' : List Addr} {g : Heap} {s' : Shared} (S : St r g env (ownAt wr s.heap ++ C) ρ s) (hs : ∃ h tk, s' = { s with heap := h, toks := tk }) (hd : ∀ b ∈ wr, b ∉ mu env C) (hd' : ∀ b ∈ wr', b ∉ mu env C) (hw : wr'.Nodup)
    (ho : ∀ b ∈ wr', ∃ o, s'.heap.get? b = some o) (hnew : ∀ b ∈ wr', s.heap.get? b = none)
    (hk : ∀ b o, b ∉ wr → s.heap.get? b = some o → s'.heap.get? b = some o) : St r g env (ownAt wr' s'.heap ++ C) ρ s' := by
  obtain ⟨h', tk', rfl⟩ := hs
  obtain ⟨h, tk, e⟩ := S.same
  obtain ⟨m, hn, hv⟩ := S.ns
  have hloc : env.locals ∉ wr := fun q => hd _ q List.mem_cons_self
  have hcell : ∀ x c, (x, c) ∈ env.cells → c ∉ wr := fun x c hc q => hd _ q (List.mem_cons_of_mem _ (List.mem_append_left _ (List.mem_map.mpr ⟨_, hc, rfl⟩)))
  have hsub : Sub (vis env (ownAt wr s.heap ++ C) s.heap) (vis env (ownAt wr' h' ++ C) h') := fun b o q => by
    have hb := hide_not q
    have hb' := fun z => hb (mem_mu_own.mpr z)
    have hq := of_hideAll _ q
    refine hideAll_get _ (hk b o (fun z => hb' (.inr z)) hq) fun z => ?_
    rcases mem_mu_own.mp z with z | z
    · exact hb' (.inl z)
    · rw [hnew b z] at hq; cases hq
  have hcell' : ∀ c v, c ∉ wr → s.heap.IsCell c v → h'.IsCell c v := fun c v hc ⟨o, h1, h2⟩ => ⟨o, hk c o hc h1, h2⟩
  refine ⟨⟨h', tk', by rw [e]⟩, S.base.trans hsub, ⟨m, hn.at' fun o e => hk _ o hloc e, fun x a hx => ?_⟩, fun x c hc => ?_, fun p hp => ?_, ?_⟩
  · obtain ⟨u, v, q⟩ := hv x a hx
    refine ⟨u, ?_, Ab.mono hsub q⟩
    rcases v with v | ⟨a1, c, a2, a3⟩
    · exact .inl v
    · exact .inr ⟨a1, c, a2, hcell' c _ (hcell x c (mem_of_lookup a2)) a3⟩
  · obtain ⟨v, q⟩ := S.cell x c hc
    exact ⟨v, hcell' c v (hcell x c hc) q⟩
  · rcases List.mem_append.mp hp with hp | hp
    · obtain ⟨b, hb, rfl⟩ := List.mem_map.mp hp
      obtain ⟨o, e⟩ := ho b hb
      show h'.get? b = some ((h'.get? b).getD default)
      have e' : h'.get? b = some o := e
      rw [e']; rfl
    · exact hk _ _ (fun q => hd _ q (List.mem_cons_of_mem _ (List.mem_append_right _ (List.mem_map.mpr ⟨p, hp, rfl⟩)))) (S.obj p (List.mem_append_right _ hp))
  · exact nodup_own (st_drop S Sub.refl).apart hw hd'

/-! iterators -/
theorem Sub.hide_push {h : Heap} {o : Obj} {l : List Addr} : Sub (hideAll h l) (hideAll (h.push o) (l ++ [h.objs.size])) := fun b o' e => by
  refine hideAll_get _ (Heap.get?_push_of_some _ (of_hideAll _ e)) fun z => ?_
  rcases List.mem_append.mp z with z | z
  · exact hide_not e z
  · have := Heap.lt_size (of_hideAll _ e)
    rw [List.mem_singleton.mp z] at this
    exact Nat.lt_irrefl _ this
theorem vis_hide (h : Heap) : vis env C h = hideAll h (mu env C) := rfl
theorem not_lt_mu (S : St r h₀ env C ρ s) : s.heap.objs.size ∉ mu env C := fun q => Nat.lt_irrefl _ (mem_mu_lt S q)
theorem getD_of {ds : List PyData} {i : Nat} {d : PyData} (h : ds[i]? = some d) : ds.getD i .none = d := by simp [List.getD, h]

theorem none_of_keeps {s s' : Shared} (k : Keeps s s') : s.heap.get? s'.heap.objs.size = none := by
  cases e : s.heap.get? s'.heap.objs.size with
  | none => rfl
  | some o => exact absurd (Heap.lt_size (kp_sub k _ _ e)) (Nat.lt_irrefl _)
theorem it_list {iter : Expr} {ds : List PyData} (hh : A.handled = none) (x : Ev prog w A r h₀ env C ρ iter (.dat (.list ds))) : It prog w A r h₀ env C ρ iter ds.length (fun i => .dat (ds.getD i .none)) := .mk fun s S =>
  x.use S fun u s₁ k₁ S₁ hu => by
    obtain ⟨a, vs, nn, rfl, e, R⟩ := Rd.getList hu
    have L := isList_of (vis_sub _ _ _ e)
    have hl : vs.size = ds.length := by have := R.length; simpa using this
    have hlt := Heap.lt_size (of_hideAll _ e)
    refine wpAny_pyIter_list L ⟨kp_trans k₁ (kp_heap (Sub.push _ _)), s₁.heap.objs.size, [s₁.heap.objs.size, a], [s₁.heap.objs.size], _, _, rfl, hl ▸ Walks.list hh s₁.heap.objs.size a (Nat.ne_of_lt hlt) vs, ⟨⟨_, Heap.get?_push_size _ rfl, rfl, rfl⟩, ⟨_, Heap.get?_push_of_some _ (vis_sub _ _ _ e), rfl, _, rfl⟩⟩,
      fun i h sx b hb => ?_, by simp, fun b hb => ?_, fun b hb => ?_, fun i v hi hv => ?_⟩
    · obtain ⟨⟨o, ho, _⟩, _⟩ := sx
      rw [List.mem_singleton.mp hb]; exact ⟨o, ho⟩
    · rw [List.mem_singleton.mp hb]; exact none_of_keeps k₁
    · rw [Heap.size_push]
      rcases List.mem_cons.mp hb with rfl | hb
      · exact ⟨not_lt_mu S₁, Nat.lt_succ_self _⟩
      · rw [List.mem_singleton.mp hb]; exact ⟨hide_not e, Nat.lt_succ_of_lt hlt⟩
    · obtain ⟨d, hd, rd⟩ := R.get' (k := i) (v := v) (by simpa using hv)
      show Rd _ v (ds.getD i .none)
      rw [getD_of hd]
      exact rd.mono Sub.hide_push
theorem it_tuple {iter : Expr} {ds : List PyData} (hh : A.handled = none) (x : Ev prog w A r h₀ env C ρ iter (.dat (.tuple ds))) : It prog w A r h₀ env C ρ iter ds.length (fun i => .dat (ds.getD i .none)) := .mk fun s S =>
  x.use S fun u s₁ k₁ S₁ hu => by
    obtain ⟨a, vs, nn, rfl, e, R⟩ := Rd.getTuple hu
    have L := isTuple_of (vis_sub _ _ _ e)
    have hl : vs.size = ds.length := by have := R.length; simpa using this
    have hlt := Heap.lt_size (of_hideAll _ e)
    refine wpAny_pyIter_tuple L ⟨kp_trans k₁ (kp_heap (Sub.push _ _)), s₁.heap.objs.size, [s₁.heap.objs.size, a], [s₁.heap.objs.size], _, _, rfl, hl ▸ Walks.tuple hh s₁.heap.objs.size a (Nat.ne_of_lt hlt) vs, ⟨⟨_, Heap.get?_push_size _ rfl, rfl, rfl⟩, ⟨_, Heap.get?_push_of_some _ (vis_sub _ _ _ e), rfl, _, rfl⟩⟩,
      fun i h sx b hb => ?_, by simp, fun b hb => ?_, fun b hb => ?_, fun i v hi hv => ?_⟩
    · obtain ⟨⟨o, ho, _⟩, _⟩ := sx
      rw [List.mem_singleton.mp hb]; exact ⟨o, ho⟩
    · rw [List.mem_singleton.mp hb]; exact none_of_keeps k₁
    · rw [Heap.size_push]
      rcases List.mem_cons.mp hb with rfl | hb
      · exact ⟨not_lt_mu S₁, Nat.lt_succ_self _⟩
      · rw [List.mem_singleton.mp hb]; exact ⟨hide_not e, Nat.lt_succ_of_lt hlt⟩
    · obtain ⟨d, hd, rd⟩ := R.get' (k := i) (v := v) (by simpa using hv)
      show Rd _ v (ds.getD i .none)
      rw [getD_of hd]
      exact rd.mono Sub.hide_push

theorem callB_raw {f : Value} {id : Str} {p pos : Pos} {es : List Expr} {as : List Ab} {Q : Value → Shared → Prop} {E : Value → Shared → Prop} (F : Fe env) (G : Gnd K mg mb h₀) (hx : env.kindOf id = some .globalImplicit) (hn : nsIn K mainGlobals id = some none)
    (hv : bootBuiltins id = some f) (hm : id ≠ "__name__") (hf : ∀ a, f ≠ .ref a) (hd : (id == ("__debug__" : Str)) = false) (hst : starEach es env = plainArgs es env) (x : EvL prog w A r h₀ env C ρ es as) (S : St r h₀ env C ρ s)
    (h : ∀ us s', Keeps s s' → St r h₀ env C ρ s' → AllOf (vis env C s'.heap) us as → wpAny (model prog w) A (call f us) Q E s') :
    wpAny (model prog w) A (eval (.Call (.Name id p) es [] pos) env) Q E s := by
  show wpAny _ _ (do callWith pos (← eval (.Name id p) env) [] (backTo pos (starEach es env)) []) _ _ _
  refine wpAny_bind ((ev_built F G hx hn hv hm hd).use S fun u s₁ k₁ S₁ e => ?_)
  cases e
  exact cw hst (fun s S => keeps_bi hf) x S₁ fun us s' k' S' a' => h us s' (kp_trans k₁ k') S' a'
theorem rangeTail {a c : Int} {b : Int} {t u v : Tok} {ra : Addr} {s₁ : Shared} (hh : A.handled = none) (S₁ : St r h₀ env C ρ s₁) (k : Keeps s s₁) (hsm : Builtin.Range.small a b c = true) (hn : Builtin.Range.rangeSize a b c = (n : Int)) (hr : IsRange s₁.heap ra a b c t u v)
    {item : Nat → Ab} (hi : ∀ i, i < n → item i = .dat (.int (a + i * c))) :
    wpAny (model prog w) A (pyIter (.ref ra)) (fun it s₂ => Keeps s s₂ ∧ ∃ (I : Addr) (fp wr : List Addr) (P : Nat → Value → Prop) (Sx : Nat → Heap → Prop),
    it = .ref I ∧ Walks prog w A I fp wr n P Sx ∧ Sx 0 s₂.heap ∧ (∀ i h, Sx i h → ∀ b ∈ wr, ∃ o, h.get? b = some o) ∧ wr.Nodup ∧ (∀ b ∈ wr, s.heap.get? b = none) ∧ (∀ b ∈ fp, b ∉ mu env C ∧ b < s₂.heap.objs.size) ∧
    ∀ i v, i < n → P i v → (item i).of (hideAll s₂.heap (mu env C ++ wr)) v) (fun _ _ => False) s₁ := by
  refine wpAny_pyIter_range hr hsm ⟨kp_trans k (kp_heap (Sub.push _ _)), s₁.heap.objs.size, _, [s₁.heap.objs.size], _, _, rfl, Walks.range hh s₁.heap.objs.size a c n, ?_, fun i h sx b hb => ?_, by simp, fun b hb => ?_, fun b hb => ?_, fun i v hlt hv => ?_⟩
  · show IsRangeIter _ _ (a + ((0 : Nat) : Int) * c) ((n : Int) - ((0 : Nat) : Int)) c
    have := Heap.get?_push_size s₁.heap (o := { cls := .type "range_iterator", data := .fields #[rawInt a, rawInt (Builtin.Range.rangeSize a b c), rawInt c] }) rfl
    rw [hn] at this
    simpa [IsRangeIter, rawInt, hn] using this
  · rw [List.mem_singleton.mp hb]; exact ⟨_, sx⟩
  · rw [List.mem_singleton.mp hb]; exact none_of_keeps k
  · rw [List.mem_singleton.mp hb, Heap.size_push]; exact ⟨not_lt_mu S₁, Nat.lt_succ_self _⟩
  · rw [hi i hlt]
    obtain ⟨t, rfl⟩ := hv
    exact Rd.int _ _
theorem it_range1 {id : Str} {p pos : Pos} {e : Expr} (hh : A.handled = none) (F : Fe env) (G : Gnd K mg mb h₀) (hx : env.kindOf "range" = some .globalImplicit) (hn : nsIn K mainGlobals "range" = some none)
    (hst : starEach [e] env = plainArgs [e] env) (x : Ev prog w A r h₀ env C ρ e (.dat (.int (n : Int)))) (hz : n < 2 ^ 62) :
    It prog w A r h₀ env C ρ (.Call (.Name "range" p) [e] [] pos) n (fun i => .dat (.int i)) := .mk fun s S =>
  callB_raw F G hx hn (show bootBuiltins "range" = some (.type "range") by kernel_rfl) (by decide +kernel) (fun _ => by simp) (by decide +kernel) hst (evl_cons x evl_nil) S fun us s' k S' hus => by
    match us, hus with
    | [u], hus =>
      obtain ⟨t, rfl⟩ := Rd.getInt hus.1
      refine call_range_1 ?_
      have hsz : Builtin.Range.rangeSize 0 (n : Int) 1 = (n : Int) := by rw [rangeSize_one]; split <;> omega
      have hsm : Builtin.Range.small 0 (n : Int) 1 = true := by
        unfold Builtin.Range.small
        rw [hsz]
        have e1 : Builtin.Range.rangeFitsLong (n : Int) = true := by unfold Builtin.Range.rangeFitsLong; simp; omega
        have e2 : Builtin.Range.rangeFitsLong 0 = true := by decide
        have e3 : Builtin.Range.rangeFitsLong 1 = true := by decide
        simp [e1, e2, e3]
      exact rangeTail hh (S'.keeps (kp_to (Sub.push _ _))) (kp_trans k (kp_to (Sub.push _ _))) hsm hsz (IsRange.new _ _ _ _ _ _ _) fun i _ => by simp
/-- from the last place down -/
theorem it_rangeD {p pos : Pos} {e₁ e₂ e₃ : Expr} (hh : A.handled = none) (F : Fe env) (G : Gnd K mg mb h₀) (hx : env.kindOf "range" = some .globalImplicit) (hn : nsIn K mainGlobals "range" = some none)
    (hst : starEach [e₁, e₂, e₃] env = plainArgs [e₁, e₂, e₃] env) (x : Ev prog w A r h₀ env C ρ e₁ (.dat (.int ((n : Int) - 1)))) (y : Ev prog w A r h₀ env C ρ e₂ (.dat (.int (-1)))) (z : Ev prog w A r h₀ env C ρ e₃ (.dat (.int (-1)))) (hz : n < 2 ^ 31) :
    It prog w A r h₀ env C ρ (.Call (.Name "range" p) [e₁, e₂, e₃] [] pos) n (fun i => .dat (.int (((n - 1 - i : Nat) : Int)))) := .mk fun s S =>
  callB_raw F G hx hn (show bootBuiltins "range" = some (.type "range") by kernel_rfl) (by decide +kernel) (fun _ => by simp) (by decide +kernel) hst (evl_cons x (evl_cons y (evl_cons z evl_nil))) S fun us s' k S' hus => by
    match us, hus with
    | [u, u', u''], hus =>
      obtain ⟨t, rfl⟩ := Rd.getInt hus.1
      obtain ⟨t', rfl⟩ := Rd.getInt hus.2.1
      obtain ⟨t'', rfl⟩ := Rd.getInt hus.2.2.1
      refine call_range_3 (by decide) ?_ (Or.inl (PyProof.noPylong_small (by omega)))
      have hsz : Builtin.Range.rangeSize ((n : Int) - 1) (-1) (-1) = (n : Int) := by
        unfold Builtin.Range.rangeSize
        simp
        omega
      have hsm : Builtin.Range.small ((n : Int) - 1) (-1) (-1) = true := by
        unfold Builtin.Range.small
        rw [hsz]
        have e1 : Builtin.Range.rangeFitsLong (n : Int) = true := by unfold Builtin.Range.rangeFitsLong; simp; omega
        have e2 : Builtin.Range.rangeFitsLong (-1) = true := by decide
        have e3 : Builtin.Range.rangeFitsLong ((n : Int) - 1) = true := by unfold Builtin.Range.rangeFitsLong; simp; omega
        simp [e1, e2, e3]
        try (right; decide)
      exact rangeTail hh (S'.keeps (kp_to (Sub.push _ _))) (kp_trans k (kp_to (Sub.push _ _))) hsm hsz (IsRange.new _ _ _ _ _ _ _) fun i hi => by
        congr 2
        omega
end
end

section

/-! comprehensions -/
noncomputable def clOf (env : Env) (ys : List Str) : List (Str × Addr) := ys.map fun y => (y, (env.cells.lookup y).getD 0)
noncomputable def rhoC (ρ : Rho) (x : Str) (d : PyData) (ys : List Str) : Rho := fun y => if y = x then some (.dat d) else if ys.contains y then ρ y else none
/-- what the scope of a comprehension is to be -/
structure CompOk (env : Env) (scope : Scope) (x : Str) (ys : List Str) : Prop where
  clos : closureFor scope env = pure (clOf env ys)
  cap : (ys.all fun y => decide (env.kindOf y = some .cell) && (env.cells.lookup y).isSome && decide ((relabel scope env).names.lookup y = some .cell) && decide (y ≠ x)) = true
  nd : ys.Nodup
  cell : ∀ y ∈ scope.names, y.2 ≠ .cell
  kind : scope.kind = .function
  names : ∀ y ∈ scope.names, y.2 = .local → scope.names.lookup y.1 = some .local
  hx : scope.names.lookup x = some .local

section
variable {prog : Program} {w : World} {A : Around} {r : Shared} {h₀ : Heap} {env : Env} {C : List (Addr × Obj)} {ρ : Rho} {s : Shared} {K : Frag} {mg mb : Str → Option Value} {n : Nat}

/-- the tests of a comprehension -/
structure Ti (prog : Program) (w : World) (A : Around) (r : Shared) (h₀ : Heap) (env : Env) (C : List (Addr × Obj)) (ρ : Rho) (ifs : List Expr) (b : Bool) : Prop where
  go : ∀ s, St r h₀ env C ρ s → wpAny (model prog w) A (forIn ifs true fun c r => if r = true then do let ok ← PySem.isTrue c env (eval c env); pure (ForInStep.yield ok) else pure (ForInStep.yield r)) (fun ok s' => Keeps s s' ∧ ok = b) (fun _ _ => False) s
theorem ti_nil : Ti prog w A r h₀ env C ρ [] true := .mk fun s S => wpAny_tests_nil ⟨kp_refl s, rfl⟩
theorem ti_one {e : Expr} {b : Bool} (h : Tt prog w A r h₀ env C ρ e b) : Ti prog w A r h₀ env C ρ [e] b := .mk fun s S => wpAny_tests_one (h.go s S)

theorem cl_mem {ys : List Str} {x : Str} {c : Addr} (h : (x, c) ∈ clOf env ys) : x ∈ ys ∧ c = (env.cells.lookup x).getD 0 := by
  obtain ⟨y, hy, e⟩ := List.mem_map.mp h
  cases e
  exact ⟨hy, rfl⟩
theorem cl_lookup : ∀ {ys : List Str} {x : Str}, x ∈ ys → (clOf env ys).lookup x = some ((env.cells.lookup x).getD 0)
  | y :: ys, x, h => by
    unfold clOf
    rw [List.map_cons, List.lookup_cons]
    by_cases e : x = y
    · subst e; simp
    · have : (x == y) = false := by simpa using e
      rw [this]
      exact cl_lookup (List.mem_of_ne_of_mem e h)
theorem CompOk.get {scope : Scope} {x y : Str} {ys : List Str} (O : CompOk env scope x ys) (h : y ∈ ys) : env.kindOf y = some .cell ∧ (∃ c, env.cells.lookup y = some c ∧ (y, c) ∈ env.cells) ∧ (relabel scope env).names.lookup y = some .cell ∧ y ≠ x := by
  have := List.all_eq_true.mp O.cap y h
  simp only [Bool.and_eq_true, decide_eq_true_eq] at this
  obtain ⟨⟨⟨a, b⟩, c⟩, d⟩ := this
  obtain ⟨e, he⟩ := Option.isSome_iff_exists.mp b
  exact ⟨a, ⟨e, he, mem_of_lookup he⟩, c, d⟩
theorem cl_sub {scope : Scope} {x : Str} {ys : List Str} (O : CompOk env scope x ys) {p : Str × Addr} (h : p ∈ clOf env ys) : p ∈ env.cells := by
  obtain ⟨a, b⟩ := cl_mem (x := p.1) (c := p.2) h
  obtain ⟨_, ⟨c, hc, hm⟩, _, _⟩ := O.get a
  rw [hc] at b
  have : p = (p.1, c) := by cases p; simp at b ⊢; exact b
  rw [this]; exact hm
theorem nodup_map {α β : Type} {f : α → β} : ∀ {l : List α}, l.Nodup → (∀ a ∈ l, ∀ b ∈ l, f a = f b → a = b) → (l.map f).Nodup
  | [], _, _ => by simp
  | a :: l, h, k => by
    obtain ⟨h1, h2⟩ := List.nodup_cons.mp h
    rw [List.map_cons]
    refine List.nodup_cons.mpr ⟨fun q => ?_, nodup_map h2 fun a ha b hb => k a (List.mem_cons_of_mem _ ha) b (List.mem_cons_of_mem _ hb)⟩
    obtain ⟨b, hb, e⟩ := List.mem_map.mp q
    exact h1 (k a List.mem_cons_self b (List.mem_cons_of_mem _ hb) e.symm ▸ hb)

/-- the frame of a comprehension -/
theorem st_comp {scope : Scope} {x : Str} {ys : List Str} {L : Addr} {wr : List Addr} {s₂ s₃ : Shared} {m : Str → Option Value} {v : Value} {d : PyData} (O : CompOk env scope x ys) (S : St r h₀ env C ρ s) (k : Keeps s s₂) (hwr : ∀ b ∈ wr, s.heap.get? b = none)
    (hL : s₂.heap.objs.size ≤ L) (hn : s₃.heap.Ns L m) (hm : m x = some v) (hv : Rd gNil v d) (hk : ∀ b o, b ∉ wr → s₂.heap.get? b = some o → s₃.heap.get? b = some o) :
    St s₃ h₀ (compEnvC scope (clOf env ys) L env) [] (rhoC ρ x d ys) s₃ := by
  have hLm : ∀ b o, s.heap.get? b = some o → b ≠ L := fun b o e q => by
    have := Heap.lt_size (kp_sub k _ _ e)
    rw [q] at this
    exact Nat.lt_irrefl _ (Nat.lt_of_lt_of_le this hL)
  have up : ∀ b o, s.heap.get? b = some o → s₃.heap.get? b = some o := fun b o e => hk b o (fun z => by rw [hwr b z] at e; cases e) (kp_sub k _ _ e)
  have hmu : ∀ b o, s.heap.get? b = some o → b ∉ mu env C → b ∉ mu (compEnvC scope (clOf env ys) L env) [] := fun b o e hb z => by
    rcases List.mem_cons.mp z with z | z
    · exact hLm b o e z
    · rcases List.mem_append.mp z with z | z
      · obtain ⟨p, hp, q⟩ := List.mem_map.mp z
        exact hb (List.mem_cons_of_mem _ (List.mem_append_left _ (List.mem_map.mpr ⟨p, cl_sub O hp, q⟩)))
      · cases z
  have hsub : Sub (vis env C s.heap) (vis (compEnvC scope (clOf env ys) L env) [] s₃.heap) := fun b o e => by
    have e' := of_hideAll _ e
    exact hideAll_get _ (up b o e') (hmu b o e' (hide_not e))
  obtain ⟨m₀, hn₀, hv₀⟩ := S.ns
  refine ⟨⟨s₃.heap, s₃.toks, by cases s₃; rfl⟩, S.base.trans hsub, ⟨m, hn, fun y a hy => ?_⟩, fun y c hc => ?_, fun p hp => (nomatch hp), ?_⟩
  · unfold rhoC at hy
    by_cases e : y = x
    · rw [if_pos e] at hy; cases hy
      subst e
      exact ⟨v, .inl ⟨lookup_relabel_local O.hx, hm⟩, hv.nil⟩
    · rw [if_neg e] at hy
      by_cases e' : ys.contains y = true
      · rw [if_pos e'] at hy
        have hmem : y ∈ ys := by simpa using e'
        obtain ⟨g1, ⟨c, hc, hcm⟩, g2, _⟩ := O.get hmem
        obtain ⟨u, q, au⟩ := hv₀ y a hy
        refine ⟨u, ?_, Ab.mono hsub au⟩
        rcases q with ⟨q, _⟩ | ⟨_, c', hc', hi⟩
        · rw [g1] at q; cases q
        · refine .inr ⟨g2, c', ?_, ?_⟩
          · show (clOf env ys).lookup y = some c'
            rw [cl_lookup hmem, hc']; rfl
          · obtain ⟨o, h1, h2⟩ := hi
            exact ⟨o, up _ _ h1, h2⟩
      · rw [if_neg e'] at hy; cases hy
  · obtain ⟨v, o, h1, h2⟩ := S.cell y c (cl_sub O hc)
    exact ⟨v, o, up _ _ h1, h2⟩
  · have hcells : ∀ b ∈ (clOf env ys).map (·.2), b ∈ mu env C := fun b hb => by
      obtain ⟨p, hp, q⟩ := List.mem_map.mp hb
      exact List.mem_cons_of_mem _ (List.mem_append_left _ (List.mem_map.mpr ⟨p, cl_sub O hp, q⟩))
    refine List.nodup_cons.mpr ⟨fun q => ?_, ?_⟩
    · rcases List.mem_append.mp q with q | q
      · obtain ⟨o, e⟩ := mem_mu_some S (hcells _ q)
        exact hLm _ o e rfl
      · cases q
    · rw [show ([] : List (Addr × Obj)).map (·.1) = [] from rfl, List.append_nil]
      show ((clOf env ys).map (·.2)).Nodup
      unfold clOf
      rw [List.map_map]
      refine nodup_map O.nd fun a ha b hb e => ?_
      obtain ⟨_, ⟨c, hc, hcm⟩, _, _⟩ := O.get ha
      obtain ⟨_, ⟨c', hc', hcm'⟩, _, _⟩ := O.get hb
      have e' : (env.cells.lookup a).getD 0 = (env.cells.lookup b).getD 0 := e
      rw [hc, hc'] at e'
      have e'' : c = c' := e'
      exact mu_cell_cell S.apart hcm (e'' ▸ hcm')

theorem Walks.bound {I : Addr} {fp wr : List Addr} {P : Nat → Value → Prop} {Sx : Nat → Heap → Prop} (W : Walks prog w A I fp wr n P Sx) : Walks prog w A I fp wr n (fun i v => i < n ∧ P i v) Sx where
  sub := W.sub
  frame := W.frame
  item := fun i s Q E hi st hQ => W.item i s Q E hi st fun v h' tk p => hQ v h' tk ⟨hi, p⟩
  done := W.done
  self := W.self

/-- what is asked of the parts of a comprehension -/
structure CompIn (prog : Program) (w : World) (A : Around) (h₀ : Heap) (env : Env) (ρ : Rho) (elt : Expr) (ifs : List Expr) (scope : Scope) (x : Str) (ys : List Str) (ds : List PyData) (p : PyData → Bool) (f : PyData → PyData) : Prop where
  ok : CompOk env scope x ys
  fl : ∀ d ∈ ds, flat d = true
  fo : ∀ d ∈ ds, p d = true → flat (f d) = true
  tests : ∀ r L d, d ∈ ds → Ti prog w A r h₀ (compEnvC scope (clOf env ys) L env) [] (rhoC ρ x d ys) ifs (p d)
  elt : ∀ r L d, d ∈ ds → p d = true → Ev prog w A r h₀ (compEnvC scope (clOf env ys) L env) [] (rhoC ρ x d ys) elt (.dat (f d))

theorem comp_all {ds : List PyData} {p : PyData → Bool} {f : PyData → PyData} (fl : ∀ d ∈ ds, flat d = true) (fo : ∀ d ∈ ds, p d = true → flat (f d) = true) : ∀ {vs us : List Value} {es : List PyData}, (∀ d ∈ es, d ∈ ds) → RdAll gNil vs es → Paired (fun v y => Rd gNil y (f (dOf v))) (vs.filter fun v => p (dOf v)) us → RdAll gNil us ((es.filter p).map f) := by
  intro vs us es hes hr hp
  induction es generalizing vs us with
  | nil => cases hr; cases hp; exact .nil
  | cons d es ih =>
    cases hr with
    | cons a b =>
      have hd := Rd.dOf a (fl d (hes d List.mem_cons_self))
      rw [List.filter_cons] at hp ⊢
      rw [hd] at hp
      by_cases q : p d = true
      · rw [if_pos q] at hp ⊢
        cases hp with
        | cons c e =>
          rw [hd] at c
          exact .cons c (ih (fun d hd => hes d (List.mem_cons_of_mem _ hd)) b e)
      · rw [if_neg q] at hp ⊢
        exact ih (fun d hd => hes d (List.mem_cons_of_mem _ hd)) b hp
theorem rdAll_of {vs : List Value} {ds : List PyData} (hl : vs.length = ds.length) (h : ∀ j v, vs[j]? = some v → Rd gNil v (ds.getD j .none)) : RdAll gNil vs ds := by
  induction ds generalizing vs with
  | nil => cases vs with | nil => exact .nil | cons _ _ => simp at hl
  | cons d ds ih =>
    cases vs with
    | nil => simp at hl
    | cons v vs =>
      refine .cons (by simpa using h 0 v rfl) (ih (by simpa using hl) fun j u e => ?_)
      simpa using h (j + 1) u (by simpa using e)

theorem comp_core {elt iter : Expr} {x : Str} {px : Pos} {ifs : List Expr} {scope : Scope} {pos pos' : Pos} {ys : List Str} {ds : List PyData} {p : PyData → Bool} {f : PyData → PyData} {use : Option (Value → Sem Unit)} {Q : Value → Shared → Prop} {E : Value → Shared → Prop}
    (it : It prog w A r h₀ env C ρ iter ds.length (fun i => .dat (ds.getD i .none))) (O : CompIn prog w A h₀ env ρ elt ifs scope x ys ds p f) (hz : ds.length ≤ sizeLine) (S : St r h₀ env C ρ s)
    (hu : ∀ (D L : Addr) (s' : Shared), Keeps s s' → s.heap.get? D = none → s.heap.get? L = none → D ≠ L → (∃ m, s'.heap.Ns L m) → St r h₀ env (ownAt [L] s'.heap ++ C) ρ s' → Rd (vis env (ownAt [L] s'.heap ++ C) s'.heap) (.ref D) (.list ((ds.filter p).map f)) →
      compPost (model prog w) A E use Q (.ref D) L (.ok .next) s')
    (hs : ∀ x, foldedSetIterable iter env x = pure x) :
    wpAny (model prog w) A (comprehension (.ListComp elt [⟨.Name x px, iter, ifs, 0⟩] scope pos) scope env pos' (newList []) false (eval iter env) use) Q E s := by
  refine wpAny_comprehension_free rfl hs O.ok.clos O.ok.kind O.ok.names (wpAny_mono (it.go s S) (fun xv s₁ h₁ => wpAny_mono h₁ (fun itv s₂ h₂ => ?_) fun _ _ f => f.elim) fun _ _ f => f.elim)
  obtain ⟨k₂, I, fp, wr, P, Sx, rfl, W, sx0, hal, hwn, hwf, hfp, hP⟩ := h₂
  have W' := Mine.Walks.bound W
  have hPd : ∀ i v, i < ds.length ∧ P i v → Rd gNil v (ds.getD i .none) ∧ ds.getD i .none ∈ ds := fun i v h => by
    have hmem : ds.getD i .none ∈ ds := by
      have := List.getElem_mem h.1
      rwa [List.getD_eq_getElem?_getD, List.getElem?_eq_getElem h.1]
    exact ⟨Rd.fl (hP i v h.1 h.2) (O.fl _ hmem), hmem⟩
  refine comp_block_walkC (RR := fun acc C => compPost (model prog w) A E use Q acc C) W' hz (fun v => p (dOf v)) (fun v y => Rd gNil y (f (dOf v))) O.ok.cell O.ok.kind O.ok.hx sx0 (fun b hb => (hfp b hb).2) ⟨?_, ?_⟩ ?_
  · intro L i v s₃ m₃ E' hL hv hn hm hk _
    obtain ⟨rd, hmem⟩ := hPd i v hv
    have S₃ := st_comp O.ok S k₂ hwf hL hn hm rd hk
    exact wpAny_mono ((O.tests s₃ L _ hmem).go s₃ S₃) (fun ok s₄ h => ⟨by rw [Rd.dOf rd (O.fl _ hmem)]; exact h.2, h.1⟩) fun _ _ f => f.elim
  · intro L i v s₃ m₃ E' hL hv hpv hn hm hk _
    obtain ⟨rd, hmem⟩ := hPd i v hv
    have S₃ := st_comp O.ok S k₂ hwf hL hn hm rd hk
    have hd := Rd.dOf rd (O.fl _ hmem)
    rw [hd] at hpv ⊢
    exact wpAny_mono ((O.elt s₃ L _ hmem hpv).go s₃ S₃) (fun ok s₄ h => ⟨Rd.fl h.2 (O.fo _ hmem hpv), h.1⟩) fun _ _ f => f.elim
  · intro D L h' tk m' us vs hD hL hDL hn hlst hpl hlen hPs hF hk
    have S₂ := S.keeps k₂
    have noneS : ∀ b, s₂.heap.get? b = none → s.heap.get? b = none := fun b e => by
      cases q : s.heap.get? b with
      | none => rfl
      | some o => rw [kp_sub k₂ _ _ q] at e; cases e
    have hd : ∀ b ∈ wr, b ∉ mu env C := fun b hb => mu_of_none S (hwf b hb)
    have hgs : Sub (vis env C s.heap) (vis env (ownAt wr s₂.heap ++ C) s₂.heap) := fun b o e => by
      refine hideAll_get _ (kp_sub k₂ b o (of_hideAll _ e)) fun z => ?_
      rcases mem_mu_own.mp z with z | z
      · exact hide_not e z
      · have q := of_hideAll _ e
        rw [hwf b z] at q; cases q
    have S₀ : St r h₀ env (ownAt wr s₂.heap ++ C) ρ s₂ := by
      refine st_own S₂ hwn hd (hal 0 _ sx0) (S.base.trans hgs) fun y a e => ?_
      obtain ⟨m, hn, hv⟩ := S.ns
      obtain ⟨u, v, q⟩ := hv y a e
      exact ⟨m, u, hn.keeps (kp_sub k₂), v.keeps (kp_sub k₂), Ab.mono hgs q⟩
    have S' : St r h₀ env (ownAt [L] h' ++ C) ρ { s₂ with heap := h', toks := tk } := by
      refine st_shift (s' := { s₂ with heap := h', toks := tk }) S₀ ⟨_, _, rfl⟩ hd (fun b hb => ?_) (by simp) (fun b hb => ?_) (fun b hb => ?_) hk
      · rw [List.mem_singleton.mp hb]; exact mu_of_none S₂ hL
      · rw [List.mem_singleton.mp hb]
        obtain ⟨o, _, _, e, _⟩ := hn
        exact ⟨o, e⟩
      · rw [List.mem_singleton.mp hb]; exact hL
    refine hu D L _ ⟨h', tk, ?_, fun b o e => hk b o (fun z => by rw [hwf b z] at e; cases e) (kp_sub k₂ b o e)⟩ (noneS D hD) (noneS L hL) hDL ⟨m', hn⟩ S' ?_
    · obtain ⟨h2, t2, e2, _⟩ := k₂
      rw [e2]
    · obtain ⟨nn, hDo⟩ := hpl
      refine Rd.list (vs := us) (n := nn) (hideAll_get _ hDo fun z => ?_) ?_
      · rcases mem_mu_own.mp z with z | z
        · exact mu_of_none S₂ hD z
        · exact hDL (List.mem_singleton.mp z)
      · refine RdAll.mono (fun a o e => (gNil_get a o e).elim) (comp_all O.fl O.fo (fun d hd => hd) (rdAll_of hlen fun j v e => (hPd j v (hPs j v e)).1) hF)

theorem hide_own {L : Addr} {h h' : Heap} (hs : Heap.SameBut L h h') : Sub (vis env (ownAt [L] h ++ C) h) (vis env C h') := fun b o e => by
  have q := hide_not e
  exact hideAll_get _ (hs.extBut b o (fun z => q (mem_mu_own.mpr (.inr (List.mem_singleton.mpr z)))) (of_hideAll _ e)) fun z => q (mem_mu_own.mpr (.inl z))
theorem ev_comp {elt iter : Expr} {x : Str} {px : Pos} {ifs : List Expr} {scope : Scope} {pos : Pos} {ys : List Str} {ds : List PyData} {p : PyData → Bool} {f : PyData → PyData}
    (it : It prog w A r h₀ env C ρ iter ds.length (fun i => .dat (ds.getD i .none))) (O : CompIn prog w A h₀ env ρ elt ifs scope x ys ds p f) (hz : ds.length ≤ sizeLine) (hs : ∀ x, foldedSetIterable iter env x = pure x) :
    Ev prog w A r h₀ env C ρ (.ListComp elt [⟨.Name x px, iter, ifs, 0⟩] scope pos) (.dat (.list ((ds.filter p).map f))) := .mk fun s S => by
  rw [eval_ListComp]
  refine comp_core it O hz S (fun D L s' k hD hL hDL hn S' rd => ?_) hs
  obtain ⟨m, hn⟩ := hn
  refine ⟨m, hn, fun h' hs' => ⟨?_, ?_⟩⟩
  · obtain ⟨h₁, t₁, rfl, k₁⟩ := k
    exact ⟨h', t₁, rfl, fun b o e => hs'.extBut b o (fun q => by rw [q, hL] at e; cases e) (k₁ b o e)⟩
  · exact Rd.mono (hide_own hs') rd
/-- a comprehension, stored -/
theorem ex_comp {elt iter : Expr} {x y : Str} {px py : Pos} {ifs : List Expr} {scope : Scope} {pos spos : Pos} {ys : List Str} {ds : List PyData} {p : PyData → Bool} {f : PyData → PyData} {rest : List Stmt} {Q : Flow → Shared → Prop} (F : Fe env) (hy : Stores env y)
    (it : It prog w A r h₀ env C ρ iter ds.length (fun i => .dat (ds.getD i .none))) (O : CompIn prog w A h₀ env ρ elt ifs scope x ys ds p f) (hz : ds.length ≤ sizeLine)
    (hsw : swapsWith (.ListComp elt [⟨.Name x px, iter, ifs, 0⟩] scope pos) (some (.Name y py)) spos.line env = pure true) (hs : ∀ x, foldedSetIterable iter env x = pure x)
    (k : Ex prog w A r h₀ env C (upd ρ y (.dat (.list ((ds.filter p).map f)))) rest Q) :
    Ex prog w A r h₀ env C ρ (.Assign [.Name y py] (.ListComp elt [⟨.Name x px, iter, ifs, 0⟩] scope pos) spos :: rest) Q := .mk fun s S => by
  refine wpAny_execs_cons ?_
  rw [exec_Assign_Name_used _ _ _ _ hsw]
  refine wpAny_bind (wpAny_standAt (wpAny_bind ?_))
  show wpAny _ A (do let _ ← comprehension (.ListComp elt [⟨.Name x px, iter, ifs, 0⟩] scope pos) scope env _ (newList []) false (eval iter env) (some (assign (.Name y py) env))) _ _ s
  refine wpAny_bind (comp_core it O hz S (fun D L s' k' hD hL hDL hn S' rd => ?_) hs)
  obtain ⟨m, hn⟩ := hn
  show wpAny _ A (assign (.Name y py) env (.ref D)) _ _ _
  have hLm : L ∉ mu env C := mu_of_none S hL
  refine wpAny_assign_Name (st_store (a := .dat (.list ((ds.filter p).map f))) F S' hy rd fun s₃ S₃ hv₃ hk₃ => ?_)
  refine ⟨m, hn.at' fun o e => hk₃ L o (fun z => hLm (by
    rcases List.mem_cons.mp z with z | z
    · exact z ▸ List.mem_cons_self
    · exact List.mem_cons_of_mem _ (List.mem_append_left _ z))) e, fun h' hs' => ?_⟩
  refine wpAny_pure (wpAny_pure ?_)
  refine k.go _ ?_
  have own_eq : ownAt [L] s'.heap = ownAt [L] s₃.heap := by
    obtain ⟨o, _, _, e, _⟩ := hn
    have e₃ : s₃.heap.get? L = some o := hk₃ L o (fun z => hLm (by
      rcases List.mem_cons.mp z with z | z
      · exact z ▸ List.mem_cons_self
      · exact List.mem_cons_of_mem _ (List.mem_append_left _ z))) e
    simp [ownAt, e, e₃]
  rw [own_eq] at S₃
  exact st_done (s' := { s₃ with heap := h' }) S₃ Sub.refl ⟨h', s₃.toks, rfl⟩ (fun b hb => by rw [List.mem_singleton.mp hb]; exact hLm) fun b o hb e => hs'.extBut b o (fun q => hb (by rw [q]; exact List.mem_singleton.mpr rfl)) e
end
end

section

theorem ints_of {h : Heap} : ∀ {vs : List Value} {ns : List Int}, RdAll h vs (ns.map .int) → IntsAre vs ns
  | [], [], _ => .nil
  | v :: vs, n :: ns, .cons a r => by
    obtain ⟨t, rfl⟩ := a.getInt
    exact .cons n t (ints_of r)
  | [], _ :: _, x => by cases x
  | _ :: _, [], x => by cases x
theorem RdAll.strsV (h : Heap) : ∀ l : List (Str × Tok), RdAll h (strValues l) ((l.map (·.1)).map PyData.str)
  | [] => .nil
  | p :: r => .cons (.str p.1 p.2) (RdAll.strsV h r)

section
variable {prog : Program} {w : World} {A : Around} {r : Shared} {h₀ : Heap} {env : Env} {C : List (Addr × Obj)} {ρ : Rho} {s : Shared} {K : Frag} {mg mb : Str → Option Value} {n : Nat}

/-- from the base -/
theorem ev_attrB {x Cc : Addr} {m : Str → Option Value} {o : Expr} {name : Str} {pos : Pos} {v : Value} (G : Gnd K mg mb h₀) (ho : Ev prog w A r h₀ env C ρ o (.val (.ref x))) (I : Inst h₀ x Cc m) (M : ClsFree K Cc name) (hm : m name = some v) (hv : handedIn v = true)
    (he : eval (.Attribute o name pos) env = (do
      let ov ← eval o env
      standAt pos.atName
      let r ← holding [ov] (getAttr ov name true)
      letTemporaryGo o ov r
      pure r)) : Ev prog w A r h₀ env C ρ (.Attribute o name pos) (.val v) := ev_attr G ho (fun s S => I.mono (base_s S)) M hm hv he
theorem ev_attrD {x Cc : Addr} {m : Str → Option Value} {o : Expr} {name : Str} {pos : Pos} {a : Addr} {d : PyData} (G : Gnd K mg mb h₀) (ho : Ev prog w A r h₀ env C ρ o (.val (.ref x))) (I : Inst h₀ x Cc m) (M : ClsFree K Cc name) (hm : m name = some (.ref a)) (hr : Rd h₀ (.ref a) d)
    (he : eval (.Attribute o name pos) env = (do
      let ov ← eval o env
      standAt pos.atName
      let r ← holding [ov] (getAttr ov name true)
      letTemporaryGo o ov r
      pure r)) : Ev prog w A r h₀ env C ρ (.Attribute o name pos) (.dat d) := Ev.weak (ev_attrB G ho I M hm rfl he) hr
theorem ev_methB {f x Cc : Addr} {m : Str → Option Value} {o : Expr} {name : Str} {apos pos : Pos} {es : List Expr} {as : List Ab} {res : Ab} {pl : Sem Bool} (G : Gnd K mg mb h₀) (ho : Ev prog w A r h₀ env C ρ o (.val (.ref x)))
    (I : Inst h₀ x Cc m) (M : ClsMeth K Cc name f) (hm : m name = none) (hst : starEach es env = plainArgs es env) (y : EvL prog w A r h₀ env C ρ es as) (hF : Fn prog w A h₀ (.ref f) (.val (.ref x) :: as) res)
    (he : eval (.Call (.Attribute o name apos) es [] pos) env = (do
      let ov ← eval o env
      standAt apos.atName
      let (f, first) ← holding [ov] (getMethod ov name pl)
      callWith pos f first (backTo pos (starEach es env)) (backToKw pos (keywordEach [] env)))) :
    Ev prog w A r h₀ env C ρ (.Call (.Attribute o name apos) es [] pos) res := ev_meth G ho (fun s S => I.mono (base_s S)) M hm hst y (fun s S => hF.mono (base_s S)) he
theorem ev_callG {f : Addr} {id : Str} {p pos : Pos} {es : List Expr} {as : List Ab} {res : Ab} (F : Fe env) (G : Gnd K mg mb h₀) (hx : env.kindOf id = some .globalImplicit) (hn : nsIn K mainGlobals id = some (some (.ref f)))
    (hd : (id == ("__debug__" : Str)) = false) (hk : keepIn K (.ref f) = true) (hst : starEach es env = plainArgs es env) (x : EvL prog w A r h₀ env C ρ es as) (hF : Fn prog w A h₀ (.ref f) as res) :
    Ev prog w A r h₀ env C ρ (.Call (.Name id p) es [] pos) res := ev_call F G hx hn hd hk hst x fun s S => hF.mono (base_s S)
theorem ev_len {p pos : Pos} {e : Expr} {ds : List PyData} (F : Fe env) (G : Gnd K mg mb h₀) (hx : env.kindOf "len" = some .globalImplicit) (hn : nsIn K mainGlobals "len" = some none)
    (hst : starEach [e] env = plainArgs [e] env) (x : Ev prog w A r h₀ env C ρ e (.dat (.list ds))) (hz : ds.length < 2 ^ 62) : Ev prog w A r h₀ env C ρ (.Call (.Name "len" p) [e] [] pos) (.dat (.int ds.length)) :=
  ev_callB F G hx hn (show bootBuiltins "len" = some (.builtin "len") by kernel_rfl) (by decide +kernel) (fun _ => by simp) (by decide +kernel) hst (evl_cons x evl_nil) fun s S => fn_len hz

/-- a method of a built-in type -/
theorem ev_bmeth {id : String} {o : Expr} {name : Str} {apos pos : Pos} {es : List Expr} {a : Ab} {as : List Ab} {res : Ab} {pl : Sem Bool} (ho : Ev prog w A r h₀ env C ρ o a)
    (gm : ∀ u s (Q : Value × List Value → Shared → Prop), a.of (vis env C s.heap) u → Q (.builtin id, [u]) s → wpAny (model prog w) A (getMethod u name pl) Q (fun _ _ => False) s)
    (hst : starEach es env = plainArgs es env) (y : EvL prog w A r h₀ env C ρ es as)
    (hc : ∀ u us s, St r h₀ env C ρ s → a.of (vis env C s.heap) u → AllOf (vis env C s.heap) us as → wpAny (model prog w) A (call (.builtin id) (u :: us)) (fun u' s' => Keeps s s' ∧ res.of (vis env C s'.heap) u') (fun _ _ => False) s)
    (he : eval (.Call (.Attribute o name apos) es [] pos) env = (do
      let ov ← eval o env
      standAt apos.atName
      let (f, first) ← holding [ov] (getMethod ov name pl)
      callWith pos f first (backTo pos (starEach es env)) (backToKw pos (keywordEach [] env)))) :
    Ev prog w A r h₀ env C ρ (.Call (.Attribute o name apos) es [] pos) res := .mk fun s S => by
  refine methodCall_KW (ho.use S fun u s₁ k₁ S₁ e => ?_) he
  refine gm u s₁ _ e ?_
  exact cw hst (fun s S => keeps_bi fun _ => by simp) y S₁ fun us s' k' S' a' => wpAny_mono (hc u us s' S' (Ab.mono (vis_mono (kp_sub k')) e) a') (fun _ _ h => ⟨kp_trans (kp_trans k₁ k') h.1, h.2⟩) fun _ _ f => f
theorem ev_index {o e : Expr} {apos pos : Pos} {ns : List Int} {k : Int} {pl : Sem Bool} (ho : Ev prog w A r h₀ env C ρ o (.dat (.list (ns.map .int)))) (x : Ev prog w A r h₀ env C ρ e (.dat (.int k))) (hk : k ∈ ns) (hlay : PyData.layable0 (.list (ns.map .int)) = true)
    (hst : starEach [e] env = plainArgs [e] env)
    (he : eval (.Call (.Attribute o "index" apos) [e] [] pos) env = (do
      let ov ← eval o env
      standAt apos.atName
      let (f, first) ← holding [ov] (getMethod ov "index" pl)
      callWith pos f first (backTo pos (starEach [e] env)) (backToKw pos (keywordEach [] env)))) :
    Ev prog w A r h₀ env C ρ (.Call (.Attribute o "index" apos) [e] [] pos) (.dat (.int (ns.idxOf k : Nat))) :=
  ev_bmeth (id := "list.index") ho (fun u s Q hu hQ => by
    obtain ⟨a, vs, nn, rfl, e, R⟩ := Rd.getList hu
    exact getMethod_list_of PySem.F.slot_list_index PySem.F.type_list_index (isList_of (vis_sub _ _ _ e)) ⟨_, vis_sub _ _ _ e, rfl⟩ hQ) hst (evl_cons x evl_nil) (fun u us s S hu hus => by
    match us, hus with
    | [v], hus =>
      obtain ⟨a, vs, nn, rfl, e, R⟩ := Rd.getList hu
      obtain ⟨t, rfl⟩ := Rd.getInt hus.1
      exact index_list_ints (vs := vs.toList) (by simpa using isList_of (vis_sub _ _ _ e)) (ints_of R) hlay hk ⟨kp_tok s _, Rd.int _ _⟩) he

/-! splitting -/
open PySem.Builtin PySem.Builtin.Str in
theorem call_split0 {x : Str} {t : Tok} (S : St r h₀ env C ρ s) (hsz : x.length + 2 ≤ sizeLine) :
    wpAny (model prog w) A (call (.builtin "str.split") [.str x t]) (fun u s' => Keeps s s' ∧ Rd (vis env C s'.heap) u (.list ((Txt.words x).map .str))) (fun _ _ => False) s := by
  have hn : (spaceWords x (x.length + 1)).length ≤ sizeLine := by
    have e1 := (StrLaws.sw_weight x).1
    have e2 := StrLaws.len_le_wsum (spaceWords x (x.length + 1))
    omega
  have fin : ∀ (l : List (Str × Tok)) (k : Nat), l.map (·.1) = Txt.words x → Keeps s { s with heap := s.heap.push { cls := .type "list", data := .seq (strValues l).toArray }, toks := k } ∧
      Rd (vis env C (s.heap.push { cls := .type "list", data := .seq (strValues l).toArray })) (.ref s.heap.objs.size) (.list ((Txt.words x).map .str)) := fun l k e =>
    ⟨kp_to (Sub.push _ _), Rd.list (vis_push S _) (by rw [← e]; simpa using RdAll.strsV _ l)⟩
  refine call_meets PySem.F.slot_str_split (typeIs_str _ _ _) PySem.F.entry_str_split (PySem.F.args_str_split_1 _) (meets_str_split_space x t (by omega) hn) ?_
  cases hw : spaceWords x (x.length + 1) == [(0, x.length)] with
  | false =>
    simp only [Bool.false_eq_true, if_false]
    rw [strsFrom_eq]
    exact fin (numbered s.toks (PySem.wordsOf x)) _ ((numbered_texts _ _).trans (if_neg (ne_true_of_eq_false hw)).symm)
  | true =>
    simp only [if_true]
    exact fin [(x, t)] s.toks (if_pos hw).symm
open PySem.Builtin PySem.Builtin.Str in
theorem call_split1 {x y : Str} {t u : Tok} (S : St r h₀ env C ρ s) (hsz : x.length + 2 ≤ sizeLine) (hy : (y.length == 0) = false) :
    wpAny (model prog w) A (call (.builtin "str.split") [.str x t, .str y u]) (fun u s' => Keeps s s' ∧ Rd (vis env C s'.heap) u (.list ((Txt.split x y).map .str))) (fun _ _ => False) s := by
  have hn : (partsBetween x (occurrences x y 0 x.length (x.length + 1)) y.length).length ≤ sizeLine := by
    have e1 := StrLaws.occ_length_le x y 0 x.length (x.length + 1)
    rw [length_partsBetween]; omega
  have fin : ∀ (l : List (Str × Tok)) (k : Nat), l.map (·.1) = Txt.split x y → Keeps s { s with heap := s.heap.push { cls := .type "list", data := .seq (strValues l).toArray }, toks := k } ∧
      Rd (vis env C (s.heap.push { cls := .type "list", data := .seq (strValues l).toArray })) (.ref s.heap.objs.size) (.list ((Txt.split x y).map .str)) := fun l k e =>
    ⟨kp_to (Sub.push _ _), Rd.list (vis_push S _) (by rw [← e]; simpa using RdAll.strsV _ l)⟩
  cases h1 : (decide (x.length < y.length) || decide (strKind x < strKind y)) with
  | true => exact call_meets PySem.F.slot_str_split (typeIs_str _ _ _) PySem.F.entry_str_split (PySem.F.args_str_split_2 _ _) (meets_str_split_cannot_occur x y t u h1) (fin [(x, t)] s.toks (if_pos h1).symm)
  | false =>
    cases hf : (occurrences x y 0 x.length (x.length + 1)).isEmpty with
    | true => exact call_meets PySem.F.slot_str_split (typeIs_str _ _ _) PySem.F.entry_str_split (PySem.F.args_str_split_2 _ _) (meets_str_split_not_found x y t u h1 hy hf) (fin [(x, t)] s.toks ((if_neg (ne_true_of_eq_false h1)).trans (if_pos hf)).symm)
    | false =>
      refine call_meets PySem.F.slot_str_split (typeIs_str _ _ _) PySem.F.entry_str_split (PySem.F.args_str_split_2 _ _) (meets_str_split_sep x y t u h1 hy hf (by omega) hn) ?_
      rw [strsFrom_eq]
      exact fin (numbered s.toks _) _ ((numbered_texts _ _).trans ((if_neg (ne_true_of_eq_false h1)).trans (if_neg (ne_true_of_eq_false hf))).symm)
theorem ev_split0 {o : Expr} {apos pos : Pos} {x : Str} {pl : Sem Bool} (ho : Ev prog w A r h₀ env C ρ o (.dat (.str x))) (hsz : x.length + 2 ≤ sizeLine) (hst : starEach [] env = plainArgs [] env)
    (he : eval (.Call (.Attribute o "split" apos) [] [] pos) env = (do
      let ov ← eval o env
      standAt apos.atName
      let (f, first) ← holding [ov] (getMethod ov "split" pl)
      callWith pos f first (backTo pos (starEach [] env)) (backToKw pos (keywordEach [] env)))) :
    Ev prog w A r h₀ env C ρ (.Call (.Attribute o "split" apos) [] [] pos) (.dat (.list ((Txt.words x).map .str))) :=
  ev_bmeth (id := "str.split") ho (fun u s Q hu hQ => by
    obtain ⟨t, rfl⟩ := Rd.getStr hu
    exact GM.split hQ) hst evl_nil (fun u us s S hu hus => by
    match us, hus with
    | [], hus =>
      obtain ⟨t, rfl⟩ := Rd.getStr hu
      exact call_split0 S hsz) he
theorem ev_split1 {o e : Expr} {apos pos : Pos} {x y : Str} {pl : Sem Bool} (ho : Ev prog w A r h₀ env C ρ o (.dat (.str x))) (hsep : Ev prog w A r h₀ env C ρ e (.dat (.str y))) (hsz : x.length + 2 ≤ sizeLine) (hy : (y.length == 0) = false) (hst : starEach [e] env = plainArgs [e] env)
    (he : eval (.Call (.Attribute o "split" apos) [e] [] pos) env = (do
      let ov ← eval o env
      standAt apos.atName
      let (f, first) ← holding [ov] (getMethod ov "split" pl)
      callWith pos f first (backTo pos (starEach [e] env)) (backToKw pos (keywordEach [] env)))) :
    Ev prog w A r h₀ env C ρ (.Call (.Attribute o "split" apos) [e] [] pos) (.dat (.list ((Txt.split x y).map .str))) :=
  ev_bmeth (id := "str.split") ho (fun u s Q hu hQ => by
    obtain ⟨t, rfl⟩ := Rd.getStr hu
    exact GM.split hQ) hst (evl_cons hsep evl_nil) (fun u us s S hu hus => by
    match us, hus with
    | [v], hus =>
      obtain ⟨t, rfl⟩ := Rd.getStr hu
      obtain ⟨t', rfl⟩ := Rd.getStr hus.1
      exact call_split1 S hsz hy) he

/-! the largest -/
theorem argBest_gt (f : Nat → Int) : ∀ n, argBest (fun i j => decide (f i > f j)) n ≤ n ∧ ∀ j, j ≤ n → f j ≤ f (argBest (fun i j => decide (f i > f j)) n)
  | 0 => ⟨Nat.le_refl _, fun j hj => by have : j = 0 := by omega
                                        subst this; exact Int.le_refl _⟩
  | n + 1 => by
    obtain ⟨a, b⟩ := argBest_gt f n
    unfold argBest
    by_cases h : f (n + 1) > f (argBest (fun i j => decide (f i > f j)) n)
    · simp only [h, decide_true, if_true]
      refine ⟨Nat.le_refl _, fun j hj => ?_⟩
      by_cases hj' : j ≤ n
      · have := b j hj'; omega
      · have : j = n + 1 := by omega
        subst this; omega
    · simp only [h, decide_false, Bool.false_eq_true, if_false]
      refine ⟨by omega, fun j hj => ?_⟩
      by_cases hj' : j ≤ n
      · exact b j hj'
      · have : j = n + 1 := by omega
        subst this; omega
noncomputable def topI (l : List Int) : Int := l.foldl max (-1)
theorem toks_of {h : Heap} : ∀ {vs : List Value} {ns : List Int}, RdAll h vs (ns.map .int) → ∃ xs : List (Int × Tok), vs = xs.map (fun p => .int p.1 p.2) ∧ xs.map (·.1) = ns
  | [], [], _ => ⟨[], rfl, rfl⟩
  | v :: vs, n :: ns, .cons a r => by
    obtain ⟨t, rfl⟩ := a.getInt
    obtain ⟨xs, rfl, rfl⟩ := toks_of r
    exact ⟨(n, t) :: xs, rfl, rfl⟩
  | [], _ :: _, x => by cases x
  | _ :: _, [], x => by cases x
theorem fn_max {h : Heap} {ns : List Int} {mx : Int} (hh : A.handled = none) (hm : mx ∈ ns) (hx : ∀ n ∈ ns, n ≤ mx) : Fn prog w A h (.builtin "max") [.dat (.list (ns.map .int))] (.dat (.int mx)) := .mk fun s us k x => by
  match us, x with
  | [u], x =>
    obtain ⟨a, vs, nn, rfl, e, R⟩ := Rd.getList x.1
    obtain ⟨xs, hv, rfl⟩ := toks_of R
    have hl : s.heap.IsList a (intItems xs.toArray) := by
      have := isList_of e
      have e2 : vs = intItems xs.toArray := by
        apply Array.toList_inj.mp
        rw [hv]; simp [intItems]
      rwa [e2] at this
    have hpos : 0 < xs.toArray.size := by
      obtain ⟨p, hp, _⟩ := List.mem_map.mp hm
      simpa using List.length_pos_of_mem hp
    refine max_intList hh hl hpos fun v h' tk hv hk => ⟨⟨h', tk, rfl, hk⟩, ?_⟩
    obtain ⟨a1, a2⟩ := argBest_gt (numAt xs.toArray) (xs.toArray.size - 1)
    generalize argBest (fun i j => decide (numAt xs.toArray i > numAt xs.toArray j)) (xs.toArray.size - 1) = j at hv a1 a2
    obtain ⟨t, rfl⟩ := intItems_at hv
    have hj : j < xs.length := by simp at a1 hpos; omega
    have e1 : numAt xs.toArray j = (xs[j]).1 := by simp [numAt, hj]
    have e2 : numAt xs.toArray j ≤ mx := hx _ (by rw [e1]; exact List.mem_map.mpr ⟨_, List.getElem_mem hj, rfl⟩)
    have e3 : mx ≤ numAt xs.toArray j := by
      obtain ⟨p, hp, rfl⟩ := List.mem_map.mp hm
      obtain ⟨i, hi, rfl⟩ := List.getElem_of_mem hp
      have := a2 i (by simp; omega)
      simpa [numAt, hi] using this
    have : numAt xs.toArray j = mx := by omega
    rw [this]
    exact RdN.int _ _ _ _

/-! two names at once -/
theorem ex_unpack2 {x y : Str} {px py tp pos : Pos} {kk : Nat} {e : Expr} {d d' : PyData} {lst : Bool} {rest : List Stmt} {Q : Flow → Shared → Prop} (hh : A.handled = none) (F : Fe env) (hx : Stores env x) (hy : Stores env y)
    (z : Ev prog w A r h₀ env C ρ e (.dat (if lst then .list [d, d'] else .tuple [d, d'])))
    (hs : swapsWithSole [.Tuple [.Name x px, .Name y py] kk tp] e pos.line env = pure false) (hw : swappedStores [.Tuple [.Name x px, .Name y py] kk tp] e env = pure none)
    (ha : assignEach [.Name x px, .Name y py] env = [(false, assign (.Name x px) env), (false, assign (.Name y py) env)])
    (k : Ex prog w A r h₀ env C (upd (upd ρ x (.dat d)) y (.dat d')) rest Q) : Ex prog w A r h₀ env C ρ (.Assign [.Tuple [.Name x px, .Name y py] kk tp] e pos :: rest) Q := .mk fun s S => by
  refine wpAny_execs_cons (Assign_Tuple (z.use S fun u s₁ k₁ S₁ hu => ?_) hs hw)
  rw [PyProof.Rows.assign_Tuple, ha]
  refine wpAny_bind (wpAny_standAt ?_)
  unfold unpack
  refine wpAny_bind (wpAny_holding ?_)
  have go : ∀ (v v' : Value) (h' : Heap), Rd (vis env C h') v d → Rd (vis env C h') v' d' → Heap.ExtBut s₁.heap.objs.size s₁.heap h' → wpAny (model prog w) A (assignInOrder [assign (.Name x px) env, assign (.Name y py) env] [v, v']) (fun _ s' => wpAny (model prog w) A (execs rest env) Q (fun _ _ => False) s') (fun _ _ => False) { s₁ with heap := h' } := fun v v' h' r1 r2 he => by
    have S₂ : St r h₀ env C ρ { s₁ with heap := h' } := S₁.keeps (kp_heap fun b o e => he b o (Nat.ne_of_lt (Heap.lt_size e)) e)
    refine assignInOrder_cons (wpAny_assign_Name (st_store (a := .dat d) F S₂ hx r1 fun s₃ S₃ hv₃ _ => ?_))
    refine assignInOrder_cons (wpAny_assign_Name (st_store (a := .dat d') F S₃ hy (Rd.mono hv₃ r2) fun s₄ S₄ _ _ => ?_))
    exact assignInOrder_nil (k.go s₄ S₄)
  cases lst with
  | true =>
    obtain ⟨a, vs, nn, rfl, e, R⟩ := Rd.getList hu
    have hl := R.length
    obtain ⟨vl⟩ := vs
    match vl, R with
    | [v, v'], .cons r1 (.cons r2 .nil) =>
      refine kun_itemsOf (items := #[v, v']) hh (isList_of (vis_sub _ _ _ e)) fun h' he => ?_
      have sub : Sub (vis env C s₁.heap) (vis env C h') := vis_mono fun b o e => he b o (Nat.ne_of_lt (Heap.lt_size e)) e
      exact go v v' h' (r1.mono sub) (r2.mono sub) he
  | false =>
    obtain ⟨a, vs, nn, rfl, e, R⟩ := Rd.getTuple hu
    have hl := R.length
    obtain ⟨vl⟩ := vs
    match vl, R with
    | [v, v'], .cons r1 (.cons r2 .nil) =>
      refine wpAny_unpackItems_tuple (items := #[v, v']) hh (isTuple_of (vis_sub _ _ _ e)) fun h' he => ?_
      have sub : Sub (vis env C s₁.heap) (vis env C h') := vis_mono fun b o e => he b o (Nat.ne_of_lt (Heap.lt_size e)) e
      exact go v v' h' (r1.mono sub) (r2.mono sub) he
end
end

section

noncomputable abbrev PP : Program := PySem.Challenge.pw_nt0599_01
noncomputable def tops (i : Nat) : Stmt := PP.main.body.getD i default
noncomputable def inC (st : Stmt) (j : Nat) : Stmt := match st with
  | .ClassDef _ _ _ b _ _ _ _ _ _ _ => b.getD j default
  | _ => default
noncomputable def bodyOf (st : Stmt) : List Stmt := match st with
  | .FunctionDef _ _ body _ _ _ _ _ _ _ => body
  | _ => []
noncomputable def fdG (st : Stmt) (qual : Str) (g : Addr) (cl : List (Str × Addr)) (dV kV doc pm : Value) (an : Option Addr) (code ct : Value) (b : Addr) : FuncData := match st with
  | .FunctionDef name args body _ _ _ scope _ _ _ => { name, qualname := qual, params := args, body := .stmts body, scope := scope, globals := g, closure := cl, defaults := dV, kwdefaults := kV, doc := doc, pyModule := pm, annotations := an, code := code, closureTuple := ct, builtins := b }
  | _ => default
/-! the objects of the top's run -/
noncomputable abbrev ob (c : Value) (d : Data) : Obj := ⟨c, none, d, #[]⟩
noncomputable abbrev ky (P : Params) (x : Str) (t : Tok) (v : Value) : DictEntry := ⟨PyData.keyHash P x, .str x t, v⟩
noncomputable def obj0 (P : Params) : Obj := ob (.type "tuple") (.seq (List.toArray []) 0)
noncomputable def obj1 (P : Params) : Obj := ob .none (.fields (List.toArray []))
noncomputable def obj2 (P : Params) : Obj := ob (.type "code") (.fields (List.toArray [(.str "<module>" 182), (.str "<module>" 183), (.str "/claim/cut.py" 184), (.int 1 0), (.int 0 0), (.int 0 0), (.int 0 0), (.int 0 0), (.ref 11), (.bool false), (.int 181 0), (.ref 12), .none, .none, .none, .none, (.int 185 0), (.int 1 0), (.str "/claim/cut.py" 186)]))
noncomputable def obj3 (P : Params) : Obj := (PySem.Obj.mk (.type "frame") none .plain (List.toArray [(some (.ref 13)), (some (.ref 3)), (some (.ref 3)), none, (some (.str "__main__" 164)), none, (some (.ref 0))]))
noncomputable def obj4 (P : Params) : Obj := ob (.type "dict") (.dict (List.toArray [(ky P "__name__" 165 (.str "htmltree.openstack" 194)), (ky P "__doc__" 166 .none), (ky P "__package__" 167 .none), (ky P "__loader__" 168 (.builtin "__main__.__loader__#opaque")), (ky P "__spec__" 169 .none), (ky P "__annotations__" 170 (.ref 6)), (ky P "__builtins__" 171 (.ref 4)), (ky P "__file__" 173 (.str "/claim/cut.py" 172)), (ky P "__cached__" 174 .none), (ky P "_wall" 193 (.ref 21)), (ky P "OpenStack" 320 (.ref 122))]) 11)
noncomputable def obj5 (P : Params) : Obj := ob .none (.fields (List.toArray [(.int 1 0), (.int 0 0), (.ref 20), (.int 5 0), (.int 0 0), (.ref 27)]))
noncomputable def obj6 (P : Params) : Obj := ob (.type "tuple") (.seq (List.toArray [(.str "k" 190)]) 0)
noncomputable def obj7 (P : Params) : Obj := ob .none (.func (fdG (tops 0) "_wall" 0 [] .none .none .none .none none .none .none 0))
noncomputable def obj8 (P : Params) : Obj := ob (.type "code") (.fields (List.toArray [(.str "_wall" 187), (.str "_wall" 188), (.str "/claim/cut.py" 189), (.int 1 0), (.int 1 0), (.int 0 0), (.int 0 0), (.int 3 0), (.ref 15), (.bool true), (.int 181 0), (.ref 16), .none, (.ref 17), (.ref 18), (.ref 19), (.int 191 0), (.int 1 0), (.str "/claim/cut.py" 192)]))
noncomputable def obj9 (P : Params) : Obj := ob (.type "function") (.func (fdG (tops 0) "_wall" 3 [] .none .none .none (.str "__main__" 164) none (.ref 20) .none 0))
noncomputable def obj10 (P : Params) : Obj := ob (.type "builtin_function_or_method") (.fields (List.toArray [(.builtin "type.__prepare__"), (.type "type")]))
noncomputable def obj11 (P : Params) : Obj := ob (.type "dict") (.dict (List.toArray [(ky P "__module__" 203 (.str "htmltree.openstack" 194)), (ky P "__qualname__" 205 (.str "OpenStack" 204)), (ky P "__firstlineno__" 207 (.int 5 206)), (ky P "__init__" 215 (.ref 35)), (ky P "push" 223 (.ref 42)), (ky P "pop" 230 (.ref 49)), (ky P "current" 237 (.ref 56)), (ky P "many" 244 (.ref 63)), (ky P "has" 252 (.ref 70)), (ky P "remove" 260 (.ref 77)), (ky P "place" 268 (.ref 84)), (ky P "put_at" 277 (.ref 91)), (ky P "name" 285 (.ref 98)), (ky P "has_name" 294 (.ref 105)), (ky P "pop_until" 302 (.ref 112)), (ky P "pop_to" 310 (.ref 119)), (ky P "__static_attributes__" 313 (.ref 120))]) 17)
noncomputable def obj12 (P : Params) : Obj := ob .none (.fields (List.toArray [(.int 7 0), (.int 4 0), (.ref 34), (.int 11 0), (.int 4 0), (.ref 41), (.int 14 0), (.int 4 0), (.ref 48), (.int 19 0), (.int 4 0), (.ref 55), (.int 24 0), (.int 4 0), (.ref 62), (.int 27 0), (.int 4 0), (.ref 69), (.int 30 0), (.int 4 0), (.ref 76), (.int 34 0), (.int 4 0), (.ref 83), (.int 39 0), (.int 4 0), (.ref 90), (.int 42 0), (.int 4 0), (.ref 97), (.int 48 0), (.int 4 0), (.ref 104), (.int 54 0), (.int 4 0), (.ref 111), (.int 57 0), (.int 4 0), (.ref 118)]))
noncomputable def obj13 (P : Params) : Obj := ob (.type "code") (.fields (List.toArray [(.str "OpenStack" 198), (.str "OpenStack" 199), (.str "/claim/cut.py" 200), (.int 5 0), (.int 0 0), (.int 0 0), (.int 0 0), (.int 0 0), (.ref 25), (.bool false), (.int 181 0), (.ref 26), .none, .none, .none, .none, (.int 201 0), (.int 5 0), (.str "/claim/cut.py" 202)]))
noncomputable def obj14 (P : Params) : Obj := (PySem.Obj.mk (.type "frame") none .plain (List.toArray [(some (.ref 27)), (some (.ref 3)), (some (.ref 24)), none, (some (.str "htmltree.openstack" 194)), none, (some (.ref 0))]))
noncomputable def obj15 (P : Params) : Obj := ob (.type "tuple") (.seq (List.toArray [(.str "self" 211), (.str "tree" 212)]) 0)
noncomputable def obj16 (P : Params) : Obj := ob .none (.func (fdG (inC (tops 2) 0) "OpenStack.__init__" 0 [] .none .none .none .none none .none .none 0))
noncomputable def obj17 (P : Params) : Obj := ob (.type "code") (.fields (List.toArray [(.str "__init__" 208), (.str "OpenStack.__init__" 209), (.str "/claim/cut.py" 210), (.int 7 0), (.int 2 0), (.int 0 0), (.int 0 0), (.int 3 0), (.ref 29), (.bool true), (.int 181 0), (.ref 30), .none, (.ref 31), (.ref 32), (.ref 33), (.int 213 0), (.int 7 0), (.str "/claim/cut.py" 214)]))
noncomputable def obj18 (P : Params) : Obj := ob (.type "function") (.func (fdG (inC (tops 2) 0) "OpenStack.__init__" 3 [] .none .none .none (.str "htmltree.openstack" 194) none (.ref 34) .none 0))
noncomputable def obj19 (P : Params) : Obj := ob (.type "tuple") (.seq (List.toArray [(.str "self" 219), (.str "node" 220)]) 0)
noncomputable def obj20 (P : Params) : Obj := ob .none (.func (fdG (inC (tops 2) 1) "OpenStack.push" 0 [] .none .none .none .none none .none .none 0))
noncomputable def obj21 (P : Params) : Obj := ob (.type "code") (.fields (List.toArray [(.str "push" 216), (.str "OpenStack.push" 217), (.str "/claim/cut.py" 218), (.int 11 0), (.int 2 0), (.int 0 0), (.int 0 0), (.int 3 0), (.ref 36), (.bool true), (.int 181 0), (.ref 37), .none, (.ref 38), (.ref 39), (.ref 40), (.int 221 0), (.int 11 0), (.str "/claim/cut.py" 222)]))
noncomputable def obj22 (P : Params) : Obj := ob (.type "function") (.func (fdG (inC (tops 2) 1) "OpenStack.push" 3 [] .none .none .none (.str "htmltree.openstack" 194) none (.ref 41) .none 0))
noncomputable def obj23 (P : Params) : Obj := ob (.type "tuple") (.seq (List.toArray [(.str "self" 227)]) 0)
noncomputable def obj24 (P : Params) : Obj := ob .none (.func (fdG (inC (tops 2) 2) "OpenStack.pop" 0 [] .none .none .none .none none .none .none 0))
noncomputable def obj25 (P : Params) : Obj := ob (.type "code") (.fields (List.toArray [(.str "pop" 224), (.str "OpenStack.pop" 225), (.str "/claim/cut.py" 226), (.int 14 0), (.int 1 0), (.int 0 0), (.int 0 0), (.int 3 0), (.ref 43), (.bool true), (.int 181 0), (.ref 44), .none, (.ref 45), (.ref 46), (.ref 47), (.int 228 0), (.int 14 0), (.str "/claim/cut.py" 229)]))
noncomputable def obj26 (P : Params) : Obj := ob (.type "function") (.func (fdG (inC (tops 2) 2) "OpenStack.pop" 3 [] .none .none .none (.str "htmltree.openstack" 194) none (.ref 48) .none 0))
noncomputable def obj27 (P : Params) : Obj := ob (.type "tuple") (.seq (List.toArray [(.str "self" 234)]) 0)
noncomputable def obj28 (P : Params) : Obj := ob .none (.func (fdG (inC (tops 2) 3) "OpenStack.current" 0 [] .none .none .none .none none .none .none 0))
noncomputable def obj29 (P : Params) : Obj := ob (.type "code") (.fields (List.toArray [(.str "current" 231), (.str "OpenStack.current" 232), (.str "/claim/cut.py" 233), (.int 19 0), (.int 1 0), (.int 0 0), (.int 0 0), (.int 3 0), (.ref 50), (.bool true), (.int 181 0), (.ref 51), .none, (.ref 52), (.ref 53), (.ref 54), (.int 235 0), (.int 19 0), (.str "/claim/cut.py" 236)]))
noncomputable def obj30 (P : Params) : Obj := ob (.type "function") (.func (fdG (inC (tops 2) 3) "OpenStack.current" 3 [] .none .none .none (.str "htmltree.openstack" 194) none (.ref 55) .none 0))
noncomputable def obj31 (P : Params) : Obj := ob (.type "tuple") (.seq (List.toArray [(.str "self" 241)]) 0)
noncomputable def obj32 (P : Params) : Obj := ob .none (.func (fdG (inC (tops 2) 4) "OpenStack.many" 0 [] .none .none .none .none none .none .none 0))
noncomputable def obj33 (P : Params) : Obj := ob (.type "code") (.fields (List.toArray [(.str "many" 238), (.str "OpenStack.many" 239), (.str "/claim/cut.py" 240), (.int 24 0), (.int 1 0), (.int 0 0), (.int 0 0), (.int 3 0), (.ref 57), (.bool true), (.int 181 0), (.ref 58), .none, (.ref 59), (.ref 60), (.ref 61), (.int 242 0), (.int 24 0), (.str "/claim/cut.py" 243)]))
noncomputable def obj34 (P : Params) : Obj := ob (.type "function") (.func (fdG (inC (tops 2) 4) "OpenStack.many" 3 [] .none .none .none (.str "htmltree.openstack" 194) none (.ref 62) .none 0))
noncomputable def obj35 (P : Params) : Obj := ob (.type "tuple") (.seq (List.toArray [(.str "self" 248), (.str "node" 249)]) 0)
noncomputable def obj36 (P : Params) : Obj := ob .none (.func (fdG (inC (tops 2) 5) "OpenStack.has" 0 [] .none .none .none .none none .none .none 0))
noncomputable def obj37 (P : Params) : Obj := ob (.type "code") (.fields (List.toArray [(.str "has" 245), (.str "OpenStack.has" 246), (.str "/claim/cut.py" 247), (.int 27 0), (.int 2 0), (.int 0 0), (.int 0 0), (.int 3 0), (.ref 64), (.bool true), (.int 181 0), (.ref 65), .none, (.ref 66), (.ref 67), (.ref 68), (.int 250 0), (.int 27 0), (.str "/claim/cut.py" 251)]))
noncomputable def obj38 (P : Params) : Obj := ob (.type "function") (.func (fdG (inC (tops 2) 5) "OpenStack.has" 3 [] .none .none .none (.str "htmltree.openstack" 194) none (.ref 69) .none 0))
noncomputable def obj39 (P : Params) : Obj := ob (.type "tuple") (.seq (List.toArray [(.str "self" 256), (.str "node" 257)]) 0)
noncomputable def obj40 (P : Params) : Obj := ob .none (.func (fdG (inC (tops 2) 6) "OpenStack.remove" 0 [] .none .none .none .none none .none .none 0))
noncomputable def obj41 (P : Params) : Obj := ob (.type "code") (.fields (List.toArray [(.str "remove" 253), (.str "OpenStack.remove" 254), (.str "/claim/cut.py" 255), (.int 30 0), (.int 2 0), (.int 0 0), (.int 0 0), (.int 3 0), (.ref 71), (.bool true), (.int 181 0), (.ref 72), .none, (.ref 73), (.ref 74), (.ref 75), (.int 258 0), (.int 30 0), (.str "/claim/cut.py" 259)]))
noncomputable def obj42 (P : Params) : Obj := ob (.type "function") (.func (fdG (inC (tops 2) 6) "OpenStack.remove" 3 [] .none .none .none (.str "htmltree.openstack" 194) none (.ref 76) .none 0))
noncomputable def obj43 (P : Params) : Obj := ob (.type "tuple") (.seq (List.toArray [(.str "self" 264), (.str "node" 265)]) 0)
noncomputable def obj44 (P : Params) : Obj := ob .none (.func (fdG (inC (tops 2) 7) "OpenStack.place" 0 [] .none .none .none .none none .none .none 0))
noncomputable def obj45 (P : Params) : Obj := ob (.type "code") (.fields (List.toArray [(.str "place" 261), (.str "OpenStack.place" 262), (.str "/claim/cut.py" 263), (.int 34 0), (.int 2 0), (.int 0 0), (.int 0 0), (.int 3 0), (.ref 78), (.bool true), (.int 181 0), (.ref 79), .none, (.ref 80), (.ref 81), (.ref 82), (.int 266 0), (.int 34 0), (.str "/claim/cut.py" 267)]))
noncomputable def obj46 (P : Params) : Obj := ob (.type "function") (.func (fdG (inC (tops 2) 7) "OpenStack.place" 3 [] .none .none .none (.str "htmltree.openstack" 194) none (.ref 83) .none 0))
noncomputable def obj47 (P : Params) : Obj := ob (.type "tuple") (.seq (List.toArray [(.str "self" 272), (.str "place" 273), (.str "node" 274)]) 0)
noncomputable def obj48 (P : Params) : Obj := ob .none (.func (fdG (inC (tops 2) 8) "OpenStack.put_at" 0 [] .none .none .none .none none .none .none 0))
noncomputable def obj49 (P : Params) : Obj := ob (.type "code") (.fields (List.toArray [(.str "put_at" 269), (.str "OpenStack.put_at" 270), (.str "/claim/cut.py" 271), (.int 39 0), (.int 3 0), (.int 0 0), (.int 0 0), (.int 3 0), (.ref 85), (.bool true), (.int 181 0), (.ref 86), .none, (.ref 87), (.ref 88), (.ref 89), (.int 275 0), (.int 39 0), (.str "/claim/cut.py" 276)]))
noncomputable def obj50 (P : Params) : Obj := ob (.type "function") (.func (fdG (inC (tops 2) 8) "OpenStack.put_at" 3 [] .none .none .none (.str "htmltree.openstack" 194) none (.ref 90) .none 0))
noncomputable def obj51 (P : Params) : Obj := ob (.type "tuple") (.seq (List.toArray [(.str "self" 281), (.str "node" 282)]) 0)
noncomputable def obj52 (P : Params) : Obj := ob .none (.func (fdG (inC (tops 2) 9) "OpenStack.name" 0 [] .none .none .none .none none .none .none 0))
noncomputable def obj53 (P : Params) : Obj := ob (.type "code") (.fields (List.toArray [(.str "name" 278), (.str "OpenStack.name" 279), (.str "/claim/cut.py" 280), (.int 42 0), (.int 1 0), (.int 0 0), (.int 0 0), (.int 3 0), (.ref 92), (.bool true), (.int 181 0), (.ref 93), .none, (.ref 94), (.ref 95), (.ref 96), (.int 283 0), (.int 42 0), (.str "/claim/cut.py" 284)]))
noncomputable def obj54 (P : Params) : Obj := ob (.type "function") (.func (fdG (inC (tops 2) 9) "OpenStack.name" 3 [] .none .none .none (.str "htmltree.openstack" 194) none (.ref 97) .none 0))
noncomputable def obj55 (P : Params) : Obj := ob (.type "tuple") (.seq (List.toArray [(.str "self" 289), (.str "name" 290), (.str "node" 291)]) 0)
noncomputable def obj56 (P : Params) : Obj := ob .none (.func (fdG (inC (tops 2) 10) "OpenStack.has_name" 0 [] .none .none .none .none none .none .none 0))
noncomputable def obj57 (P : Params) : Obj := ob (.type "code") (.fields (List.toArray [(.str "has_name" 286), (.str "OpenStack.has_name" 287), (.str "/claim/cut.py" 288), (.int 48 0), (.int 2 0), (.int 0 0), (.int 0 0), (.int 3 0), (.ref 99), (.bool true), (.int 181 0), (.ref 100), .none, (.ref 101), (.ref 102), (.ref 103), (.int 292 0), (.int 48 0), (.str "/claim/cut.py" 293)]))
noncomputable def obj58 (P : Params) : Obj := ob (.type "function") (.func (fdG (inC (tops 2) 10) "OpenStack.has_name" 3 [] .none .none .none (.str "htmltree.openstack" 194) none (.ref 104) .none 0))
noncomputable def obj59 (P : Params) : Obj := ob (.type "tuple") (.seq (List.toArray [(.str "self" 298), (.str "names" 299)]) 0)
noncomputable def obj60 (P : Params) : Obj := ob .none (.func (fdG (inC (tops 2) 11) "OpenStack.pop_until" 0 [] .none .none .none .none none .none .none 0))
noncomputable def obj61 (P : Params) : Obj := ob (.type "code") (.fields (List.toArray [(.str "pop_until" 295), (.str "OpenStack.pop_until" 296), (.str "/claim/cut.py" 297), (.int 54 0), (.int 2 0), (.int 0 0), (.int 0 0), (.int 3 0), (.ref 106), (.bool true), (.int 181 0), (.ref 107), .none, (.ref 108), (.ref 109), (.ref 110), (.int 300 0), (.int 54 0), (.str "/claim/cut.py" 301)]))
noncomputable def obj62 (P : Params) : Obj := ob (.type "function") (.func (fdG (inC (tops 2) 11) "OpenStack.pop_until" 3 [] .none .none .none (.str "htmltree.openstack" 194) none (.ref 111) .none 0))
noncomputable def obj63 (P : Params) : Obj := ob (.type "tuple") (.seq (List.toArray [(.str "self" 306), (.str "names" 307)]) 0)
noncomputable def obj64 (P : Params) : Obj := ob .none (.func (fdG (inC (tops 2) 12) "OpenStack.pop_to" 0 [] .none .none .none .none none .none .none 0))
noncomputable def obj65 (P : Params) : Obj := ob (.type "code") (.fields (List.toArray [(.str "pop_to" 303), (.str "OpenStack.pop_to" 304), (.str "/claim/cut.py" 305), (.int 57 0), (.int 2 0), (.int 0 0), (.int 0 0), (.int 3 0), (.ref 113), (.bool true), (.int 181 0), (.ref 114), .none, (.ref 115), (.ref 116), (.ref 117), (.int 308 0), (.int 57 0), (.str "/claim/cut.py" 309)]))
noncomputable def obj66 (P : Params) : Obj := ob (.type "function") (.func (fdG (inC (tops 2) 12) "OpenStack.pop_to" 3 [] .none .none .none (.str "htmltree.openstack" 194) none (.ref 118) .none 0))
noncomputable def obj67 (P : Params) : Obj := ob (.type "tuple") (.seq (List.toArray [(.str "items" 311), (.str "tree" 312)]) 0)
noncomputable def obj68 (P : Params) : Obj := ob (.type "dict") (.dict (List.toArray [(ky P "__module__" 203 (.str "htmltree.openstack" 194)), (ky P "__firstlineno__" 207 (.int 5 206)), (ky P "__init__" 215 (.ref 35)), (ky P "push" 223 (.ref 42)), (ky P "pop" 230 (.ref 49)), (ky P "current" 237 (.ref 56)), (ky P "many" 244 (.ref 63)), (ky P "has" 252 (.ref 70)), (ky P "remove" 260 (.ref 77)), (ky P "place" 268 (.ref 84)), (ky P "put_at" 277 (.ref 91)), (ky P "name" 285 (.ref 98)), (ky P "has_name" 294 (.ref 105)), (ky P "pop_until" 302 (.ref 112)), (ky P "pop_to" 310 (.ref 119)), (ky P "__static_attributes__" 313 (.ref 120)), (ky P "__dict__" 315 (.ref 123)), (ky P "__weakref__" 317 (.ref 124)), (ky P "__doc__" 318 .none)]) 4)
noncomputable def obj69 (P : Params) : Obj := (PySem.Obj.mk (.type "type") none (.cls (PySem.ClassData.mk "OpenStack" [(.type "object")] [(.ref 122), (.type "object")] 121 "OpenStack" true [] [] false none false)) (List.toArray [none, none, (some (.str "OpenStack" 196)), (some (.str "OpenStack" 204)), (some (.builtin "object.__new__")), (some (.bool true))]))
noncomputable def obj70 (P : Params) : Obj := ob (.type "getset_descriptor") (.fields (List.toArray [(.str "__dict__" 314), (.ref 122), (.builtin "function.__dict__"), (.builtin "function.__dict__#set")]))
noncomputable def obj71 (P : Params) : Obj := ob (.type "getset_descriptor") (.fields (List.toArray [(.str "__weakref__" 316), (.ref 122), (.builtin "ExceptionGroup.__weakref__"), .none]))
noncomputable def obj72 (P : Params) : Obj := ob (.type "super") (.fields (List.toArray [(.ref 122), (.ref 122), (.ref 122)]))
noncomputable def obj73 (P : Params) : Obj := ob (.type "builtin_function_or_method") (.fields (List.toArray [(.builtin "object.__init_subclass__"), (.ref 122)]))
noncomputable def obj74 (P : Params) : Obj := ob .none (.dict (List.toArray [(ky P "type.__subclasses__.Exception.0" 383 (.int 166 0)), (ky P "type.__subclasses__.Exception.n" 384 (.int 1 0))]) 2)
noncomputable def obj75 (P : Params) : Obj := ob (.type "dict") (.dict (List.toArray [(ky P "__name__" 165 (.str "htmltree.tree" 403)), (ky P "__doc__" 166 .none), (ky P "__package__" 167 .none), (ky P "__loader__" 168 (.builtin "__main__.__loader__#opaque")), (ky P "__spec__" 169 .none), (ky P "__annotations__" 170 (.ref 6)), (ky P "__builtins__" 171 (.ref 4)), (ky P "__file__" 173 (.str "/claim/cut.py" 172)), (ky P "__cached__" 174 .none), (ky P "_wall" 193 (.ref 21)), (ky P "OpenStack" 320 (.ref 122)), (ky P "stops_scope" 331 (.ref 133)), (ky P "in_scope" 344 (.ref 141)), (ky P "node_in_scope" 355 (.ref 149)), (ky P "HtmlFault" 386 (.ref 166)), (ky P "Misused" 402 (.ref 179))]) 16)
noncomputable def obj76 (P : Params) : Obj := ob .none (.fields (List.toArray [(.int 1 0), (.int 0 0), (.ref 20), (.int 5 0), (.int 0 0), (.ref 27), (.int 59 0), (.int 0 0), (.ref 132), (.int 75 0), (.int 0 0), (.ref 140), (.int 84 0), (.int 0 0), (.ref 148), (.int 92 0), (.int 0 0), (.ref 155), (.int 97 0), (.int 0 0), (.ref 175)]))
noncomputable def obj77 (P : Params) : Obj := ob (.type "tuple") (.seq (List.toArray [(.str "tree" 324), (.str "node" 325), (.str "sort" 326), (.str "space" 327), (.str "name" 328)]) 0)
noncomputable def obj78 (P : Params) : Obj := ob .none (.func (fdG (tops 3) "stops_scope" 0 [] .none .none .none .none none .none .none 0))
noncomputable def obj79 (P : Params) : Obj := ob (.type "code") (.fields (List.toArray [(.str "stops_scope" 321), (.str "stops_scope" 322), (.str "/claim/cut.py" 323), (.int 59 0), (.int 3 0), (.int 0 0), (.int 0 0), (.int 3 0), (.ref 127), (.bool true), (.int 181 0), (.ref 128), .none, (.ref 129), (.ref 130), (.ref 131), (.int 329 0), (.int 59 0), (.str "/claim/cut.py" 330)]))
noncomputable def obj80 (P : Params) : Obj := ob (.type "function") (.func (fdG (tops 3) "stops_scope" 3 [] .none .none .none (.str "htmltree.openstack" 194) none (.ref 132) .none 0))
noncomputable def obj81 (P : Params) : Obj := ob (.type "tuple") (.seq (List.toArray [(.str "" 332)]) 0)
noncomputable def obj82 (P : Params) : Obj := ob (.type "tuple") (.seq (List.toArray [(.str "stack" 336), (.str "names" 337), (.str "sort" 338), (.str "tree" 339), (.str "at" 340), (.str "node" 341)]) 0)
noncomputable def obj83 (P : Params) : Obj := ob .none (.func (fdG (tops 4) "in_scope" 0 [] .none .none .none .none none .none .none 0))
noncomputable def obj84 (P : Params) : Obj := ob (.type "code") (.fields (List.toArray [(.str "in_scope" 333), (.str "in_scope" 334), (.str "/claim/cut.py" 335), (.int 75 0), (.int 3 0), (.int 0 0), (.int 0 0), (.int 3 0), (.ref 135), (.bool true), (.int 181 0), (.ref 136), .none, (.ref 137), (.ref 138), (.ref 139), (.int 342 0), (.int 75 0), (.str "/claim/cut.py" 343)]))
noncomputable def obj85 (P : Params) : Obj := ob (.type "function") (.func (fdG (tops 4) "in_scope" 3 [] (.ref 134) .none .none (.str "htmltree.openstack" 194) none (.ref 140) .none 0))
noncomputable def obj86 (P : Params) : Obj := ob (.type "tuple") (.seq (List.toArray [(.str "" 345)]) 0)
noncomputable def obj87 (P : Params) : Obj := ob (.type "tuple") (.seq (List.toArray [(.str "stack" 349), (.str "node" 350), (.str "sort" 351), (.str "at" 352)]) 0)
noncomputable def obj88 (P : Params) : Obj := ob .none (.func (fdG (tops 5) "node_in_scope" 0 [] .none .none .none .none none .none .none 0))
noncomputable def obj89 (P : Params) : Obj := ob (.type "code") (.fields (List.toArray [(.str "node_in_scope" 346), (.str "node_in_scope" 347), (.str "/claim/cut.py" 348), (.int 84 0), (.int 3 0), (.int 0 0), (.int 0 0), (.int 3 0), (.ref 143), (.bool true), (.int 181 0), (.ref 144), .none, (.ref 145), (.ref 146), (.ref 147), (.int 353 0), (.int 84 0), (.str "/claim/cut.py" 354)]))
noncomputable def obj90 (P : Params) : Obj := ob (.type "function") (.func (fdG (tops 5) "node_in_scope" 3 [] (.ref 142) .none .none (.str "htmltree.openstack" 194) none (.ref 148) .none 0))
noncomputable def obj91 (P : Params) : Obj := ob (.type "tuple") (.seq (List.toArray [(.type "Exception")]) 0)
noncomputable def obj92 (P : Params) : Obj := ob (.type "dict") (.dict (List.toArray [(ky P "__module__" 365 (.str "htmltree.faults" 356)), (ky P "__qualname__" 367 (.str "HtmlFault" 366)), (ky P "__firstlineno__" 369 (.int 92 368)), (ky P "__init__" 377 (.ref 163)), (ky P "__static_attributes__" 379 (.ref 164))]) 5)
noncomputable def obj93 (P : Params) : Obj := ob .none (.fields (List.toArray [(.int 94 0), (.int 4 0), (.ref 162)]))
noncomputable def obj94 (P : Params) : Obj := ob (.type "code") (.fields (List.toArray [(.str "HtmlFault" 360), (.str "HtmlFault" 361), (.str "/claim/cut.py" 362), (.int 92 0), (.int 0 0), (.int 0 0), (.int 0 0), (.int 0 0), (.ref 153), (.bool false), (.int 181 0), (.ref 154), .none, .none, .none, .none, (.int 363 0), (.int 92 0), (.str "/claim/cut.py" 364)]))
noncomputable def obj95 (P : Params) : Obj := (PySem.Obj.mk (.type "frame") none .plain (List.toArray [(some (.ref 155)), (some (.ref 3)), (some (.ref 152)), none, (some (.str "htmltree.faults" 356)), none, (some (.ref 0))]))
noncomputable def obj96 (P : Params) : Obj := ob (.type "tuple") (.seq (List.toArray [(.str "self" 373), (.str "why" 374)]) 0)
noncomputable def obj97 (P : Params) : Obj := ob .none (.func (fdG (inC (tops 7) 0) "HtmlFault.__init__" 0 [] .none .none .none .none none .none .none 0))
noncomputable def obj98 (P : Params) : Obj := ob (.type "code") (.fields (List.toArray [(.str "__init__" 370), (.str "HtmlFault.__init__" 371), (.str "/claim/cut.py" 372), (.int 94 0), (.int 2 0), (.int 0 0), (.int 0 0), (.int 3 0), (.ref 157), (.bool true), (.int 181 0), (.ref 158), .none, (.ref 159), (.ref 160), (.ref 161), (.int 375 0), (.int 94 0), (.str "/claim/cut.py" 376)]))
noncomputable def obj99 (P : Params) : Obj := ob (.type "function") (.func (fdG (inC (tops 7) 0) "HtmlFault.__init__" 3 [] .none .none .none (.str "htmltree.faults" 356) none (.ref 162) .none 0))
noncomputable def obj100 (P : Params) : Obj := ob (.type "tuple") (.seq (List.toArray [(.str "why" 378)]) 0)
noncomputable def obj101 (P : Params) : Obj := ob (.type "dict") (.dict (List.toArray [(ky P "__module__" 365 (.str "htmltree.faults" 356)), (ky P "__firstlineno__" 369 (.int 92 368)), (ky P "__init__" 377 (.ref 163)), (ky P "__static_attributes__" 379 (.ref 164)), (ky P "__weakref__" 381 (.ref 167)), (ky P "__doc__" 382 .none)]) 3)
noncomputable def obj102 (P : Params) : Obj := (PySem.Obj.mk (.type "type") none (.cls (PySem.ClassData.mk "HtmlFault" [(.type "Exception")] [(.ref 166), (.type "Exception"), (.type "BaseException"), (.type "object")] 165 "HtmlFault" true [] [(.ref 179)] false none false)) (List.toArray [(some (.ref 150)), none, (some (.str "HtmlFault" 358)), (some (.str "HtmlFault" 366)), (some (.builtin "Exception.__new__")), (some (.bool true))]))
noncomputable def obj103 (P : Params) : Obj := ob (.type "getset_descriptor") (.fields (List.toArray [(.str "__weakref__" 380), (.ref 166), (.builtin "ExceptionGroup.__weakref__"), .none]))
noncomputable def obj104 (P : Params) : Obj := ob (.type "super") (.fields (List.toArray [(.ref 166), (.ref 166), (.ref 166)]))
noncomputable def obj105 (P : Params) : Obj := ob (.type "builtin_function_or_method") (.fields (List.toArray [(.builtin "object.__init_subclass__"), (.ref 166)]))
noncomputable def obj106 (P : Params) : Obj := ob (.type "tuple") (.seq (List.toArray [(.ref 166)]) 0)
noncomputable def obj107 (P : Params) : Obj := ob (.type "dict") (.dict (List.toArray [(ky P "__module__" 394 (.str "htmltree.faults" 356)), (ky P "__qualname__" 396 (.str "Misused" 395)), (ky P "__firstlineno__" 398 (.int 97 397)), (ky P "__static_attributes__" 399 (.ref 177))]) 4)
noncomputable def obj108 (P : Params) : Obj := ob (.type "code") (.fields (List.toArray [(.str "Misused" 389), (.str "Misused" 390), (.str "/claim/cut.py" 391), (.int 97 0), (.int 0 0), (.int 0 0), (.int 0 0), (.int 0 0), (.ref 173), (.bool false), (.int 181 0), (.ref 174), .none, .none, .none, .none, (.int 392 0), (.int 97 0), (.str "/claim/cut.py" 393)]))
noncomputable def obj109 (P : Params) : Obj := (PySem.Obj.mk (.type "frame") none .plain (List.toArray [(some (.ref 175)), (some (.ref 3)), (some (.ref 172)), none, (some (.str "htmltree.faults" 356)), none, (some (.ref 0))]))
noncomputable def obj110 (P : Params) : Obj := ob (.type "dict") (.dict (List.toArray [(ky P "__module__" 394 (.str "htmltree.faults" 356)), (ky P "__firstlineno__" 398 (.int 97 397)), (ky P "__static_attributes__" 399 (.ref 177)), (ky P "__doc__" 400 .none)]) 2)
noncomputable def obj111 (P : Params) : Obj := (PySem.Obj.mk (.type "type") none (.cls (PySem.ClassData.mk "Misused" [(.ref 166)] [(.ref 179), (.ref 166), (.type "Exception"), (.type "BaseException"), (.type "object")] 178 "Misused" true [] [] false none false)) (List.toArray [(some (.ref 170)), none, (some (.str "Misused" 387)), (some (.str "Misused" 395)), (some (.builtin "Exception.__new__")), (some (.bool true))]))
noncomputable def obj112 (P : Params) : Obj := ob (.type "super") (.fields (List.toArray [(.ref 179), (.ref 179), (.ref 179)]))
noncomputable def obj113 (P : Params) : Obj := ob (.type "builtin_function_or_method") (.fields (List.toArray [(.builtin "object.__init_subclass__"), (.ref 179)]))
noncomputable def obj114 (P : Params) : Obj := ob (.type "dict") (.dict (List.toArray [(ky P "__name__" 165 (.str "htmltree.tree" 403)), (ky P "__doc__" 166 .none), (ky P "__package__" 167 .none), (ky P "__loader__" 168 (.builtin "__main__.__loader__#opaque")), (ky P "__spec__" 169 .none), (ky P "__annotations__" 170 (.ref 6)), (ky P "__builtins__" 171 (.ref 4)), (ky P "__file__" 173 (.str "/claim/cut.py" 172)), (ky P "__cached__" 174 .none), (ky P "_wall" 193 (.ref 21)), (ky P "OpenStack" 320 (.ref 122)), (ky P "stops_scope" 331 (.ref 133)), (ky P "in_scope" 344 (.ref 141)), (ky P "node_in_scope" 355 (.ref 149)), (ky P "HtmlFault" 386 (.ref 166)), (ky P "Misused" 402 (.ref 179)), (ky P "Tree" 565 (.ref 294))]) 17)
noncomputable def obj115 (P : Params) : Obj := ob .none (.fields (List.toArray [(.int 1 0), (.int 0 0), (.ref 20), (.int 5 0), (.int 0 0), (.ref 27), (.int 59 0), (.int 0 0), (.ref 132), (.int 75 0), (.int 0 0), (.ref 140), (.int 84 0), (.int 0 0), (.ref 148), (.int 92 0), (.int 0 0), (.ref 155), (.int 97 0), (.int 0 0), (.ref 175), (.int 100 0), (.int 0 0), (.ref 187)]))
noncomputable def obj116 (P : Params) : Obj := ob (.type "dict") (.dict (List.toArray [(ky P "__module__" 412 (.str "htmltree.tree" 403)), (ky P "__qualname__" 414 (.str "Tree" 413)), (ky P "__firstlineno__" 416 (.int 100 415)), (ky P "__init__" 423 (.ref 195)), (ky P "add" 438 (.ref 204)), (ky P "element" 450 (.ref 213)), (ky P "text" 458 (.ref 220)), (ky P "comment" 466 (.ref 227)), (ky P "doctype" 476 (.ref 234)), (ky P "insert" 489 (.ref 242)), (ky P "append" 498 (.ref 249)), (ky P "remove" 506 (.ref 256)), (ky P "move_children" 515 (.ref 263)), (ky P "place" 523 (.ref 270)), (ky P "last" 531 (.ref 277)), (ky P "value" 540 (.ref 284)), (ky P "is_html" 549 (.ref 291)), (ky P "__static_attributes__" 558 (.ref 292))]) 18)
noncomputable def obj117 (P : Params) : Obj := ob .none (.fields (List.toArray [(.int 102 0), (.int 4 0), (.ref 194), (.int 113 0), (.int 4 0), (.ref 203), (.int 123 0), (.int 4 0), (.ref 212), (.int 129 0), (.int 4 0), (.ref 219), (.int 132 0), (.int 4 0), (.ref 226), (.int 135 0), (.int 4 0), (.ref 233), (.int 138 0), (.int 4 0), (.ref 241), (.int 152 0), (.int 4 0), (.ref 248), (.int 155 0), (.int 4 0), (.ref 255), (.int 160 0), (.int 4 0), (.ref 262), (.int 163 0), (.int 4 0), (.ref 269), (.int 168 0), (.int 4 0), (.ref 276), (.int 173 0), (.int 4 0), (.ref 283), (.int 176 0), (.int 4 0), (.ref 290)]))
noncomputable def obj118 (P : Params) : Obj := ob (.type "code") (.fields (List.toArray [(.str "Tree" 407), (.str "Tree" 408), (.str "/claim/cut.py" 409), (.int 100 0), (.int 0 0), (.int 0 0), (.int 0 0), (.int 0 0), (.ref 185), (.bool false), (.int 181 0), (.ref 186), .none, .none, .none, .none, (.int 410 0), (.int 100 0), (.str "/claim/cut.py" 411)]))
noncomputable def obj119 (P : Params) : Obj := (PySem.Obj.mk (.type "frame") none .plain (List.toArray [(some (.ref 187)), (some (.ref 3)), (some (.ref 184)), none, (some (.str "htmltree.tree" 403)), none, (some (.ref 0))]))
noncomputable def obj120 (P : Params) : Obj := ob (.type "tuple") (.seq (List.toArray [(.str "self" 420)]) 0)
noncomputable def obj121 (P : Params) : Obj := ob .none (.func (fdG (inC (tops 10) 0) "Tree.__init__" 0 [] .none .none .none .none none .none .none 0))
noncomputable def obj122 (P : Params) : Obj := ob (.type "code") (.fields (List.toArray [(.str "__init__" 417), (.str "Tree.__init__" 418), (.str "/claim/cut.py" 419), (.int 102 0), (.int 1 0), (.int 0 0), (.int 0 0), (.int 3 0), (.ref 189), (.bool true), (.int 181 0), (.ref 190), .none, (.ref 191), (.ref 192), (.ref 193), (.int 421 0), (.int 102 0), (.str "/claim/cut.py" 422)]))
noncomputable def obj123 (P : Params) : Obj := ob (.type "function") (.func (fdG (inC (tops 10) 0) "Tree.__init__" 3 [] .none .none .none (.str "htmltree.tree" 403) none (.ref 194) .none 0))
noncomputable def obj124 (P : Params) : Obj := ob (.type "tuple") (.seq (List.toArray [(.str "" 424), (.str "" 425), (.ref 196), (.str "" 426)]) 0)
noncomputable def obj125 (P : Params) : Obj := ob (.type "tuple") (.seq (List.toArray [(.str "self" 430), (.str "kind" 431), (.str "space" 432), (.str "name" 433), (.str "attrs" 434), (.str "text" 435)]) 0)
noncomputable def obj126 (P : Params) : Obj := ob .none (.func (fdG (inC (tops 10) 1) "Tree.add" 0 [] .none .none .none .none none .none .none 0))
noncomputable def obj127 (P : Params) : Obj := ob (.type "code") (.fields (List.toArray [(.str "add" 427), (.str "Tree.add" 428), (.str "/claim/cut.py" 429), (.int 113 0), (.int 6 0), (.int 0 0), (.int 0 0), (.int 3 0), (.ref 198), (.bool true), (.int 181 0), (.ref 199), .none, (.ref 200), (.ref 201), (.ref 202), (.int 436 0), (.int 113 0), (.str "/claim/cut.py" 437)]))
noncomputable def obj128 (P : Params) : Obj := ob (.type "function") (.func (fdG (inC (tops 10) 1) "Tree.add" 3 [] (.ref 197) .none .none (.str "htmltree.tree" 403) none (.ref 203) .none 0))
noncomputable def obj129 (P : Params) : Obj := ob (.type "tuple") (.seq (List.toArray [(.str "html" 439), (.ref 205)]) 0)
noncomputable def obj130 (P : Params) : Obj := ob (.type "tuple") (.seq (List.toArray [(.str "self" 443), (.str "name" 444), (.str "space" 445), (.str "attrs" 446), (.str "node" 447)]) 0)
noncomputable def obj131 (P : Params) : Obj := ob .none (.func (fdG (inC (tops 10) 2) "Tree.element" 0 [] .none .none .none .none none .none .none 0))
noncomputable def obj132 (P : Params) : Obj := ob (.type "code") (.fields (List.toArray [(.str "element" 440), (.str "Tree.element" 441), (.str "/claim/cut.py" 442), (.int 123 0), (.int 4 0), (.int 0 0), (.int 0 0), (.int 3 0), (.ref 207), (.bool true), (.int 181 0), (.ref 208), .none, (.ref 209), (.ref 210), (.ref 211), (.int 448 0), (.int 123 0), (.str "/claim/cut.py" 449)]))
noncomputable def obj133 (P : Params) : Obj := ob (.type "function") (.func (fdG (inC (tops 10) 2) "Tree.element" 3 [] (.ref 206) .none .none (.str "htmltree.tree" 403) none (.ref 212) .none 0))
noncomputable def obj134 (P : Params) : Obj := ob (.type "tuple") (.seq (List.toArray [(.str "self" 454), (.str "text" 455)]) 0)
noncomputable def obj135 (P : Params) : Obj := ob .none (.func (fdG (inC (tops 10) 3) "Tree.text" 0 [] .none .none .none .none none .none .none 0))
noncomputable def obj136 (P : Params) : Obj := ob (.type "code") (.fields (List.toArray [(.str "text" 451), (.str "Tree.text" 452), (.str "/claim/cut.py" 453), (.int 129 0), (.int 2 0), (.int 0 0), (.int 0 0), (.int 3 0), (.ref 214), (.bool true), (.int 181 0), (.ref 215), .none, (.ref 216), (.ref 217), (.ref 218), (.int 456 0), (.int 129 0), (.str "/claim/cut.py" 457)]))
noncomputable def obj137 (P : Params) : Obj := ob (.type "function") (.func (fdG (inC (tops 10) 3) "Tree.text" 3 [] .none .none .none (.str "htmltree.tree" 403) none (.ref 219) .none 0))
noncomputable def obj138 (P : Params) : Obj := ob (.type "tuple") (.seq (List.toArray [(.str "self" 462), (.str "text" 463)]) 0)
noncomputable def obj139 (P : Params) : Obj := ob .none (.func (fdG (inC (tops 10) 4) "Tree.comment" 0 [] .none .none .none .none none .none .none 0))
noncomputable def obj140 (P : Params) : Obj := ob (.type "code") (.fields (List.toArray [(.str "comment" 459), (.str "Tree.comment" 460), (.str "/claim/cut.py" 461), (.int 132 0), (.int 2 0), (.int 0 0), (.int 0 0), (.int 3 0), (.ref 221), (.bool true), (.int 181 0), (.ref 222), .none, (.ref 223), (.ref 224), (.ref 225), (.int 464 0), (.int 132 0), (.str "/claim/cut.py" 465)]))
noncomputable def obj141 (P : Params) : Obj := ob (.type "function") (.func (fdG (inC (tops 10) 4) "Tree.comment" 3 [] .none .none .none (.str "htmltree.tree" 403) none (.ref 226) .none 0))
noncomputable def obj142 (P : Params) : Obj := ob (.type "tuple") (.seq (List.toArray [(.str "self" 470), (.str "name" 471), (.str "public" 472), (.str "system" 473)]) 0)
noncomputable def obj143 (P : Params) : Obj := ob .none (.func (fdG (inC (tops 10) 5) "Tree.doctype" 0 [] .none .none .none .none none .none .none 0))
noncomputable def obj144 (P : Params) : Obj := ob (.type "code") (.fields (List.toArray [(.str "doctype" 467), (.str "Tree.doctype" 468), (.str "/claim/cut.py" 469), (.int 135 0), (.int 4 0), (.int 0 0), (.int 0 0), (.int 3 0), (.ref 228), (.bool true), (.int 181 0), (.ref 229), .none, (.ref 230), (.ref 231), (.ref 232), (.int 474 0), (.int 135 0), (.str "/claim/cut.py" 475)]))
noncomputable def obj145 (P : Params) : Obj := ob (.type "function") (.func (fdG (inC (tops 10) 5) "Tree.doctype" 3 [] .none .none .none (.str "htmltree.tree" 403) none (.ref 233) .none 0))
noncomputable def obj146 (P : Params) : Obj := ob (.type "tuple") (.seq (List.toArray [(.int (@Neg.neg Int Int.instNegInt 1) 478)]) 0)
noncomputable def obj147 (P : Params) : Obj := ob (.type "tuple") (.seq (List.toArray [(.str "self" 482), (.str "parent" 483), (.str "node" 484), (.str "before" 485), (.str "at" 486)]) 0)
noncomputable def obj148 (P : Params) : Obj := ob .none (.func (fdG (inC (tops 10) 6) "Tree.insert" 0 [] .none .none .none .none none .none .none 0))
noncomputable def obj149 (P : Params) : Obj := ob (.type "code") (.fields (List.toArray [(.str "insert" 479), (.str "Tree.insert" 480), (.str "/claim/cut.py" 481), (.int 138 0), (.int 4 0), (.int 0 0), (.int 0 0), (.int 3 0), (.ref 236), (.bool true), (.int 181 0), (.ref 237), .none, (.ref 238), (.ref 239), (.ref 240), (.int 487 0), (.int 138 0), (.str "/claim/cut.py" 488)]))
noncomputable def obj150 (P : Params) : Obj := ob (.type "function") (.func (fdG (inC (tops 10) 6) "Tree.insert" 3 [] (.ref 235) .none .none (.str "htmltree.tree" 403) none (.ref 241) .none 0))
noncomputable def obj151 (P : Params) : Obj := ob (.type "tuple") (.seq (List.toArray [(.str "self" 493), (.str "parent" 494), (.str "node" 495)]) 0)
noncomputable def obj152 (P : Params) : Obj := ob .none (.func (fdG (inC (tops 10) 7) "Tree.append" 0 [] .none .none .none .none none .none .none 0))
noncomputable def obj153 (P : Params) : Obj := ob (.type "code") (.fields (List.toArray [(.str "append" 490), (.str "Tree.append" 491), (.str "/claim/cut.py" 492), (.int 152 0), (.int 3 0), (.int 0 0), (.int 0 0), (.int 3 0), (.ref 243), (.bool true), (.int 181 0), (.ref 244), .none, (.ref 245), (.ref 246), (.ref 247), (.int 496 0), (.int 152 0), (.str "/claim/cut.py" 497)]))
noncomputable def obj154 (P : Params) : Obj := ob (.type "function") (.func (fdG (inC (tops 10) 7) "Tree.append" 3 [] .none .none .none (.str "htmltree.tree" 403) none (.ref 248) .none 0))
noncomputable def obj155 (P : Params) : Obj := ob (.type "tuple") (.seq (List.toArray [(.str "self" 502), (.str "node" 503)]) 0)
noncomputable def obj156 (P : Params) : Obj := ob .none (.func (fdG (inC (tops 10) 8) "Tree.remove" 0 [] .none .none .none .none none .none .none 0))
noncomputable def obj157 (P : Params) : Obj := ob (.type "code") (.fields (List.toArray [(.str "remove" 499), (.str "Tree.remove" 500), (.str "/claim/cut.py" 501), (.int 155 0), (.int 2 0), (.int 0 0), (.int 0 0), (.int 3 0), (.ref 250), (.bool true), (.int 181 0), (.ref 251), .none, (.ref 252), (.ref 253), (.ref 254), (.int 504 0), (.int 155 0), (.str "/claim/cut.py" 505)]))
noncomputable def obj158 (P : Params) : Obj := ob (.type "function") (.func (fdG (inC (tops 10) 8) "Tree.remove" 3 [] .none .none .none (.str "htmltree.tree" 403) none (.ref 255) .none 0))
noncomputable def obj159 (P : Params) : Obj := ob (.type "tuple") (.seq (List.toArray [(.str "self" 510), (.str "here" 511), (.str "there" 512)]) 0)
noncomputable def obj160 (P : Params) : Obj := ob .none (.func (fdG (inC (tops 10) 9) "Tree.move_children" 0 [] .none .none .none .none none .none .none 0))
noncomputable def obj161 (P : Params) : Obj := ob (.type "code") (.fields (List.toArray [(.str "move_children" 507), (.str "Tree.move_children" 508), (.str "/claim/cut.py" 509), (.int 160 0), (.int 3 0), (.int 0 0), (.int 0 0), (.int 3 0), (.ref 257), (.bool true), (.int 181 0), (.ref 258), .none, (.ref 259), (.ref 260), (.ref 261), (.int 513 0), (.int 160 0), (.str "/claim/cut.py" 514)]))
noncomputable def obj162 (P : Params) : Obj := ob (.type "function") (.func (fdG (inC (tops 10) 9) "Tree.move_children" 3 [] .none .none .none (.str "htmltree.tree" 403) none (.ref 262) .none 0))
noncomputable def obj163 (P : Params) : Obj := ob (.type "tuple") (.seq (List.toArray [(.str "self" 519), (.str "node" 520)]) 0)
noncomputable def obj164 (P : Params) : Obj := ob .none (.func (fdG (inC (tops 10) 10) "Tree.place" 0 [] .none .none .none .none none .none .none 0))
noncomputable def obj165 (P : Params) : Obj := ob (.type "code") (.fields (List.toArray [(.str "place" 516), (.str "Tree.place" 517), (.str "/claim/cut.py" 518), (.int 163 0), (.int 2 0), (.int 0 0), (.int 0 0), (.int 3 0), (.ref 264), (.bool true), (.int 181 0), (.ref 265), .none, (.ref 266), (.ref 267), (.ref 268), (.int 521 0), (.int 163 0), (.str "/claim/cut.py" 522)]))
noncomputable def obj166 (P : Params) : Obj := ob (.type "function") (.func (fdG (inC (tops 10) 10) "Tree.place" 3 [] .none .none .none (.str "htmltree.tree" 403) none (.ref 269) .none 0))
noncomputable def obj167 (P : Params) : Obj := ob (.type "tuple") (.seq (List.toArray [(.str "self" 527), (.str "parent" 528)]) 0)
noncomputable def obj168 (P : Params) : Obj := ob .none (.func (fdG (inC (tops 10) 11) "Tree.last" 0 [] .none .none .none .none none .none .none 0))
noncomputable def obj169 (P : Params) : Obj := ob (.type "code") (.fields (List.toArray [(.str "last" 524), (.str "Tree.last" 525), (.str "/claim/cut.py" 526), (.int 168 0), (.int 2 0), (.int 0 0), (.int 0 0), (.int 3 0), (.ref 271), (.bool true), (.int 181 0), (.ref 272), .none, (.ref 273), (.ref 274), (.ref 275), (.int 529 0), (.int 168 0), (.str "/claim/cut.py" 530)]))
noncomputable def obj170 (P : Params) : Obj := ob (.type "function") (.func (fdG (inC (tops 10) 11) "Tree.last" 3 [] .none .none .none (.str "htmltree.tree" 403) none (.ref 276) .none 0))
noncomputable def obj171 (P : Params) : Obj := ob (.type "tuple") (.seq (List.toArray [(.str "self" 535), (.str "node" 536), (.str "name" 537)]) 0)
noncomputable def obj172 (P : Params) : Obj := ob .none (.func (fdG (inC (tops 10) 12) "Tree.value" 0 [] .none .none .none .none none .none .none 0))
noncomputable def obj173 (P : Params) : Obj := ob (.type "code") (.fields (List.toArray [(.str "value" 532), (.str "Tree.value" 533), (.str "/claim/cut.py" 534), (.int 173 0), (.int 3 0), (.int 0 0), (.int 0 0), (.int 3 0), (.ref 278), (.bool true), (.int 181 0), (.ref 279), .none, (.ref 280), (.ref 281), (.ref 282), (.int 538 0), (.int 173 0), (.str "/claim/cut.py" 539)]))
noncomputable def obj174 (P : Params) : Obj := ob (.type "function") (.func (fdG (inC (tops 10) 12) "Tree.value" 3 [] .none .none .none (.str "htmltree.tree" 403) none (.ref 283) .none 0))
noncomputable def obj175 (P : Params) : Obj := ob (.type "tuple") (.seq (List.toArray [(.str "self" 544), (.str "node" 545), (.str "name" 546)]) 0)
noncomputable def obj176 (P : Params) : Obj := ob .none (.func (fdG (inC (tops 10) 13) "Tree.is_html" 0 [] .none .none .none .none none .none .none 0))
noncomputable def obj177 (P : Params) : Obj := ob (.type "code") (.fields (List.toArray [(.str "is_html" 541), (.str "Tree.is_html" 542), (.str "/claim/cut.py" 543), (.int 176 0), (.int 3 0), (.int 0 0), (.int 0 0), (.int 3 0), (.ref 285), (.bool true), (.int 181 0), (.ref 286), .none, (.ref 287), (.ref 288), (.ref 289), (.int 547 0), (.int 176 0), (.str "/claim/cut.py" 548)]))
noncomputable def obj178 (P : Params) : Obj := ob (.type "function") (.func (fdG (inC (tops 10) 13) "Tree.is_html" 3 [] .none .none .none (.str "htmltree.tree" 403) none (.ref 290) .none 0))
noncomputable def obj179 (P : Params) : Obj := ob (.type "tuple") (.seq (List.toArray [(.str "attrs" 550), (.str "children" 551), (.str "contents" 552), (.str "kinds" 553), (.str "names" 554), (.str "parents" 555), (.str "spaces" 556), (.str "texts" 557)]) 0)
noncomputable def obj180 (P : Params) : Obj := ob (.type "dict") (.dict (List.toArray [(ky P "__module__" 412 (.str "htmltree.tree" 403)), (ky P "__firstlineno__" 416 (.int 100 415)), (ky P "__init__" 423 (.ref 195)), (ky P "add" 438 (.ref 204)), (ky P "element" 450 (.ref 213)), (ky P "text" 458 (.ref 220)), (ky P "comment" 466 (.ref 227)), (ky P "doctype" 476 (.ref 234)), (ky P "insert" 489 (.ref 242)), (ky P "append" 498 (.ref 249)), (ky P "remove" 506 (.ref 256)), (ky P "move_children" 515 (.ref 263)), (ky P "place" 523 (.ref 270)), (ky P "last" 531 (.ref 277)), (ky P "value" 540 (.ref 284)), (ky P "is_html" 549 (.ref 291)), (ky P "__static_attributes__" 558 (.ref 292)), (ky P "__dict__" 560 (.ref 295)), (ky P "__weakref__" 562 (.ref 296)), (ky P "__doc__" 563 .none)]) 4)
noncomputable def obj181 (P : Params) : Obj := (PySem.Obj.mk (.type "type") none (.cls (PySem.ClassData.mk "Tree" [(.type "object")] [(.ref 294), (.type "object")] 293 "Tree" true [] [] false none false)) (List.toArray [none, none, (some (.str "Tree" 405)), (some (.str "Tree" 413)), (some (.builtin "object.__new__")), (some (.bool true))]))
noncomputable def obj182 (P : Params) : Obj := ob (.type "getset_descriptor") (.fields (List.toArray [(.str "__dict__" 559), (.ref 294), (.builtin "function.__dict__"), (.builtin "function.__dict__#set")]))
noncomputable def obj183 (P : Params) : Obj := ob (.type "getset_descriptor") (.fields (List.toArray [(.str "__weakref__" 561), (.ref 294), (.builtin "ExceptionGroup.__weakref__"), .none]))
noncomputable def obj184 (P : Params) : Obj := ob (.type "super") (.fields (List.toArray [(.ref 294), (.ref 294), (.ref 294)]))
noncomputable def obj185 (P : Params) : Obj := ob (.type "builtin_function_or_method") (.fields (List.toArray [(.builtin "object.__init_subclass__"), (.ref 294)]))
noncomputable def obj186 (P : Params) : Obj := ob (.type "dict") (.dict (List.toArray [(ky P "__name__" 165 (.str "law_nt0599_01" 576)), (ky P "__doc__" 166 .none), (ky P "__package__" 167 .none), (ky P "__loader__" 168 (.builtin "__main__.__loader__#opaque")), (ky P "__spec__" 169 .none), (ky P "__annotations__" 170 (.ref 6)), (ky P "__builtins__" 171 (.ref 4)), (ky P "__file__" 173 (.str "/claim/cut.py" 172)), (ky P "__cached__" 174 .none), (ky P "_wall" 193 (.ref 21)), (ky P "OpenStack" 320 (.ref 122)), (ky P "stops_scope" 331 (.ref 133)), (ky P "in_scope" 344 (.ref 141)), (ky P "node_in_scope" 355 (.ref 149)), (ky P "HtmlFault" 386 (.ref 166)), (ky P "Misused" 402 (.ref 179)), (ky P "Tree" 565 (.ref 294)), (ky P "above" 575 (.ref 305)), (ky P "_law_digit" 585 (.ref 312)), (ky P "_law_pool" 593 (.ref 319)), (ky P "_law_ends" 599 (.ref 324)), (ky P "_law_highest" 606 (.ref 331)), (ky P "_law_is_seen" 612 (.ref 336)), (ky P "_law_is_scoped" 618 (.ref 341)), (ky P "law" 624 (.ref 346))]) 25)
noncomputable def obj187 (P : Params) : Obj := ob .none (.fields (List.toArray [(.int 1 0), (.int 0 0), (.ref 20), (.int 5 0), (.int 0 0), (.ref 27), (.int 59 0), (.int 0 0), (.ref 132), (.int 75 0), (.int 0 0), (.ref 140), (.int 84 0), (.int 0 0), (.ref 148), (.int 92 0), (.int 0 0), (.ref 155), (.int 97 0), (.int 0 0), (.ref 175), (.int 100 0), (.int 0 0), (.ref 187), (.int 178 0), (.int 0 0), (.ref 304), (.int 186 0), (.int 0 0), (.ref 311), (.int 188 0), (.int 0 0), (.ref 318), (.int 197 0), (.int 0 0), (.ref 323), (.int 206 0), (.int 0 0), (.ref 330), (.int 208 0), (.int 0 0), (.ref 335), (.int 225 0), (.int 0 0), (.ref 340), (.int 239 0), (.int 0 0), (.ref 345)]))
noncomputable def obj188 (P : Params) : Obj := ob (.type "tuple") (.seq (List.toArray [(.str "tree" 569), (.str "node" 570), (.str "out" 571), (.str "up" 572)]) 0)
noncomputable def obj189 (P : Params) : Obj := ob .none (.func (fdG (tops 11) "above" 0 [] .none .none .none .none none .none .none 0))
noncomputable def obj190 (P : Params) : Obj := ob (.type "code") (.fields (List.toArray [(.str "above" 566), (.str "above" 567), (.str "/claim/cut.py" 568), (.int 178 0), (.int 2 0), (.int 0 0), (.int 0 0), (.int 3 0), (.ref 299), (.bool true), (.int 181 0), (.ref 300), .none, (.ref 301), (.ref 302), (.ref 303), (.int 573 0), (.int 178 0), (.str "/claim/cut.py" 574)]))
noncomputable def obj191 (P : Params) : Obj := ob (.type "function") (.func (fdG (tops 11) "above" 3 [] .none .none .none (.str "htmltree.tree" 403) none (.ref 304) .none 0))
noncomputable def obj192 (P : Params) : Obj := ob (.type "tuple") (.seq (List.toArray [(.str "script" 581), (.str "place" 582)]) 0)
noncomputable def obj193 (P : Params) : Obj := ob .none (.func (fdG (tops 13) "_law_digit" 0 [] .none .none .none .none none .none .none 0))
noncomputable def obj194 (P : Params) : Obj := ob (.type "code") (.fields (List.toArray [(.str "_law_digit" 578), (.str "_law_digit" 579), (.str "/claim/cut.py" 580), (.int 186 0), (.int 2 0), (.int 0 0), (.int 0 0), (.int 3 0), (.ref 306), (.bool true), (.int 181 0), (.ref 307), .none, (.ref 308), (.ref 309), (.ref 310), (.int 583 0), (.int 186 0), (.str "/claim/cut.py" 584)]))
noncomputable def obj195 (P : Params) : Obj := ob (.type "function") (.func (fdG (tops 13) "_law_digit" 3 [] .none .none .none (.str "law_nt0599_01" 576) none (.ref 311) .none 0))
noncomputable def obj196 (P : Params) : Obj := ob (.type "tuple") (.seq (List.toArray [(.str "own" 589), (.str "other" 590)]) 0)
noncomputable def obj197 (P : Params) : Obj := ob .none (.func (fdG (tops 14) "_law_pool" 0 [] .none .none .none .none none .none .none 0))
noncomputable def obj198 (P : Params) : Obj := ob (.type "code") (.fields (List.toArray [(.str "_law_pool" 586), (.str "_law_pool" 587), (.str "/claim/cut.py" 588), (.int 188 0), (.int 0 0), (.int 0 0), (.int 0 0), (.int 3 0), (.ref 313), (.bool true), (.int 181 0), (.ref 314), .none, (.ref 315), (.ref 316), (.ref 317), (.int 591 0), (.int 188 0), (.str "/claim/cut.py" 592)]))
noncomputable def obj199 (P : Params) : Obj := ob (.type "function") (.func (fdG (tops 14) "_law_pool" 3 [] .none .none .none (.str "law_nt0599_01" 576) none (.ref 318) .none 0))
noncomputable def obj200 (P : Params) : Obj := ob .none (.func (fdG (tops 15) "_law_ends" 0 [] .none .none .none .none none .none .none 0))
noncomputable def obj201 (P : Params) : Obj := ob (.type "code") (.fields (List.toArray [(.str "_law_ends" 594), (.str "_law_ends" 595), (.str "/claim/cut.py" 596), (.int 197 0), (.int 2 0), (.int 0 0), (.int 0 0), (.int 3 0), (.ref 320), (.bool true), (.int 181 0), (.ref 321), .none, .none, .none, (.ref 322), (.int 597 0), (.int 197 0), (.str "/claim/cut.py" 598)]))
noncomputable def obj202 (P : Params) : Obj := ob (.type "function") (.func (fdG (tops 15) "_law_ends" 3 [] .none .none .none (.str "law_nt0599_01" 576) none (.ref 323) .none 0))
noncomputable def obj203 (P : Params) : Obj := ob (.type "tuple") (.seq (List.toArray [(.str "places" 603)]) 0)
noncomputable def obj204 (P : Params) : Obj := ob .none (.func (fdG (tops 16) "_law_highest" 0 [] .none .none .none .none none .none .none 0))
noncomputable def obj205 (P : Params) : Obj := ob (.type "code") (.fields (List.toArray [(.str "_law_highest" 600), (.str "_law_highest" 601), (.str "/claim/cut.py" 602), (.int 206 0), (.int 1 0), (.int 0 0), (.int 0 0), (.int 3 0), (.ref 325), (.bool true), (.int 181 0), (.ref 326), .none, (.ref 327), (.ref 328), (.ref 329), (.int 604 0), (.int 206 0), (.str "/claim/cut.py" 605)]))
noncomputable def obj206 (P : Params) : Obj := ob (.type "function") (.func (fdG (tops 16) "_law_highest" 3 [] .none .none .none (.str "law_nt0599_01" 576) none (.ref 330) .none 0))
noncomputable def obj207 (P : Params) : Obj := ob .none (.func (fdG (tops 17) "_law_is_seen" 0 [] .none .none .none .none none .none .none 0))
noncomputable def obj208 (P : Params) : Obj := ob (.type "code") (.fields (List.toArray [(.str "_law_is_seen" 607), (.str "_law_is_seen" 608), (.str "/claim/cut.py" 609), (.int 208 0), (.int 4 0), (.int 0 0), (.int 0 0), (.int 3 0), (.ref 332), (.bool true), (.int 181 0), (.ref 333), .none, .none, .none, (.ref 334), (.int 610 0), (.int 208 0), (.str "/claim/cut.py" 611)]))
noncomputable def obj209 (P : Params) : Obj := ob (.type "function") (.func (fdG (tops 17) "_law_is_seen" 3 [] .none .none .none (.str "law_nt0599_01" 576) none (.ref 335) .none 0))
noncomputable def obj210 (P : Params) : Obj := ob .none (.func (fdG (tops 18) "_law_is_scoped" 0 [] .none .none .none .none none .none .none 0))
noncomputable def obj211 (P : Params) : Obj := ob (.type "code") (.fields (List.toArray [(.str "_law_is_scoped" 613), (.str "_law_is_scoped" 614), (.str "/claim/cut.py" 615), (.int 225 0), (.int 6 0), (.int 0 0), (.int 0 0), (.int 3 0), (.ref 337), (.bool true), (.int 181 0), (.ref 338), .none, .none, .none, (.ref 339), (.int 616 0), (.int 225 0), (.str "/claim/cut.py" 617)]))
noncomputable def obj212 (P : Params) : Obj := ob (.type "function") (.func (fdG (tops 18) "_law_is_scoped" 3 [] .none .none .none (.str "law_nt0599_01" 576) none (.ref 340) .none 0))
noncomputable def obj213 (P : Params) : Obj := ob .none (.func (fdG (tops 19) "law" 0 [] .none .none .none .none none .none .none 0))
noncomputable def obj214 (P : Params) : Obj := ob (.type "code") (.fields (List.toArray [(.str "law" 619), (.str "law" 620), (.str "/claim/cut.py" 621), (.int 239 0), (.int 1 0), (.int 0 0), (.int 0 0), (.int 3 0), (.ref 342), (.bool true), (.int 181 0), (.ref 343), .none, .none, .none, (.ref 344), (.int 622 0), (.int 239 0), (.str "/claim/cut.py" 623)]))
noncomputable def obj215 (P : Params) : Obj := ob (.type "function") (.func (fdG (tops 19) "law" 3 [] .none .none .none (.str "law_nt0599_01" 576) none (.ref 345) .none 0))
noncomputable def kx0 (P : Params) : Frag := [(2, obj74 P), (3, obj186 P), (15, obj0 P), (17, obj6 P), (18, obj0 P), (20, obj8 P), (21, obj9 P), (29, obj0 P), (31, obj15 P), (32, obj0 P), (34, obj17 P), (35, obj18 P), (36, obj0 P), (38, obj19 P), (39, obj0 P), (41, obj21 P), (42, obj22 P), (43, obj0 P), (45, obj23 P), (46, obj0 P)]
noncomputable def kx1 (P : Params) : Frag := [(48, obj25 P), (49, obj26 P), (50, obj0 P), (52, obj27 P), (53, obj0 P), (55, obj29 P), (56, obj30 P), (57, obj0 P), (59, obj31 P), (60, obj0 P), (62, obj33 P), (63, obj34 P), (64, obj0 P), (66, obj35 P), (67, obj0 P), (69, obj37 P), (70, obj38 P), (71, obj0 P), (73, obj39 P), (74, obj0 P)]
noncomputable def kx2 (P : Params) : Frag := [(76, obj41 P), (77, obj42 P), (78, obj0 P), (80, obj43 P), (81, obj0 P), (83, obj45 P), (84, obj46 P), (85, obj0 P), (87, obj47 P), (88, obj0 P), (90, obj49 P), (91, obj50 P), (92, obj0 P), (94, obj51 P), (95, obj0 P), (97, obj53 P), (98, obj54 P), (99, obj0 P), (101, obj55 P), (102, obj0 P)]
noncomputable def kx3 (P : Params) : Frag := [(104, obj57 P), (105, obj58 P), (106, obj0 P), (108, obj59 P), (109, obj0 P), (111, obj61 P), (112, obj62 P), (113, obj0 P), (115, obj63 P), (116, obj0 P), (118, obj65 P), (119, obj66 P), (120, obj67 P), (121, obj68 P), (122, obj69 P), (123, obj70 P), (124, obj71 P), (127, obj0 P), (129, obj77 P), (130, obj0 P)]
noncomputable def kx4 (P : Params) : Frag := [(132, obj79 P), (133, obj80 P), (134, obj81 P), (135, obj0 P), (137, obj82 P), (138, obj0 P), (140, obj84 P), (141, obj85 P), (142, obj86 P), (143, obj0 P), (145, obj87 P), (146, obj0 P), (148, obj89 P), (149, obj90 P), (150, obj91 P), (157, obj0 P), (159, obj96 P), (160, obj0 P), (162, obj98 P), (163, obj99 P)]
noncomputable def kx5 (P : Params) : Frag := [(164, obj100 P), (165, obj101 P), (166, obj102 P), (167, obj103 P), (170, obj106 P), (177, obj0 P), (178, obj110 P), (179, obj111 P), (189, obj0 P), (191, obj120 P), (192, obj0 P), (194, obj122 P), (195, obj123 P), (196, obj0 P), (197, obj124 P), (198, obj0 P), (200, obj125 P), (201, obj0 P), (203, obj127 P), (204, obj128 P)]
noncomputable def kx6 (P : Params) : Frag := [(205, obj0 P), (206, obj129 P), (207, obj0 P), (209, obj130 P), (210, obj0 P), (212, obj132 P), (213, obj133 P), (214, obj0 P), (216, obj134 P), (217, obj0 P), (219, obj136 P), (220, obj137 P), (221, obj0 P), (223, obj138 P), (224, obj0 P), (226, obj140 P), (227, obj141 P), (228, obj0 P), (230, obj142 P), (231, obj0 P)]
noncomputable def kx7 (P : Params) : Frag := [(233, obj144 P), (234, obj145 P), (235, obj146 P), (236, obj0 P), (238, obj147 P), (239, obj0 P), (241, obj149 P), (242, obj150 P), (243, obj0 P), (245, obj151 P), (246, obj0 P), (248, obj153 P), (249, obj154 P), (250, obj0 P), (252, obj155 P), (253, obj0 P), (255, obj157 P), (256, obj158 P), (257, obj0 P), (259, obj159 P)]
noncomputable def kx8 (P : Params) : Frag := [(260, obj0 P), (262, obj161 P), (263, obj162 P), (264, obj0 P), (266, obj163 P), (267, obj0 P), (269, obj165 P), (270, obj166 P), (271, obj0 P), (273, obj167 P), (274, obj0 P), (276, obj169 P), (277, obj170 P), (278, obj0 P), (280, obj171 P), (281, obj0 P), (283, obj173 P), (284, obj174 P), (285, obj0 P), (287, obj175 P)]
noncomputable def kx9 (P : Params) : Frag := [(288, obj0 P), (290, obj177 P), (291, obj178 P), (292, obj179 P), (293, obj180 P), (294, obj181 P), (295, obj182 P), (296, obj183 P), (299, obj0 P), (301, obj188 P), (302, obj0 P), (304, obj190 P), (305, obj191 P), (306, obj0 P), (308, obj192 P), (309, obj0 P), (311, obj194 P), (312, obj195 P), (313, obj0 P), (315, obj196 P)]
noncomputable def kx10 (P : Params) : Frag := [(316, obj0 P), (318, obj198 P), (319, obj199 P), (320, obj0 P), (323, obj201 P), (324, obj202 P), (325, obj0 P), (327, obj203 P), (328, obj0 P), (330, obj205 P), (331, obj206 P), (332, obj0 P), (335, obj208 P), (336, obj209 P), (337, obj0 P), (340, obj211 P), (341, obj212 P), (342, obj0 P), (345, obj214 P), (346, obj215 P)]
/-- the objects that the top leaves, as far as they are used -/
noncomputable def Kx (P : Params) : Frag := kx0 P ++ (kx1 P ++ (kx2 P ++ (kx3 P ++ (kx4 P ++ (kx5 P ++ (kx6 P ++ (kx7 P ++ (kx8 P ++ (kx9 P ++ (kx10 P))))))))))
noncomputable def Kas : List Addr := [2, 3, 15, 17, 18, 20, 21, 29, 31, 32, 34, 35, 36, 38, 39, 41, 42, 43, 45, 46, 48, 49, 50, 52, 53, 55, 56, 57, 59, 60, 62, 63, 64, 66, 67, 69, 70, 71, 73, 74, 76, 77, 78, 80, 81, 83, 84, 85, 87, 88, 90, 91, 92, 94, 95, 97, 98, 99, 101, 102, 104, 105, 106, 108, 109, 111, 112, 113, 115, 116, 118, 119, 120, 121, 122, 123, 124, 127, 129, 130, 132, 133, 134, 135, 137, 138, 140, 141, 142, 143, 145, 146, 148, 149, 150, 157, 159, 160, 162, 163, 164, 165, 166, 167, 170, 177, 178, 179, 189, 191, 192, 194, 195, 196, 197, 198, 200, 201, 203, 204, 205, 206, 207, 209, 210, 212, 213, 214, 216, 217, 219, 220, 221, 223, 224, 226, 227, 228, 230, 231, 233, 234, 235, 236, 238, 239, 241, 242, 243, 245, 246, 248, 249, 250, 252, 253, 255, 256, 257, 259, 260, 262, 263, 264, 266, 267, 269, 270, 271, 273, 274, 276, 277, 278, 280, 281, 283, 284, 285, 287, 288, 290, 291, 292, 293, 294, 295, 296, 299, 301, 302, 304, 305, 306, 308, 309, 311, 312, 313, 315, 316, 318, 319, 320, 323, 324, 325, 327, 328, 330, 331, 332, 335, 336, 337, 340, 341, 342, 345, 346]
noncomputable def view : Program := { PP with main := { PP.main with body := [tops 0, tops 2, tops 3, tops 7, tops 8, tops 10, tops 11, tops 13, tops 14, tops 15, tops 16, tops 17, tops 18, tops 19] } }
noncomputable def loose : List Str := ["in_scope", "node_in_scope", "Tree"]
theorem kas_eq (P : Params) : Kas = (Kx P).map (·.1) := by kernel_rfl
noncomputable abbrev Kf (w : World) : Frag := Kx w.params
end

section

noncomputable def fdOf (st : Stmt) (qual : Str) (dV pm : Value) (c : Addr) : FuncData := match st with
  | .FunctionDef name args body _ _ _ scope _ _ _ => { name, qualname := qual, params := args, body := .stmts body, scope := scope, globals := mainGlobals, closure := [], defaults := dV, kwdefaults := .none, doc := .none, pyModule := pm, annotations := none, code := .ref c, closureTuple := .none, builtins := builtinsNs }
  | _ => default
noncomputable abbrev mOpen : Value := .str "htmltree.openstack" 194
noncomputable abbrev mTree : Value := .str "htmltree.tree" 403
noncomputable abbrev mLaw : Value := .str "law_nt0599_01" 576
noncomputable def fdStops : FuncData := fdOf (tops 3) "stops_scope" .none mOpen 132
theorem at_stops (w : World) : DefAt (Kf w) 133 fdStops (bodyOf (tops 3)) := ⟨⟨.type "function", none, #[], by kernel_rfl⟩, by kernel_rfl, by kernel_rfl, by kernel_rfl, by kernel_rfl, by kernel_rfl, by kernel_rfl, by kernel_rfl, by kernel_rfl⟩

noncomputable def TreeAt (h : Heap) (t : Addr) (sp nm : List Str) : Prop := ∃ m a b, Inst h t 294 m ∧ m "spaces" = some (.ref a) ∧ Rd h (.ref a) (.list (sp.map .str)) ∧ m "names" = some (.ref b) ∧ Rd h (.ref b) (.list (nm.map .str)) ∧ m "is_html" = none
theorem TreeAt.mono {h h' : Heap} {t : Addr} {sp nm : List Str} (k : Sub h h') (T : TreeAt h t sp nm) : TreeAt h' t sp nm := by
  obtain ⟨m, a, b, I, h1, h2, h3, h4, h5⟩ := T
  exact ⟨m, a, b, I.mono k, h1, h2.mono k, h3, h4.mono k, h5⟩
theorem free_spaces (w : World) : ClsFree (Kf w) 294 "spaces" := ⟨by kernel_rfl, by kernel_rfl, by kernel_rfl⟩
theorem free_names (w : World) : ClsFree (Kf w) 294 "names" := ⟨by kernel_rfl, by kernel_rfl, by kernel_rfl⟩

end

section
theorem sh_str {x : Str} (h : PyData.strOk x = true) : SeqAt.shaped (.str x) = true := by simp [SeqAt.shaped, PyData.canLay0, PyData.depth, h]
theorem sh_int {x : Int} : SeqAt.shaped (.int x) = true := rfl
theorem sh_bool {x : Bool} : SeqAt.shaped (.bool x) = true := rfl
theorem cl_str {x : Str} (h : PyData.strOk x = true) : PyData.canLay0 (.str x) = true := h
theorem cl_int {x : Int} : PyData.canLay0 (.int x) = true := rfl
theorem de_str {x : Str} : PyData.depth (.str x) ≤ 64 := by simp [PyData.depth]
theorem de_int {x : Int} : PyData.depth (.int x) ≤ 64 := by simp [PyData.depth]
local macro_rules | `(tactic| walk_at "lay") => `(tactic| first
  | assumption
  | (refine' sh_str ?h; (case h => first | assumption | decide +kernel))
  | exact sh_int
  | exact sh_bool
  | (refine' cl_str ?h; (case h => first | assumption | decide +kernel))
  | exact cl_int
  | exact de_str
  | exact de_int
  | decide +kernel)
local macro_rules | `(tactic| walk_at "cmp") => `(tactic| first
  | exact cmp_ge
  | (refine' cmp_inT ?hR ?h1 ?h2 ?h3; (case hR => assumption); (case h1 => walk_at "lay"); (case h2 => walk_at "lay"); (case h3 => walk_at "lay"))
  | (refine' cmp_notinT ?hR ?h1 ?h2 ?h3; (case hR => assumption); (case h1 => walk_at "lay"); (case h2 => walk_at "lay"); (case h3 => walk_at "lay"))
  | (refine' cmp_in ?hR ?h1 ?h2 ?h3; (case hR => assumption); (case h1 => walk_at "lay"); (case h2 => walk_at "lay"); (case h3 => walk_at "lay"))
  | (refine' cmp_notin ?hR ?h1 ?h2 ?h3; (case hR => assumption); (case h1 => walk_at "lay"); (case h2 => walk_at "lay"); (case h3 => walk_at "lay"))
  | (refine' cmp_eq ?hR ?h1 ?h2; (case hR => assumption); (case h1 => walk_at "lay"); (case h2 => walk_at "lay"))
  | (refine' cmp_ne ?hR ?h1 ?h2; (case hR => assumption); (case h1 => walk_at "lay"); (case h2 => walk_at "lay")))
local macro_rules | `(tactic| walk_at "evd") => `(tactic| first
  | exact evd_nil
  | (refine' evd_cons ?h1 ?h2; (case h1 => walk_at "ev"); (case h2 => walk_at "evd")))
local macro_rules | `(tactic| walk_at "evl") => `(tactic| first
  | exact evl_nil
  | (refine' evl_cons ?h1 ?h2; (case h1 => walk_at "ev"); (case h2 => walk_at "evl")))
local macro_rules | `(tactic| walk_at "ev") => `(tactic| first
  | (refine' ev_name ?h1 ?h2 ?h3; (case h1 => assumption); (case h2 => rfl); (case h3 => decide +kernel))
  | exact ev_str
  | exact ev_int
  | exact ev_bool
  | (refine' ev_one ?h1; (case h1 => walk_at "ev"))
  | (refine' ev_tuple ?h1 ?h2 ?h3; (case h1 => walk_at "evd"); (case h2 => rfl); (case h3 => decide +kernel))
  | (refine' ev_list ?h1 ?h2 ?h3; (case h1 => walk_at "evd"); (case h2 => rfl); (case h3 => decide +kernel))
  | (refine' ev_neg ?h1; (case h1 => walk_at "ev"))
  | (refine' ev_not ?h1; (case h1 => walk_at "ev"))
  | (refine' ev_cmpd ?h1 ?h2 ?h3 ?h4; (case h1 => walk_at "ev"); (case h2 => walk_at "ev"); (case h3 => walk_at "cmp"); (case h4 => rfl))
  | (refine' ev_and ?h1 ?h2; (case h1 => walk_at "ev"); (case h2 => intro _; walk_at "ev"))
  | (refine' ev_or ?h1 ?h2; (case h1 => walk_at "ev"); (case h2 => intro _; walk_at "ev"))
  | (refine' ev_add ?h1 ?h2; (case h1 => walk_at "ev"); (case h2 => walk_at "ev"))
  | (refine' ev_sub ?h1 ?h2; (case h1 => walk_at "ev"); (case h2 => walk_at "ev")))
local macro_rules | `(tactic| walk_at "tt") => `(tactic| first
  | (refine' tt_cmpd ?h1 ?h2 ?h3 ?h4; (case h1 => walk_at "ev"); (case h2 => walk_at "ev"); (case h3 => walk_at "cmp"); (case h4 => rfl))
  | (refine' tt_not ?h1; (case h1 => walk_at "tt"))
  | (refine' tt_val ?h1 ?h2; (case h1 => walk_at "ev"); (case h2 => rfl)))
local macro_rules | `(tactic| walk_at "retB") => `(tactic| (refine' ex_retB ?h ?e (fun _ _ x => x); (case h => walk_at "ev")))
local macro_rules | `(tactic| walk_at "retI") => `(tactic| (refine' ex_retI ?h ?e (fun _ _ x => x); (case h => walk_at "ev")))
local macro_rules | `(tactic| walk_at "retS") => `(tactic| (refine' ex_retS ?h ?e (fun _ _ x => x); (case h => walk_at "ev")))
theorem strE (a b : Str) : PyData.eqv (.str a) (.str b) = (a == b) := by simp [PyData.eqv]

noncomputable def isIn (N : Str) (l : List Str) : Bool := l.any fun y => y == N
noncomputable def stopsF (S N sort : Str) : Bool :=
  if sort == "select" then !(S == "html") || !isIn N ["optgroup", "option"]
  else if sort == "table" then S == "html" && isIn N ["html", "table", "template"]
  else if S == "math" then isIn N ["mi", "mo", "mn", "ms", "mtext", "annotation-xml"]
  else if S == "svg" then isIn N ["foreignObject", "desc", "title"]
  else if isIn N ["applet", "caption", "html", "table", "td", "th", "marquee", "object", "template"] then true
  else if sort == "list item" then isIn N ["ol", "ul"]
  else sort == "button" && N == "button"

set_option maxHeartbeats 40000
theorem fn_stops {w : World} {A : Around} {h : Heap} {mg mb : Str → Option Value} {n : Nat} (G : Gnd (Kf w) mg mb h) (R : Room A (n + 1)) {t : Addr} {sp nm : List Str} (T : TreeAt h t sp nm) {i : Nat} {S N sort : Str}
    (hS : sp[i]? = some S) (hN : nm[i]? = some N) (oS : PyData.strOk S = true) (oN : PyData.strOk N = true) (osort : PyData.strOk sort = true) (hi : i < 2 ^ 62) :
    Fn PP w A h (.ref 133) [.val (.ref t), .dat (.int i), .dat (.str sort)] (.dat (.bool (stopsF S N sort))) := by
  refine fn_def (names := ["tree", "node", "sort"]) (as := [.val (.ref t), .dat (.int i), .dat (.str sort)]) (more := []) (at_stops w) G R (fun s us _ hl => ?_) (fun _ => trivial) rfl (by decide) (by decide +kernel) (fun L => by kernel_rfl) fun s₀ L k G R F => ?_
  · match us, hl with
    | [a, b, c], _ => exact BindsTo.of_eq (by kernel_rfl)
  have T' := T.mono k
  clear T k
  obtain ⟨m, a, b, I, h1, h2, h3, h4, h5⟩ := T'
  have I' : ∀ s, St s₀ s₀.heap (callEnvC fdStops L 133) [] (rhoOf ["tree", "node", "sort"] [.val (.ref t), .dat (.int i), .dat (.str sort)]) s → Inst s.heap t 294 m := fun s S => I.mono (base_s S)
  refine ex_assign F (.inl (by rfl)) (ev_item (k := (i : Int)) (Ev.weak (ev_attr G (by walk_at "ev") I' (free_spaces w) h1 rfl (by rfl)) h2) (by walk_at "ev") (by omega) (by omega) (by simp [hS]; rfl) (fun _ _ => by rfl)) (by rfl) ?_
  have I'' : ∀ s, St s₀ s₀.heap (callEnvC fdStops L 133) [] (upd (rhoOf ["tree", "node", "sort"] [.val (.ref t), .dat (.int i), .dat (.str sort)]) "space" (.dat (.str S))) s → Inst s.heap t 294 m := fun s S => I.mono (base_s S)
  refine ex_assign F (.inl (by rfl)) (ev_item (k := (i : Int)) (Ev.weak (ev_attr G (by walk_at "ev") I'' (free_names w) h3 rfl (by rfl)) h4) (by walk_at "ev") (by omega) (by omega) (by simp [hN]; rfl) (fun _ _ => by rfl)) (by rfl) ?_
  refine ex_if (by walk_at "tt") (fun c1 => ?_) (fun c1 => ex_go (ex_if (by walk_at "tt") (fun c2 => ?_) (fun c2 => ex_go (ex_if (by walk_at "tt") (fun c3 => ?_) (fun c3 => ex_go
    (ex_if (by walk_at "tt") (fun c4 => ?_) (fun c4 => ex_go (ex_if (by walk_at "tt") (fun c5 => ?_) (fun c5 => ex_go (ex_if (by walk_at "tt") (fun c6 => ?_) (fun c6 => ex_go ?_)))))))))))
  all_goals walk_at "retB"
  all_goals simp only [strE, List.any_cons, List.any_nil, Bool.or_false] at *
  all_goals simp only [stopsF, isIn, List.any_cons, List.any_nil, Bool.or_false, *, if_true, if_false, Bool.false_eq_true]
end

section
noncomputable def fdSInit : FuncData := fdOf (inC (tops 2) 0) "OpenStack.__init__" .none mOpen 34
theorem at_SInit (w : World) : DefAt (Kf w) 35 fdSInit (bodyOf (inC (tops 2) 0)) := ⟨⟨.type "function", none, #[], by kernel_rfl⟩, by kernel_rfl, by kernel_rfl, by kernel_rfl, by kernel_rfl, by kernel_rfl, by kernel_rfl, by kernel_rfl, by kernel_rfl⟩
theorem meth_SInit (w : World) : ClsMeth (Kf w) 122 "__init__" 35 := ⟨by kernel_rfl, by kernel_rfl, by kernel_rfl, by kernel_rfl, by kernel_rfl⟩
noncomputable def fdSPush : FuncData := fdOf (inC (tops 2) 1) "OpenStack.push" .none mOpen 41
theorem at_SPush (w : World) : DefAt (Kf w) 42 fdSPush (bodyOf (inC (tops 2) 1)) := ⟨⟨.type "function", none, #[], by kernel_rfl⟩, by kernel_rfl, by kernel_rfl, by kernel_rfl, by kernel_rfl, by kernel_rfl, by kernel_rfl, by kernel_rfl, by kernel_rfl⟩
theorem meth_SPush (w : World) : ClsMeth (Kf w) 122 "push" 42 := ⟨by kernel_rfl, by kernel_rfl, by kernel_rfl, by kernel_rfl, by kernel_rfl⟩
noncomputable def fdSPop : FuncData := fdOf (inC (tops 2) 2) "OpenStack.pop" .none mOpen 48
theorem at_SPop (w : World) : DefAt (Kf w) 49 fdSPop (bodyOf (inC (tops 2) 2)) := ⟨⟨.type "function", none, #[], by kernel_rfl⟩, by kernel_rfl, by kernel_rfl, by kernel_rfl, by kernel_rfl, by kernel_rfl, by kernel_rfl, by kernel_rfl, by kernel_rfl⟩
theorem meth_SPop (w : World) : ClsMeth (Kf w) 122 "pop" 49 := ⟨by kernel_rfl, by kernel_rfl, by kernel_rfl, by kernel_rfl, by kernel_rfl⟩
noncomputable def fdSCurrent : FuncData := fdOf (inC (tops 2) 3) "OpenStack.current" .none mOpen 55
theorem at_SCurrent (w : World) : DefAt (Kf w) 56 fdSCurrent (bodyOf (inC (tops 2) 3)) := ⟨⟨.type "function", none, #[], by kernel_rfl⟩, by kernel_rfl, by kernel_rfl, by kernel_rfl, by kernel_rfl, by kernel_rfl, by kernel_rfl, by kernel_rfl, by kernel_rfl⟩
theorem meth_SCurrent (w : World) : ClsMeth (Kf w) 122 "current" 56 := ⟨by kernel_rfl, by kernel_rfl, by kernel_rfl, by kernel_rfl, by kernel_rfl⟩
noncomputable def fdSMany : FuncData := fdOf (inC (tops 2) 4) "OpenStack.many" .none mOpen 62
theorem at_SMany (w : World) : DefAt (Kf w) 63 fdSMany (bodyOf (inC (tops 2) 4)) := ⟨⟨.type "function", none, #[], by kernel_rfl⟩, by kernel_rfl, by kernel_rfl, by kernel_rfl, by kernel_rfl, by kernel_rfl, by kernel_rfl, by kernel_rfl, by kernel_rfl⟩
theorem meth_SMany (w : World) : ClsMeth (Kf w) 122 "many" 63 := ⟨by kernel_rfl, by kernel_rfl, by kernel_rfl, by kernel_rfl, by kernel_rfl⟩
noncomputable def fdSHas : FuncData := fdOf (inC (tops 2) 5) "OpenStack.has" .none mOpen 69
theorem at_SHas (w : World) : DefAt (Kf w) 70 fdSHas (bodyOf (inC (tops 2) 5)) := ⟨⟨.type "function", none, #[], by kernel_rfl⟩, by kernel_rfl, by kernel_rfl, by kernel_rfl, by kernel_rfl, by kernel_rfl, by kernel_rfl, by kernel_rfl, by kernel_rfl⟩
theorem meth_SHas (w : World) : ClsMeth (Kf w) 122 "has" 70 := ⟨by kernel_rfl, by kernel_rfl, by kernel_rfl, by kernel_rfl, by kernel_rfl⟩
noncomputable def fdSRemove : FuncData := fdOf (inC (tops 2) 6) "OpenStack.remove" .none mOpen 76
theorem at_SRemove (w : World) : DefAt (Kf w) 77 fdSRemove (bodyOf (inC (tops 2) 6)) := ⟨⟨.type "function", none, #[], by kernel_rfl⟩, by kernel_rfl, by kernel_rfl, by kernel_rfl, by kernel_rfl, by kernel_rfl, by kernel_rfl, by kernel_rfl, by kernel_rfl⟩
theorem meth_SRemove (w : World) : ClsMeth (Kf w) 122 "remove" 77 := ⟨by kernel_rfl, by kernel_rfl, by kernel_rfl, by kernel_rfl, by kernel_rfl⟩
noncomputable def fdSPlace : FuncData := fdOf (inC (tops 2) 7) "OpenStack.place" .none mOpen 83
theorem at_SPlace (w : World) : DefAt (Kf w) 84 fdSPlace (bodyOf (inC (tops 2) 7)) := ⟨⟨.type "function", none, #[], by kernel_rfl⟩, by kernel_rfl, by kernel_rfl, by kernel_rfl, by kernel_rfl, by kernel_rfl, by kernel_rfl, by kernel_rfl, by kernel_rfl⟩
theorem meth_SPlace (w : World) : ClsMeth (Kf w) 122 "place" 84 := ⟨by kernel_rfl, by kernel_rfl, by kernel_rfl, by kernel_rfl, by kernel_rfl⟩
noncomputable def fdSPutAt : FuncData := fdOf (inC (tops 2) 8) "OpenStack.put_at" .none mOpen 90
theorem at_SPutAt (w : World) : DefAt (Kf w) 91 fdSPutAt (bodyOf (inC (tops 2) 8)) := ⟨⟨.type "function", none, #[], by kernel_rfl⟩, by kernel_rfl, by kernel_rfl, by kernel_rfl, by kernel_rfl, by kernel_rfl, by kernel_rfl, by kernel_rfl, by kernel_rfl⟩
theorem meth_SPutAt (w : World) : ClsMeth (Kf w) 122 "put_at" 91 := ⟨by kernel_rfl, by kernel_rfl, by kernel_rfl, by kernel_rfl, by kernel_rfl⟩
noncomputable def fdSName : FuncData := fdOf (inC (tops 2) 9) "OpenStack.name" .none mOpen 97
theorem at_SName (w : World) : DefAt (Kf w) 98 fdSName (bodyOf (inC (tops 2) 9)) := ⟨⟨.type "function", none, #[], by kernel_rfl⟩, by kernel_rfl, by kernel_rfl, by kernel_rfl, by kernel_rfl, by kernel_rfl, by kernel_rfl, by kernel_rfl, by kernel_rfl⟩
theorem meth_SName (w : World) : ClsMeth (Kf w) 122 "name" 98 := ⟨by kernel_rfl, by kernel_rfl, by kernel_rfl, by kernel_rfl, by kernel_rfl⟩
noncomputable def fdSHasName : FuncData := fdOf (inC (tops 2) 10) "OpenStack.has_name" .none mOpen 104
theorem at_SHasName (w : World) : DefAt (Kf w) 105 fdSHasName (bodyOf (inC (tops 2) 10)) := ⟨⟨.type "function", none, #[], by kernel_rfl⟩, by kernel_rfl, by kernel_rfl, by kernel_rfl, by kernel_rfl, by kernel_rfl, by kernel_rfl, by kernel_rfl, by kernel_rfl⟩
theorem meth_SHasName (w : World) : ClsMeth (Kf w) 122 "has_name" 105 := ⟨by kernel_rfl, by kernel_rfl, by kernel_rfl, by kernel_rfl, by kernel_rfl⟩
noncomputable def fdInScope : FuncData := fdOf (tops 4) "in_scope" (.ref 134) mOpen 140
theorem at_InScope (w : World) : DefAt (Kf w) 141 fdInScope (bodyOf (tops 4)) := ⟨⟨.type "function", none, #[], by kernel_rfl⟩, by kernel_rfl, by kernel_rfl, by kernel_rfl, by kernel_rfl, by kernel_rfl, by kernel_rfl, by kernel_rfl, by kernel_rfl⟩
noncomputable def fdNodeIn : FuncData := fdOf (tops 5) "node_in_scope" (.ref 142) mOpen 148
theorem at_NodeIn (w : World) : DefAt (Kf w) 149 fdNodeIn (bodyOf (tops 5)) := ⟨⟨.type "function", none, #[], by kernel_rfl⟩, by kernel_rfl, by kernel_rfl, by kernel_rfl, by kernel_rfl, by kernel_rfl, by kernel_rfl, by kernel_rfl, by kernel_rfl⟩
noncomputable def fdTInit : FuncData := fdOf (inC (tops 10) 0) "Tree.__init__" .none mTree 194
theorem at_TInit (w : World) : DefAt (Kf w) 195 fdTInit (bodyOf (inC (tops 10) 0)) := ⟨⟨.type "function", none, #[], by kernel_rfl⟩, by kernel_rfl, by kernel_rfl, by kernel_rfl, by kernel_rfl, by kernel_rfl, by kernel_rfl, by kernel_rfl, by kernel_rfl⟩
theorem meth_TInit (w : World) : ClsMeth (Kf w) 294 "__init__" 195 := ⟨by kernel_rfl, by kernel_rfl, by kernel_rfl, by kernel_rfl, by kernel_rfl⟩
noncomputable def fdTAdd : FuncData := fdOf (inC (tops 10) 1) "Tree.add" (.ref 197) mTree 203
theorem at_TAdd (w : World) : DefAt (Kf w) 204 fdTAdd (bodyOf (inC (tops 10) 1)) := ⟨⟨.type "function", none, #[], by kernel_rfl⟩, by kernel_rfl, by kernel_rfl, by kernel_rfl, by kernel_rfl, by kernel_rfl, by kernel_rfl, by kernel_rfl, by kernel_rfl⟩
theorem meth_TAdd (w : World) : ClsMeth (Kf w) 294 "add" 204 := ⟨by kernel_rfl, by kernel_rfl, by kernel_rfl, by kernel_rfl, by kernel_rfl⟩
noncomputable def fdTElement : FuncData := fdOf (inC (tops 10) 2) "Tree.element" (.ref 206) mTree 212
theorem at_TElement (w : World) : DefAt (Kf w) 213 fdTElement (bodyOf (inC (tops 10) 2)) := ⟨⟨.type "function", none, #[], by kernel_rfl⟩, by kernel_rfl, by kernel_rfl, by kernel_rfl, by kernel_rfl, by kernel_rfl, by kernel_rfl, by kernel_rfl, by kernel_rfl⟩
theorem meth_TElement (w : World) : ClsMeth (Kf w) 294 "element" 213 := ⟨by kernel_rfl, by kernel_rfl, by kernel_rfl, by kernel_rfl, by kernel_rfl⟩
noncomputable def fdTIsHtml : FuncData := fdOf (inC (tops 10) 13) "Tree.is_html" .none mTree 290
theorem at_TIsHtml (w : World) : DefAt (Kf w) 291 fdTIsHtml (bodyOf (inC (tops 10) 13)) := ⟨⟨.type "function", none, #[], by kernel_rfl⟩, by kernel_rfl, by kernel_rfl, by kernel_rfl, by kernel_rfl, by kernel_rfl, by kernel_rfl, by kernel_rfl, by kernel_rfl⟩
theorem meth_TIsHtml (w : World) : ClsMeth (Kf w) 294 "is_html" 291 := ⟨by kernel_rfl, by kernel_rfl, by kernel_rfl, by kernel_rfl, by kernel_rfl⟩
noncomputable def fdDigit : FuncData := fdOf (tops 13) "_law_digit" .none mLaw 311
theorem at_Digit (w : World) : DefAt (Kf w) 312 fdDigit (bodyOf (tops 13)) := ⟨⟨.type "function", none, #[], by kernel_rfl⟩, by kernel_rfl, by kernel_rfl, by kernel_rfl, by kernel_rfl, by kernel_rfl, by kernel_rfl, by kernel_rfl, by kernel_rfl⟩
noncomputable def fdPool : FuncData := fdOf (tops 14) "_law_pool" .none mLaw 318
theorem at_Pool (w : World) : DefAt (Kf w) 319 fdPool (bodyOf (tops 14)) := ⟨⟨.type "function", none, #[], by kernel_rfl⟩, by kernel_rfl, by kernel_rfl, by kernel_rfl, by kernel_rfl, by kernel_rfl, by kernel_rfl, by kernel_rfl, by kernel_rfl⟩
noncomputable def fdEnds : FuncData := fdOf (tops 15) "_law_ends" .none mLaw 323
theorem at_Ends (w : World) : DefAt (Kf w) 324 fdEnds (bodyOf (tops 15)) := ⟨⟨.type "function", none, #[], by kernel_rfl⟩, by kernel_rfl, by kernel_rfl, by kernel_rfl, by kernel_rfl, by kernel_rfl, by kernel_rfl, by kernel_rfl, by kernel_rfl⟩
noncomputable def fdHighest : FuncData := fdOf (tops 16) "_law_highest" .none mLaw 330
theorem at_Highest (w : World) : DefAt (Kf w) 331 fdHighest (bodyOf (tops 16)) := ⟨⟨.type "function", none, #[], by kernel_rfl⟩, by kernel_rfl, by kernel_rfl, by kernel_rfl, by kernel_rfl, by kernel_rfl, by kernel_rfl, by kernel_rfl, by kernel_rfl⟩
noncomputable def fdSeen : FuncData := fdOf (tops 17) "_law_is_seen" .none mLaw 335
theorem at_Seen (w : World) : DefAt (Kf w) 336 fdSeen (bodyOf (tops 17)) := ⟨⟨.type "function", none, #[], by kernel_rfl⟩, by kernel_rfl, by kernel_rfl, by kernel_rfl, by kernel_rfl, by kernel_rfl, by kernel_rfl, by kernel_rfl, by kernel_rfl⟩
noncomputable def fdScoped : FuncData := fdOf (tops 18) "_law_is_scoped" .none mLaw 340
theorem at_Scoped (w : World) : DefAt (Kf w) 341 fdScoped (bodyOf (tops 18)) := ⟨⟨.type "function", none, #[], by kernel_rfl⟩, by kernel_rfl, by kernel_rfl, by kernel_rfl, by kernel_rfl, by kernel_rfl, by kernel_rfl, by kernel_rfl, by kernel_rfl⟩
theorem free_items (w : World) : ClsFree (Kf w) 122 "items" := ⟨by kernel_rfl, by kernel_rfl, by kernel_rfl⟩
theorem free_tree (w : World) : ClsFree (Kf w) 122 "tree" := ⟨by kernel_rfl, by kernel_rfl, by kernel_rfl⟩
theorem free_kinds (w : World) : ClsFree (Kf w) 294 "kinds" := ⟨by kernel_rfl, by kernel_rfl, by kernel_rfl⟩
theorem free_attrs (w : World) : ClsFree (Kf w) 294 "attrs" := ⟨by kernel_rfl, by kernel_rfl, by kernel_rfl⟩
theorem free_texts (w : World) : ClsFree (Kf w) 294 "texts" := ⟨by kernel_rfl, by kernel_rfl, by kernel_rfl⟩
theorem free_parents (w : World) : ClsFree (Kf w) 294 "parents" := ⟨by kernel_rfl, by kernel_rfl, by kernel_rfl⟩
theorem free_children (w : World) : ClsFree (Kf w) 294 "children" := ⟨by kernel_rfl, by kernel_rfl, by kernel_rfl⟩
theorem free_contents (w : World) : ClsFree (Kf w) 294 "contents" := ⟨by kernel_rfl, by kernel_rfl, by kernel_rfl⟩
end

section

/-! lists of naturals, of texts, of bools -/
noncomputable abbrev nd (l : List Nat) : List PyData := l.map fun (k : Nat) => PyData.int (k : Int)
noncomputable abbrev sd (l : List Str) : List PyData := l.map PyData.str
noncomputable abbrev bd (l : List Bool) : List PyData := l.map PyData.bool
theorem intE (a b : Int) : PyData.eqv (.int a) (.int b) = (a == b) := by simp [PyData.eqv]
theorem strE' (a b : Str) : PyData.eqv (.str a) (.str b) = (a == b) := by simp [PyData.eqv]
theorem nd_any (l : List Nat) (k : Nat) : ((nd l).any fun y => y.eqv (.int (k : Int))) = decide (k ∈ l) := by
  rw [Bool.eq_iff_iff]
  simp only [nd, List.any_eq_true, List.mem_map, decide_eq_true_eq]
  constructor
  · rintro ⟨y, ⟨a, ha, rfl⟩, e⟩
    rw [intE] at e
    have : (a : Int) = k := by simpa using e
    have : a = k := by omega
    exact this ▸ ha
  · exact fun h => ⟨_, ⟨k, h, rfl⟩, by rw [intE]; simp⟩
theorem sd_any (l : List Str) (k : Str) : ((sd l).any fun y => y.eqv (.str k)) = decide (k ∈ l) := by
  rw [Bool.eq_iff_iff]
  simp only [sd, List.any_eq_true, List.mem_map, decide_eq_true_eq]
  constructor
  · rintro ⟨y, ⟨a, ha, rfl⟩, e⟩
    rw [strE'] at e
    have : a = k := by simpa using e
    exact this ▸ ha
  · exact fun h => ⟨_, ⟨k, h, rfl⟩, by rw [strE']; simp⟩
theorem nd_lay (l : List Nat) : PyData.canLayAll0 (nd l) = true := by
  induction l with
  | nil => rfl
  | cons a l ih => simpa [nd, PyData.canLayAll0, PyData.canLay0] using ih
theorem sd_lay {l : List Str} (h : ∀ x ∈ l, PyData.strOk x = true) : PyData.canLayAll0 (sd l) = true := by
  induction l with
  | nil => rfl
  | cons a l ih =>
    have h1 := h a List.mem_cons_self
    have h2 := ih fun x hx => h x (List.mem_cons_of_mem _ hx)
    simp only [sd, List.map_cons, PyData.canLayAll0, PyData.canLay0] at *
    simp [h1, h2]
theorem nd_getD (l : List Nat) {i : Nat} (h : i < l.length) : (nd l).getD i .none = .int ((l.getD i 0 : Nat) : Int) := by
  simp [nd, List.getD_eq_getElem?_getD, List.getElem?_eq_getElem h]
theorem sd_getD (l : List Str) {i : Nat} (h : i < l.length) : (sd l).getD i .none = .str (l.getD i "") := by
  simp [sd, List.getD_eq_getElem?_getD, List.getElem?_eq_getElem h]

section
variable {prog : Program} {w : World} {A : Around} {r : Shared} {h₀ : Heap} {env : Env} {C : List (Addr × Obj)} {ρ : Rho} {s : Shared} {K : Frag} {mg mb : Str → Option Value} {n : Nat}

theorem It.congr {iter : Expr} {item item' : Nat → Ab} (x : It prog w A r h₀ env C ρ iter n item) (h : ∀ i, i < n → item i = item' i) : It prog w A r h₀ env C ρ iter n item' := .mk fun s S =>
  wpAny_mono (x.go s S) (fun xv s₁ h₁ => wpAny_mono h₁ (fun itv s₂ h₂ => by
    obtain ⟨k₂, I, fp, wr, P, Sx, e, W, a, b, c, d, f, g⟩ := h₂
    exact ⟨k₂, I, fp, wr, P, Sx, e, W, a, b, c, d, f, fun i v hi hv => h i hi ▸ g i v hi hv⟩) fun _ _ f => f) fun _ _ f => f
theorem it_nats {iter : Expr} {l : List Nat} (hh : A.handled = none) (x : Ev prog w A r h₀ env C ρ iter (.dat (.list (nd l)))) : It prog w A r h₀ env C ρ iter l.length (fun i => .dat (.int ((l.getD i 0 : Nat) : Int))) := by
  have := it_list hh x
  rw [show (nd l).length = l.length by simp [nd]] at this
  exact this.congr fun i hi => by rw [nd_getD l hi]
theorem it_strs {iter : Expr} {l : List Str} (hh : A.handled = none) (x : Ev prog w A r h₀ env C ρ iter (.dat (.list (sd l)))) : It prog w A r h₀ env C ρ iter l.length (fun i => .dat (.str (l.getD i ""))) := by
  have := it_list hh x
  rw [show (sd l).length = l.length by simp [sd]] at this
  exact this.congr fun i hi => by rw [sd_getD l hi]
theorem it_strsT {iter : Expr} {l : List Str} (hh : A.handled = none) (x : Ev prog w A r h₀ env C ρ iter (.dat (.tuple (sd l)))) : It prog w A r h₀ env C ρ iter l.length (fun i => .dat (.str (l.getD i ""))) := by
  have := it_tuple hh x
  rw [show (sd l).length = l.length by simp [sd]] at this
  exact this.congr fun i hi => by rw [sd_getD l hi]

noncomputable def SrchQ (r : Shared) (h₁ : Heap) (env : Env) (C : List (Addr × Obj)) (ρ : Rho) (P : Prop) (Q : Flow → Shared → Prop) : Flow → Shared → Prop
  | .ret v, s => Q (.ret v) s
  | .brk, _ => False
  | _, s => P ∧ St r h₁ env C ρ s
/-- a loop that looks for something, and keeps nothing -/
theorem ex_search (P : Nat → Bool) (ρ' : Rho) {iter : Expr} {item : Nat → Ab} {x : Str} {xp pos : Pos} {body rest : List Stmt} {Q : Flow → Shared → Prop}
    (F : Fe env) (hx : Stores env x) (it : It prog w A r h₀ env C ρ iter n item) (hρ : ∀ y a, ρ' y = some a → ρ y = some a)
    (turn : ∀ i own h₁, i < n → (∀ j, j < i → P j = false) → Sub h₀ h₁ → Ex prog w A r h₁ env (own ++ C) (upd ρ' x (item i)) body (SrchQ r h₁ env (own ++ C) ρ' (P i = false) Q))
    (done : (∀ j, j < n → P j = false) → Ex prog w A r h₀ env C ρ' rest Q)
    (hs : ∀ v, foldedSetIterable iter env v = pure v) : Ex prog w A r h₀ env C ρ (.For (.Name x xp) iter body [] pos :: rest) Q :=
  ex_for (σ := Unit) (fun _ => C) (fun _ => ρ') (fun i _ => ∀ j, j < i → P j = false) () F hx (fun _ _ => rfl) it hρ (fun j hj => by omega)
    (fun i c own h₁ hi hI hb => (turn i own h₁ hi hI hb).mono fun f s hq => by
      have step : P i = false → ∀ j, j < i + 1 → P j = false := fun e j hj => by
        by_cases q : j < i
        · exact hI j q
        · have : j = i := by omega
          exact this ▸ e
      cases f with
      | ret v => exact hq
      | brk => exact hq
      | next => exact ⟨(), step hq.1, hq.2⟩
      | cont => exact ⟨(), step hq.1, hq.2⟩)
    (fun _ hI => done hI) hs

/-- the end of a turn: what is kept -/
theorem ex_turn {h₁ : Heap} {ρ' : Rho} {P : Prop} {Q : Flow → Shared → Prop} (hp : P) (h : ∀ x a, ρ' x = some a → ρ x = some a) : Ex prog w A r h₁ env C ρ [] (SrchQ r h₁ env C ρ' P Q) := ex_nil fun s S => ⟨hp, S.weaken h⟩
theorem upd_keeps {ρ' : Rho} {x : Str} {a : Ab} (hx : ρ' x = none) (h : ∀ y b, ρ' y = some b → ρ y = some b) : ∀ y b, ρ' y = some b → upd ρ x a y = some b := fun y b e => by
  unfold upd
  by_cases q : y = x
  · rw [q, hx] at e; cases e
  · rw [if_neg q]; exact h y b e
theorem keeps_self : ∀ y b, ρ y = some b → ρ y = some b := fun _ _ e => e

theorem St.kp2 (k : Sub r.heap h₀) (S : St r h₀ env C ρ s) : Keeps r s := by
  obtain ⟨h, tk, e⟩ := S.same
  refine ⟨h, tk, e, fun b o q => ?_⟩
  have := base_s S b o (k b o q)
  rw [e] at this; exact this
theorem ex_retB2 {e : Expr} {pos : Pos} {b b' : Bool} {rest : List Stmt} {Q : Flow → Shared → Prop} (k : Sub r.heap h₀) (y : Ev prog w A r h₀ env C ρ e (.dat (.bool b'))) (hb : b' = b) (hQ : ∀ u s, RetQ r (.dat (.bool b)) (.ret u) s → Q (.ret u) s) :
    Ex prog w A r h₀ env C ρ (.Return (some e) pos :: rest) Q := ex_ret y fun u s S hu => hQ u s ⟨S.kp2 k, by subst hb; exact Rd.flatB hu⟩
theorem ex_retI2 {e : Expr} {pos : Pos} {b b' : Int} {rest : List Stmt} {Q : Flow → Shared → Prop} (k : Sub r.heap h₀) (y : Ev prog w A r h₀ env C ρ e (.dat (.int b'))) (hb : b' = b) (hQ : ∀ u s, RetQ r (.dat (.int b)) (.ret u) s → Q (.ret u) s) :
    Ex prog w A r h₀ env C ρ (.Return (some e) pos :: rest) Q := ex_ret y fun u s S hu => hQ u s ⟨S.kp2 k, by subst hb; exact Rd.flatI hu⟩
theorem ex_retS2 {e : Expr} {pos : Pos} {b b' : Str} {rest : List Stmt} {Q : Flow → Shared → Prop} (k : Sub r.heap h₀) (y : Ev prog w A r h₀ env C ρ e (.dat (.str b'))) (hb : b' = b) (hQ : ∀ u s, RetQ r (.dat (.str b)) (.ret u) s → Q (.ret u) s) :
    Ex prog w A r h₀ env C ρ (.Return (some e) pos :: rest) Q := ex_ret y fun u s S hu => hQ u s ⟨S.kp2 k, by subst hb; exact Rd.flatS hu⟩

/-! items -/
theorem ev_itemN' {l i : Expr} {pos : Pos} {ds : List Nat} {k d : Nat} (x : Ev prog w A r h₀ env C ρ l (.dat (.list (nd ds)))) (y : Ev prog w A r h₀ env C ρ i (.dat (.int (k : Int)))) (h1 : k < 2 ^ 62) (hd : ds[k]? = some d)
    (hs : ∀ o u, subscripted i false (.ref o) (.int k u) = operate [.ref o, .int k u] (getItem (.ref o) (.int k u))) : Ev prog w A r h₀ env C ρ (.Subscript l i pos) (.dat (.int (d : Int))) :=
  ev_item x y (by omega) (by omega) (by simp [hd]) hs
theorem ev_itemS' {l i : Expr} {pos : Pos} {ds : List Str} {k : Nat} {d : Str} (x : Ev prog w A r h₀ env C ρ l (.dat (.list (sd ds)))) (y : Ev prog w A r h₀ env C ρ i (.dat (.int (k : Int)))) (h1 : k < 2 ^ 62) (hd : ds[k]? = some d)
    (hs : ∀ o u, subscripted i false (.ref o) (.int k u) = operate [.ref o, .int k u] (getItem (.ref o) (.int k u))) : Ev prog w A r h₀ env C ρ (.Subscript l i pos) (.dat (.str d)) :=
  ev_item x y (by omega) (by omega) (by simp [hd]) hs
end
end

local macro_rules | `(tactic| walk_at "lay") => `(tactic| first
  | assumption
  | (refine' sh_str ?h; (case h => first | assumption | decide +kernel))
  | exact sh_int
  | exact sh_bool
  | (refine' cl_str ?h; (case h => first | assumption | decide +kernel))
  | exact cl_int
  | exact de_str
  | exact de_int
  | decide +kernel)
local macro_rules | `(tactic| walk_at "cmp") => `(tactic| first
  | exact cmp_ge
  | (refine' cmp_inT ?hR ?h1 ?h2 ?h3; (case hR => assumption); (case h1 => walk_at "lay"); (case h2 => walk_at "lay"); (case h3 => walk_at "lay"))
  | (refine' cmp_notinT ?hR ?h1 ?h2 ?h3; (case hR => assumption); (case h1 => walk_at "lay"); (case h2 => walk_at "lay"); (case h3 => walk_at "lay"))
  | (refine' cmp_in ?hR ?h1 ?h2 ?h3; (case hR => assumption); (case h1 => walk_at "lay"); (case h2 => walk_at "lay"); (case h3 => walk_at "lay"))
  | (refine' cmp_notin ?hR ?h1 ?h2 ?h3; (case hR => assumption); (case h1 => walk_at "lay"); (case h2 => walk_at "lay"); (case h3 => walk_at "lay"))
  | (refine' cmp_eq ?hR ?h1 ?h2; (case hR => assumption); (case h1 => walk_at "lay"); (case h2 => walk_at "lay"))
  | (refine' cmp_ne ?hR ?h1 ?h2; (case hR => assumption); (case h1 => walk_at "lay"); (case h2 => walk_at "lay")))
local macro_rules | `(tactic| walk_at "evd") => `(tactic| first
  | exact evd_nil
  | (refine' evd_cons ?h1 ?h2; (case h1 => walk_at "ev"); (case h2 => walk_at "evd")))
local macro_rules | `(tactic| walk_at "evl") => `(tactic| first
  | exact evl_nil
  | (refine' evl_cons ?h1 ?h2; (case h1 => walk_at "ev"); (case h2 => walk_at "evl")))
local macro_rules | `(tactic| walk_at "ev") => `(tactic| first
  | (refine' ev_name ?h1 ?h2 ?h3; (case h1 => walk_at "fe"); (case h2 => rfl); (case h3 => decide +kernel))
  | exact ev_str
  | exact ev_int
  | exact ev_bool
  | (refine' ev_one ?h1; (case h1 => walk_at "ev"))
  | (refine' ev_tuple ?h1 ?h2 ?h3; (case h1 => walk_at "evd"); (case h2 => rfl); (case h3 => decide +kernel))
  | (refine' ev_list ?h1 ?h2 ?h3; (case h1 => walk_at "evd"); (case h2 => rfl); (case h3 => decide +kernel))
  | (refine' ev_neg ?h1; (case h1 => walk_at "ev"))
  | (refine' ev_not ?h1; (case h1 => walk_at "ev"))
  | (refine' ev_cmpd ?h1 ?h2 ?h3 ?h4; (case h1 => walk_at "ev"); (case h2 => walk_at "ev"); (case h3 => walk_at "cmp"); (case h4 => rfl))
  | (refine' ev_and ?h1 ?h2; (case h1 => walk_at "ev"); (case h2 => intro _; walk_at "ev"))
  | (refine' ev_or ?h1 ?h2; (case h1 => walk_at "ev"); (case h2 => intro _; walk_at "ev"))
  | (refine' ev_add ?h1 ?h2; (case h1 => walk_at "ev"); (case h2 => walk_at "ev"))
  | (refine' ev_sub ?h1 ?h2; (case h1 => walk_at "ev"); (case h2 => walk_at "ev")))
local macro_rules | `(tactic| walk_at "tt") => `(tactic| first
  | (refine' tt_cmpd ?h1 ?h2 ?h3 ?h4; (case h1 => walk_at "ev"); (case h2 => walk_at "ev"); (case h3 => walk_at "cmp"); (case h4 => rfl))
  | (refine' tt_not ?h1; (case h1 => walk_at "tt"))
  | (refine' tt_val ?h1 ?h2; (case h1 => walk_at "ev"); (case h2 => rfl)))
local macro_rules | `(tactic| walk_at "retB") => `(tactic| (refine' ex_retB ?h ?e (fun _ _ x => x); (case h => walk_at "ev")))
local macro_rules | `(tactic| walk_at "retI") => `(tactic| (refine' ex_retI ?h ?e (fun _ _ x => x); (case h => walk_at "ev")))
local macro_rules | `(tactic| walk_at "retS") => `(tactic| (refine' ex_retS ?h ?e (fun _ _ x => x); (case h => walk_at "ev")))
local macro_rules | `(tactic| walk_at "look") => `(tactic| first | assumption | rfl | decide +kernel)
local macro_rules | `(tactic| walk_at "side") => `(tactic| first | assumption | omega | decide +kernel | (simp; done) | (simp; omega))
local macro_rules | `(tactic| walk_at "hst") => `(tactic| rfl)
local macro_rules | `(tactic| walk_at "ev") => `(tactic| first
  | (refine' ev_attrD ?hG ?ho ?hI ?hM ?hm ?hr ?he; (case hG => assumption); (case ho => walk_at "ev"); (case hI => assumption); (case hM => walk_at "cls"); (case hm => walk_at "look"); (case hr => assumption); (case he => rfl))
  | (refine' ev_attrB ?hG ?ho ?hI ?hM ?hm ?hr ?he; (case hG => assumption); (case ho => walk_at "ev"); (case hI => assumption); (case hM => walk_at "cls"); (case hm => walk_at "look"); (case hr => rfl); (case he => rfl))
  | (refine' ev_methB ?hG ?ho ?hI ?hM ?hm ?hst ?hy ?hF ?he; (case hG => assumption); (case ho => walk_at "ev"); (case hI => assumption); (case hM => walk_at "cls"); (case hm => walk_at "look"); (case hst => rfl); (case hy => walk_at "evl"); (case hF => walk_at "fn"); (case he => rfl))
  | (refine' ev_callG ?hF ?hG ?hx ?hn ?hd ?hk ?hst ?hy ?hf; (case hF => walk_at "fe"); (case hG => assumption); (case hx => rfl); (case hn => walk_at "ns"); (case hd => decide +kernel); (case hk => walk_at "kp"); (case hst => rfl); (case hy => walk_at "evl"); (case hf => walk_at "fn"))
  | (refine' ev_len ?hF ?hG ?hx ?hn ?hst ?hy ?hz; (case hF => walk_at "fe"); (case hG => assumption); (case hx => rfl); (case hn => walk_at "ns"); (case hst => rfl); (case hy => walk_at "ev"); (case hz => walk_at "side"))
  | (refine' ev_itemS' ?hx ?hy ?h1 ?hd ?hs; (case hx => walk_at "ev"); (case hy => walk_at "ev"); (case h1 => walk_at "side"); (case hd => walk_at "side"); (case hs => (intro _ _; rfl)))
  | (refine' ev_itemN' ?hx ?hy ?h1 ?hd ?hs; (case hx => walk_at "ev"); (case hy => walk_at "ev"); (case h1 => walk_at "side"); (case hd => walk_at "side"); (case hs => (intro _ _; rfl))))
local macro_rules | `(tactic| walk_at "sub") => `(tactic| first | assumption | exact Sub.refl)
local macro_rules | `(tactic| walk_at "retB") => `(tactic| (refine' ex_retB2 ?k ?h ?e (fun _ _ x => x); (case k => walk_at "sub"); (case h => walk_at "ev")))
local macro_rules | `(tactic| walk_at "retI") => `(tactic| (refine' ex_retI2 ?k ?h ?e (fun _ _ x => x); (case k => walk_at "sub"); (case h => walk_at "ev")))
local macro_rules | `(tactic| walk_at "retS") => `(tactic| (refine' ex_retS2 ?k ?h ?e (fun _ _ x => x); (case k => walk_at "sub"); (case h => walk_at "ev")))
local macro_rules | `(tactic| walk_at "fn") => `(tactic| assumption)
local macro_rules | `(tactic| walk_at "fe") => `(tactic| first | assumption | exact Fe.mk rfl rfl rfl)
theorem ns_len (w : World) : nsIn (Kf w) mainGlobals "len" = some none := by kernel_rfl
theorem ns_range (w : World) : nsIn (Kf w) mainGlobals "range" = some none := by kernel_rfl
theorem ns_max (w : World) : nsIn (Kf w) mainGlobals "max" = some none := by kernel_rfl
theorem ns_enumerate (w : World) : nsIn (Kf w) mainGlobals "enumerate" = some none := by kernel_rfl
theorem ns_list (w : World) : nsIn (Kf w) mainGlobals "list" = some none := by kernel_rfl
theorem ns_stops (w : World) : nsIn (Kf w) mainGlobals "stops_scope" = some (some (.ref 133)) := by kernel_rfl
theorem ns_inScope (w : World) : nsIn (Kf w) mainGlobals "in_scope" = some (some (.ref 141)) := by kernel_rfl
theorem ns_nodeIn (w : World) : nsIn (Kf w) mainGlobals "node_in_scope" = some (some (.ref 149)) := by kernel_rfl
theorem ns_digit (w : World) : nsIn (Kf w) mainGlobals "_law_digit" = some (some (.ref 312)) := by kernel_rfl
theorem ns_pool (w : World) : nsIn (Kf w) mainGlobals "_law_pool" = some (some (.ref 319)) := by kernel_rfl
theorem ns_ends (w : World) : nsIn (Kf w) mainGlobals "_law_ends" = some (some (.ref 324)) := by kernel_rfl
theorem ns_highest (w : World) : nsIn (Kf w) mainGlobals "_law_highest" = some (some (.ref 331)) := by kernel_rfl
theorem ns_seen (w : World) : nsIn (Kf w) mainGlobals "_law_is_seen" = some (some (.ref 336)) := by kernel_rfl
theorem ns_scoped (w : World) : nsIn (Kf w) mainGlobals "_law_is_scoped" = some (some (.ref 341)) := by kernel_rfl
theorem ns_Tree (w : World) : nsIn (Kf w) mainGlobals "Tree" = some (some (.ref 294)) := by kernel_rfl
theorem ns_OpenStack (w : World) : nsIn (Kf w) mainGlobals "OpenStack" = some (some (.ref 122)) := by kernel_rfl
theorem kp_stops (w : World) : keepIn (Kf w) (.ref 133) = true := by kernel_rfl
theorem kp_inScope (w : World) : keepIn (Kf w) (.ref 141) = true := by kernel_rfl
theorem kp_nodeIn (w : World) : keepIn (Kf w) (.ref 149) = true := by kernel_rfl
theorem kp_digit (w : World) : keepIn (Kf w) (.ref 312) = true := by kernel_rfl
theorem kp_pool (w : World) : keepIn (Kf w) (.ref 319) = true := by kernel_rfl
theorem kp_ends (w : World) : keepIn (Kf w) (.ref 324) = true := by kernel_rfl
theorem kp_highest (w : World) : keepIn (Kf w) (.ref 331) = true := by kernel_rfl
theorem kp_seen (w : World) : keepIn (Kf w) (.ref 336) = true := by kernel_rfl
theorem kp_scoped (w : World) : keepIn (Kf w) (.ref 341) = true := by kernel_rfl

local macro_rules | `(tactic| walk_at "ns") => `(tactic| first | exact ns_len _ | exact ns_range _ | exact ns_max _ | exact ns_enumerate _ | exact ns_list _ | exact ns_stops _ | exact ns_inScope _ | exact ns_nodeIn _ | exact ns_digit _ | exact ns_pool _ | exact ns_ends _ | exact ns_highest _ | exact ns_seen _ | exact ns_scoped _)
local macro_rules | `(tactic| walk_at "kp") => `(tactic| first | exact kp_stops _ | exact kp_inScope _ | exact kp_nodeIn _ | exact kp_digit _ | exact kp_pool _ | exact kp_ends _ | exact kp_highest _ | exact kp_seen _ | exact kp_scoped _)
local macro_rules | `(tactic| walk_at "cls") => `(tactic| first | exact free_items _ | exact meth_SMany _ | exact meth_SCurrent _ | exact meth_SName _ | exact meth_SPush _ | exact meth_SPop _ | exact meth_SRemove _ | exact meth_SPutAt _ | exact free_tree _ | exact free_spaces _ | exact free_names _ | exact meth_SMany _ | exact meth_SCurrent _ | exact meth_SHas _ | exact meth_SPlace _ | exact meth_SName _ | exact meth_SHasName _ | exact meth_TIsHtml _)
/-- the stack -/
noncomputable def mS (t a : Addr) : Str → Option Value := fun x => if x = "tree" then some (.ref t) else if x = "items" then some (.ref a) else none
noncomputable def StackAt (h : Heap) (st t : Addr) (its : List Nat) : Prop := ∃ a, Inst h st 122 (mS t a) ∧ Rd h (.ref a) (.list (nd its))
theorem StackAt.mono {h h' : Heap} {st t : Addr} {its : List Nat} (k : Sub h h') (T : StackAt h st t its) : StackAt h' st t its := by
  obtain ⟨a, I, R⟩ := T
  exact ⟨a, I.mono k, R.mono k⟩

section
variable {w : World} {A : Around} {h : Heap} {mg mb : Str → Option Value} {st t : Addr} {its : List Nat} {sp nm : List Str}
theorem fn_many (G : Gnd (Kf w) mg mb h) (R : Room A 1) (T : StackAt h st t its) (hz : its.length < 2 ^ 60) : Fn PP w A h (.ref 63) [.val (.ref st)] (.dat (.int its.length)) := by
  refine fn_def (names := ["self"]) (as := [.val (.ref st)]) (more := []) (at_SMany w) G R (fun s us _ hl => ?_) (fun _ => trivial) rfl (by decide) (by decide +kernel) (fun L => by kernel_rfl) fun s₀ L k G R F => ?_
  · match us, hl with
    | [a], _ => exact BindsTo.of_eq (by kernel_rfl)
  obtain ⟨a, I, rd⟩ := T.mono k
  walk_at "retI"
  simp
end

section
section
variable {w : World} {A : Around} {h : Heap} {mg mb : Str → Option Value} {st t : Addr} {its : List Nat} {sp nm : List Str}
theorem TreeAt.open {h : Heap} {t : Addr} {sp nm : List Str} (T : TreeAt h t sp nm) : ∃ m a b, Inst h t 294 m ∧ m "spaces" = some (.ref a) ∧ Rd h (.ref a) (.list (sd sp)) ∧ m "names" = some (.ref b) ∧ Rd h (.ref b) (.list (sd nm)) ∧ m "is_html" = none := T

noncomputable def placeN (its : List Nat) (k : Nat) : Int := if k ∈ its then ((its.idxOf k : Nat) : Int) else -1
theorem idx_nd (its : List Nat) (k : Nat) : ((its.map Int.ofNat).idxOf (k : Int)) = its.idxOf k := by
  induction its with
  | nil => rfl
  | cons a l ih =>
    simp only [List.map_cons, List.idxOf_cons]
    by_cases e : a = k
    · subst e; simp
    · have : (Int.ofNat a == (k : Int)) = false := by simp; omega
      have e' : (a == k) = false := by simpa using e
      rw [this, e']; simp [ih]
theorem nd_as (its : List Nat) : nd its = (its.map Int.ofNat).map .int := by simp [nd]
/-- short, of small numbers -/
noncomputable def Few (its : List Nat) : Prop := its.length ≤ 100 ∧ ∀ k ∈ its, k < 2 ^ 60
theorem nd_depth (its : List Nat) : PyData.depthAll (nd its) = 0 := by
  induction its with
  | nil => simp [nd, PyData.depthAll]
  | cons a l ih => simp only [nd, List.map_cons, PyData.depthAll, PyData.depth] at *; rw [ih]; rfl
theorem int_weight {k : Nat} (h : k < 2 ^ 60) : PyData.weight (.int (k : Int)) ≤ 60 := by
  unfold PyData.weight
  split
  · omega
  · rename_i e
    have hk : k ≠ 0 := fun z => e (by subst z; rfl)
    have := (Nat.log2_lt hk).mpr h
    rw [Int.natAbs_natCast]
    omega
theorem nd_weight (its : List Nat) (h : ∀ k ∈ its, k < 2 ^ 60) : PyData.weightAll (nd its) ≤ 61 * its.length := by
  induction its with
  | nil => simp [nd, PyData.weightAll]
  | cons a l ih =>
    have h1 := int_weight (h a List.mem_cons_self)
    have h2 := ih fun k hk => h k (List.mem_cons_of_mem _ hk)
    simp only [nd, List.map_cons, PyData.weightAll, List.length_cons] at *
    omega
theorem layable_nd {its : List Nat} (h : Few its) : PyData.layable0 (.list ((its.map Int.ofNat).map .int)) = true := by
  rw [← nd_as]
  have h1 := nd_lay its
  have h2 := nd_weight its h.2
  have h3 := h.1
  have h4 := nd_depth its
  have h5 : PyData.weightAll (nd its) ≤ 2 ^ 20 := by omega
  simp only [PyData.layable0, PyData.canLay0, PyData.depth, PyData.weight, h1, h4, Bool.true_and, Bool.and_eq_true, decide_eq_true_eq]
  exact ⟨by omega, decide_eq_true h5⟩
theorem fn_place (G : Gnd (Kf w) mg mb h) (R : Room A 1) (T : StackAt h st t its) (few : Few its) {k : Nat} : Fn PP w A h (.ref 84) [.val (.ref st), .dat (.int (k : Int))] (.dat (.int (placeN its k))) := by
  refine fn_def (names := ["self", "node"]) (as := [.val (.ref st), .dat (.int (k : Int))]) (more := []) (at_SPlace w) G R (fun s us _ hl => ?_) (fun _ => trivial) rfl (by decide) (by decide +kernel) (fun L => by kernel_rfl) fun s₀ L kh G R F => ?_
  · match us, hl with
    | [a, b], _ => exact BindsTo.of_eq (by kernel_rfl)
  obtain ⟨a, I, rd⟩ := T.mono kh
  have hl := nd_lay its
  refine ex_if (by walk_at "tt") (fun c1 => ?_) (fun c1 => ex_go ?_)
  · rw [nd_any] at c1
    have hk := of_decide_eq_true c1
    rw [nd_as] at rd
    refine ex_retI2 Sub.refl (ev_index (ns := its.map Int.ofNat) (by walk_at "ev") (by walk_at "ev") (List.mem_map.mpr ⟨_, hk, rfl⟩) (layable_nd few) (by rfl) (by rfl)) ?_ (fun _ _ x => x)
    rw [show Int.ofNat k = (k : Int) from rfl, idx_nd, placeN, if_pos hk]
  · walk_at "retI"
    rw [nd_any] at c1
    rw [placeN, if_neg (of_decide_eq_false c1)]
noncomputable def lastN (its : List Nat) : Int := match its.getLast? with
  | some k => k
  | none => -1
theorem fn_current (G : Gnd (Kf w) mg mb h) (R : Room A 1) (T : StackAt h st t its) (hz : its.length < 2 ^ 60) : Fn PP w A h (.ref 56) [.val (.ref st)] (.dat (.int (lastN its))) := by
  refine fn_def (names := ["self"]) (as := [.val (.ref st)]) (more := []) (at_SCurrent w) G R (fun s us _ hl => ?_) (fun _ => trivial) rfl (by decide) (by decide +kernel) (fun L => by kernel_rfl) fun s₀ L kh G R F => ?_
  · match us, hl with
    | [a], _ => exact BindsTo.of_eq (by kernel_rfl)
  obtain ⟨a, I, rd⟩ := T.mono kh
  have hz' : (nd its).length < 2 ^ 62 := by simp; omega
  refine ex_if (by walk_at "tt") (fun c1 => ?_) (fun c1 => ex_go ?_)
  · walk_at "retI"
    rw [intE] at c1
    have : its = [] := by simpa using c1
    subst this; rfl
  · rw [intE] at c1
    have hne : its ≠ [] := fun e => by subst e; simp at c1
    have hp := List.length_pos_iff.mpr hne
    have hl : its[its.length - 1]? = some (its.getLast hne) := by rw [← List.getLast?_eq_getElem?, List.getLast?_eq_some_getLast hne]
    refine ex_retI2 Sub.refl (ev_itemN' (k := its.length - 1) (by walk_at "ev") (Ev.eq (ev_sub (by walk_at "ev") (by walk_at "ev")) (by simp [nd]; omega)) (by omega) hl (fun _ _ => rfl)) ?_ (fun _ _ x => x)
    simp [lastN, List.getLast?_eq_some_getLast hne]
theorem fn_has (G : Gnd (Kf w) mg mb h) (R : Room A 1) (T : StackAt h st t its) {k : Nat} : Fn PP w A h (.ref 70) [.val (.ref st), .dat (.int (k : Int))] (.dat (.bool (decide (k ∈ its)))) := by
  refine fn_def (names := ["self", "node"]) (as := [.val (.ref st), .dat (.int (k : Int))]) (more := []) (at_SHas w) G R (fun s us _ hl => ?_) (fun _ => trivial) rfl (by decide) (by decide +kernel) (fun L => by kernel_rfl) fun s₀ L kh G R F => ?_
  · match us, hl with
    | [a, b], _ => exact BindsTo.of_eq (by kernel_rfl)
  obtain ⟨a, I, rd⟩ := T.mono kh
  have hl := nd_lay its
  walk_at "retB"
  exact nd_any _ _
theorem fn_isHtml (G : Gnd (Kf w) mg mb h) (R : Room A 1) (T : TreeAt h t sp nm) {i : Nat} {S N name : Str}
    (hS : sp[i]? = some S) (hN : nm[i]? = some N) (oS : PyData.strOk S = true) (oN : PyData.strOk N = true) (on : PyData.strOk name = true) (hi : i < 2 ^ 62) :
    Fn PP w A h (.ref 291) [.val (.ref t), .dat (.int i), .dat (.str name)] (.dat (.bool (S == "html" && N == name))) := by
  refine fn_def (names := ["self", "node", "name"]) (as := [.val (.ref t), .dat (.int i), .dat (.str name)]) (more := []) (at_TIsHtml w) G R (fun s us _ hl => ?_) (fun _ => trivial) rfl (by decide) (by decide +kernel) (fun L => by kernel_rfl) fun s₀ L kh G R F => ?_
  · match us, hl with
    | [a, b, c], _ => exact BindsTo.of_eq (by kernel_rfl)
  obtain ⟨m, a, b, I, h1, h2, h3, h4, h5⟩ := (T.mono kh).open
  walk_at "retB"
  have : (PyData.int (i : Int)).eqv (.int (-1)) = false := by rw [intE]; simp
  rw [this, strE, strE]; rfl
theorem lastN_some {k : Nat} (h : its.getLast? = some k) : lastN its = k := by simp [lastN, h]
theorem lastN_none (h : its.getLast? = none) : lastN its = -1 := by simp [lastN, h]
noncomputable def nameN (sp nm : List Str) (its : List Nat) : Str := match its.getLast? with
  | some k => if sp.getD k "" == "html" then nm.getD k "" else ""
  | none => ""
theorem fn_name (G : Gnd (Kf w) mg mb h) (R : Room A 2) (T : StackAt h st t its) (TT : TreeAt h t sp nm) (hz : its.length < 2 ^ 60) (hv : ∀ k ∈ its, k < sp.length ∧ k < nm.length ∧ k < 2 ^ 60)
    (oS : ∀ x ∈ sp, PyData.strOk x = true) (oN : ∀ x ∈ nm, PyData.strOk x = true) : Fn PP w A h (.ref 98) [.val (.ref st)] (.dat (.str (nameN sp nm its))) := by
  refine fn_def (names := ["self"]) (as := [.val (.ref st)]) (more := []) (at_SName w) G R (fun s us _ hl => ?_) (fun _ => trivial) rfl (by decide) (by decide +kernel) (fun L => by kernel_rfl) fun s₀ L kh G R F => ?_
  · match us, hl with
    | [a], _ => exact BindsTo.of_eq (by kernel_rfl)
  have T' := T.mono kh
  have hc := fn_current G R T' hz
  obtain ⟨a, I, rd⟩ := T.mono kh
  obtain ⟨m, b, c, J, h1, h2, h3, h4, h5⟩ := (TT.mono kh).open
  cases hlast : its.getLast? with
  | none =>
    rw [lastN_none hlast] at hc
    refine ex_assign F (.inl (by rfl)) (by walk_at "ev") (by rfl) ?_
    refine ex_if (b := true) (Tt.eq (tt_bool (ta_or (b := false) (by walk_at "tt") fun c1 => absurd c1 (by rw [intE]; decide))) (by rw [intE]; rfl)) (fun c1 => ?_) (fun c1 => nomatch c1)
    · walk_at "retS"
      simp [nameN, hlast]
  | some k =>
    rw [lastN_some hlast] at hc
    obtain ⟨v1, v2, v3⟩ := hv k (List.mem_of_getLast? hlast)
    have g1 : sp[k]? = some (sp.getD k "") := by simp [v1]
    have g2 : nm[k]? = some (nm.getD k "") := by simp [v2]
    have o1 := oS (sp.getD k "") (List.mem_of_getElem? g1)
    have e1 : (PyData.int (k : Int)).eqv (.int (-1)) = false := by rw [intE]; simp
    refine ex_assign F (.inl (by rfl)) (by walk_at "ev") (by rfl) ?_
    refine ex_if (b := !(sp.getD k "" == "html")) (Tt.eq (tt_bool (ta_or (by walk_at "tt") fun c1 => (ta_or (by walk_at "tt") fun c2 => ta_orN))) (by rw [e1, strE]; simp)) (fun c1 => ?_) (fun c1 => ex_go ?_)
    · walk_at "retS"
      have : (sp.getD k "" == "html") = false := by simpa using c1
      simp only [nameN, hlast, this]; rfl
    · walk_at "retS"
      have : (sp.getD k "" == "html") = true := by simpa using c1
      simp only [nameN, hlast, this]; rfl
end
end

section
/-- the tree's names are good, and the stack's nodes are the tree's -/
structure Good (sp nm : List Str) (its : List Nat) : Prop where
  few : Few its
  hv : ∀ k ∈ its, k < sp.length ∧ k < nm.length
  oS : ∀ x ∈ sp, PyData.strOk x = true
  oN : ∀ x ∈ nm, PyData.strOk x = true
theorem Good.at {sp nm : List Str} {its : List Nat} (Q : Good sp nm its) {k : Nat} (h : k ∈ its) : sp[k]? = some (sp.getD k "") ∧ nm[k]? = some (nm.getD k "") ∧ PyData.strOk (sp.getD k "") = true ∧ PyData.strOk (nm.getD k "") = true ∧ k < 2 ^ 60 := by
  obtain ⟨v1, v2⟩ := Q.hv k h
  have g1 : sp[k]? = some (sp.getD k "") := by simp [v1]
  have g2 : nm[k]? = some (nm.getD k "") := by simp [v2]
  exact ⟨g1, g2, Q.oS _ (List.mem_of_getElem? g1), Q.oN _ (List.mem_of_getElem? g2), Q.few.2 k h⟩
section
variable {w : World} {A : Around} {h : Heap} {mg mb : Str → Option Value} {st t : Addr} {its : List Nat} {sp nm : List Str}
noncomputable def isH (sp nm : List Str) (k : Nat) (name : Str) : Bool := sp.getD k "" == "html" && nm.getD k "" == name
theorem getD_mem {its : List Nat} {i : Nat} (h : i < its.length) : its.getD i 0 ∈ its := by
  rw [List.getD_eq_getElem?_getD, List.getElem?_eq_getElem h]; exact List.getElem_mem h
theorem any_of {its : List Nat} {P : Nat → Bool} {i : Nat} (h : i < its.length) (e : P (its.getD i 0) = true) : its.any P = true := List.any_eq_true.mpr ⟨_, getD_mem h, e⟩
theorem not_any {its : List Nat} {P : Nat → Bool} (h : ∀ j, j < its.length → P (its.getD j 0) = false) : its.any P = false := by
  rw [← Bool.not_eq_true, List.any_eq_true]
  rintro ⟨k, hk, e⟩
  obtain ⟨j, hj, rfl⟩ := List.getElem_of_mem hk
  have := h j hj
  rw [List.getD_eq_getElem?_getD, List.getElem?_eq_getElem hj] at this
  simp at this; rw [this] at e; cases e
theorem fn_hasName (G : Gnd (Kf w) mg mb h) (R : Room A 2) (T : StackAt h st t its) (TT : TreeAt h t sp nm) (Q : Good sp nm its) {name : Str} (on : PyData.strOk name = true) :
    Fn PP w A h (.ref 105) [.val (.ref st), .dat (.str name)] (.dat (.bool (its.any fun k => isH sp nm k name))) := by
  refine fn_def (names := ["self", "name"]) (as := [.val (.ref st), .dat (.str name)]) (more := []) (at_SHasName w) G R (fun s us _ hl => ?_) (fun _ => trivial) rfl (by decide) (by decide +kernel) (fun L => by kernel_rfl) fun s₀ L kh G R F => ?_
  · match us, hl with
    | [a, b], _ => exact BindsTo.of_eq (by kernel_rfl)
  obtain ⟨a, I, rd⟩ := T.mono kh
  refine ex_search (fun i => isH sp nm (its.getD i 0) name) _ F (.inl (by rfl)) (it_nats R.h (by walk_at "ev")) keeps_self (fun i own h₁ hi hj kb => ?_) (fun hn => ?_) (fun _ => by rfl)
  · have G₁ := G.mono kb
    have I₁ := I.mono kb
    obtain ⟨g1, g2, o1, o2, hk⟩ := Q.at (getD_mem hi)
    obtain ⟨m, b, c, J, j1, j2, j3, j4, j5⟩ := ((TT.mono kh).mono kb).open
    have hf := fn_isHtml G₁ R ((TT.mono kh).mono kb) g1 g2 o1 o2 on (by omega)
    refine ex_if (Tt.eq (tt_val (by walk_at "ev") (by rfl)) rfl) (fun c => ?_) (fun c => ex_go ?_)
    · walk_at "retB"
      exact (any_of (P := fun k => isH sp nm k name) hi c).symm
    · exact ex_turn c (upd_keeps (by rfl) keeps_self)
  · walk_at "retB"
    exact (not_any (P := fun k => isH sp nm k name) hn).symm

/-! the two searches -/
noncomputable def scopeF (found stop : Nat → Bool) : List Nat → Bool
  | [] => false
  | k :: r => if found k then true else if stop k then false else scopeF found stop r
theorem scope_drop {found stop : Nat → Bool} : ∀ {l : List Nat} {i : Nat}, (∀ j, j < i → (found (l.getD j 0) || stop (l.getD j 0)) = false) → i ≤ l.length → scopeF found stop l = scopeF found stop (l.drop i)
  | l, 0, _, _ => by simp
  | [], i + 1, _, h => by simp at h
  | k :: r, i + 1, h, hl => by
    have h0 := h 0 (by omega)
    simp only [List.getD_cons_zero, Bool.or_eq_false_iff] at h0
    rw [scopeF, h0.1, h0.2]
    simp only [Bool.false_eq_true, if_false, List.drop_succ_cons]
    exact scope_drop (fun j hj => by have := h (j + 1) (by omega); simpa using this) (by simpa using hl)
theorem scope_at {found stop : Nat → Bool} {l : List Nat} {i : Nat} (h : ∀ j, j < i → (found (l.getD j 0) || stop (l.getD j 0)) = false) (hi : i < l.length) :
    scopeF found stop l = if found (l.getD i 0) then true else if stop (l.getD i 0) then false else scopeF found stop (l.drop (i + 1)) := by
  rw [scope_drop h (by omega), List.drop_eq_getElem_cons hi, scopeF]
  simp [List.getD_eq_getElem?_getD, List.getElem?_eq_getElem hi]
theorem rev_at {its : List Nat} {i : Nat} (h : i < its.length) : its.reverse.getD i 0 = its.getD (its.length - 1 - i) 0 := by
  rw [List.getD_eq_getElem?_getD, List.getD_eq_getElem?_getD, List.getElem?_reverse h]
theorem rev_get {its : List Nat} {i : Nat} (h : i < its.length) : its[its.length - 1 - i]? = some (its.reverse.getD i 0) := by
  rw [rev_at h, List.getD_eq_getElem?_getD, List.getElem?_eq_getElem (by omega)]; rfl
theorem natE (a b : Nat) : PyData.eqv (.int (a : Int)) (.int (b : Int)) = (a == b) := by
  rw [intE, Bool.eq_iff_iff, beq_iff_eq, beq_iff_eq]; omega
noncomputable def stopAt (sp nm : List Str) (sort : Str) (k : Nat) : Bool := stopsF (sp.getD k "") (nm.getD k "") sort
theorem fn_nodeIn (G : Gnd (Kf w) mg mb h) (R : Room A 2) (T : StackAt h st t its) (TT : TreeAt h t sp nm) (Q : Good sp nm its) {k : Nat} {sort : Str} (os : PyData.strOk sort = true) {args : List Ab} {more : List Value}
    (ha : args = ([.val (.ref st), .dat (.int (k : Int)), .dat (.str sort)] : List Ab).take args.length) (hm : ∀ hp, AllOf hp more (([.val (.ref st), .dat (.int (k : Int)), .dat (.str sort)] : List Ab).drop args.length))
    (hb : ∀ s us, Sub h s.heap → us.length = args.length → BindsTo s fdNodeIn ⟨us, []⟩ ((["stack", "node", "sort"] : List Str).zip (us ++ more))) :
    Fn PP w A h (.ref 149) args (.dat (.bool (scopeF (fun j => j == k) (stopAt sp nm sort) its.reverse))) := by
  refine fn_def (names := ["stack", "node", "sort"]) (as := [.val (.ref st), .dat (.int (k : Int)), .dat (.str sort)]) (more := more) (at_NodeIn w) G R hb hm ha (by decide) (by decide +kernel) (fun L => by kernel_rfl) fun s₀ L kh G R F => ?_
  obtain ⟨a, I, rd⟩ := T.mono kh
  have hmany := fn_many G R (T.mono kh) (by have := Q.few.1; omega)
  have hl := Q.few.1
  refine ex_search (n := its.length) (fun i => its.reverse.getD i 0 == k || stopAt sp nm sort (its.reverse.getD i 0)) _ F (.inl (by rfl)) (it_rangeD R.h F G (by rfl) (ns_range w) (by rfl) (ev_sub (by walk_at "ev") (by walk_at "ev")) (by walk_at "ev") (by walk_at "ev") (by omega)) keeps_self (fun i own h₁ hi hj kb => ?_) (fun hn => ?_) (fun _ => by rfl)
  · have G₁ := G.mono kb
    have I₁ := I.mono kb
    have rd₁ := rd.mono kb
    have T₁ := (TT.mono kh).mono kb
    have hg := rev_get hi
    have hmem : its.reverse.getD i 0 ∈ its := by
      rw [rev_at hi]; exact getD_mem (by omega)
    obtain ⟨g1, g2, o1, o2, hk⟩ := Q.at hmem
    obtain ⟨m, b, c, J, j1, j2, j3, j4, j5⟩ := T₁.open
    have hat := scope_at (found := fun j => j == k) (stop := stopAt sp nm sort) hj (by simpa using hi)
    have hstop := fn_stops G₁ R T₁ g1 g2 o1 o2 os (by omega)
    refine ex_if (by walk_at "tt") (fun c => ?_) (fun c => ex_go (ex_if (Tt.eq (tt_val (by walk_at "ev") (by rfl)) rfl) (fun c' => ?_) (fun c' => ex_go ?_)))
    · walk_at "retB"
      rw [natE] at c
      have : (its.reverse.getD i 0 == k) = true := c
      rw [hat, this]; rfl
    · walk_at "retB"
      rw [natE] at c
      have : (its.reverse.getD i 0 == k) = false := c
      rw [hat, this, show stopAt sp nm sort (its.reverse.getD i 0) = true from c']; rfl
    · rw [natE] at c
      have : (its.reverse.getD i 0 == k) = false := c
      exact ex_turn (by rw [this, show stopAt sp nm sort (its.reverse.getD i 0) = false from c']; rfl) (upd_keeps (by rfl) keeps_self)
  · walk_at "retB"
    rw [scope_drop hn (by simp), show its.reverse.drop its.length = [] by simp]
    rfl
end
end

section
section
variable {w : World} {A : Around} {h : Heap} {mg mb : Str → Option Value} {st t : Addr} {its : List Nat} {sp nm : List Str}
noncomputable def wantAt (sp nm ws : List Str) (k : Nat) : Bool := sp.getD k "" == "html" && decide (nm.getD k "" ∈ ws)
theorem fn_inScope (G : Gnd (Kf w) mg mb h) (R : Room A 2) (T : StackAt h st t its) (TT : TreeAt h t sp nm) (Q : Good sp nm its) {ws : List Str} {sort : Str} (os : PyData.strOk sort = true) (ow : ∀ x ∈ ws, PyData.strOk x = true) {args : List Ab} {more : List Value}
    (ha : args = ([.val (.ref st), .dat (.tuple (sd ws)), .dat (.str sort)] : List Ab).take args.length) (hm : ∀ hp, AllOf hp more (([.val (.ref st), .dat (.tuple (sd ws)), .dat (.str sort)] : List Ab).drop args.length))
    (hb : ∀ s us, Sub h s.heap → us.length = args.length → BindsTo s fdInScope ⟨us, []⟩ ((["stack", "names", "sort"] : List Str).zip (us ++ more))) :
    Fn PP w A h (.ref 141) args (.dat (.bool (scopeF (wantAt sp nm ws) (stopAt sp nm sort) its.reverse))) := by
  refine fn_def (names := ["stack", "names", "sort"]) (as := [.val (.ref st), .dat (.tuple (sd ws)), .dat (.str sort)]) (more := more) (at_InScope w) G R hb hm ha (by decide) (by decide +kernel) (fun L => by kernel_rfl) fun s₀ L kh G R F => ?_
  obtain ⟨a, I, rd⟩ := T.mono kh
  have hmany := fn_many G R (T.mono kh) (by have := Q.few.1; omega)
  have hl := Q.few.1
  have hlay := sd_lay ow
  refine ex_assign F (.inl (by rfl)) (ev_attrB G (by walk_at "ev") I (free_tree w) rfl rfl (by rfl)) (by rfl) ?_
  refine ex_search (n := its.length) (fun i => wantAt sp nm ws (its.reverse.getD i 0) || stopAt sp nm sort (its.reverse.getD i 0)) _ F (.inl (by rfl)) (it_rangeD R.h F G (by rfl) (ns_range w) (by rfl) (ev_sub (by walk_at "ev") (by walk_at "ev")) (by walk_at "ev") (by walk_at "ev") (by omega)) keeps_self (fun i own h₁ hi hj kb => ?_) (fun hn => ?_) (fun _ => by rfl)
  · have G₁ := G.mono kb
    have I₁ := I.mono kb
    have rd₁ := rd.mono kb
    have T₁ := (TT.mono kh).mono kb
    have hg := rev_get hi
    have hmem : its.reverse.getD i 0 ∈ its := by
      rw [rev_at hi]; exact getD_mem (by omega)
    obtain ⟨g1, g2, o1, o2, hk⟩ := Q.at hmem
    obtain ⟨m, b, c, J, j1, j2, j3, j4, j5⟩ := T₁.open
    have hat := scope_at (found := wantAt sp nm ws) (stop := stopAt sp nm sort) hj (by simpa using hi)
    have hstop := fn_stops G₁ R T₁ g1 g2 o1 o2 os (by omega)
    refine ex_assign F (.inl (by rfl)) (by walk_at "ev") (by rfl) ?_
    refine ex_if (Tt.eq (b := wantAt sp nm ws (its.reverse.getD i 0)) (tt_bool (ta_and (by walk_at "tt") fun _ => ta_and (by walk_at "tt") fun _ => ta_andN)) (by rw [strE, sd_any, Bool.and_true]; rfl)) (fun c => ?_) (fun c => ex_go (ex_if (Tt.eq (tt_val (by walk_at "ev") (by rfl)) rfl) (fun c' => ?_) (fun c' => ex_go ?_)))
    · walk_at "retB"
      rw [hat, c]; rfl
    · walk_at "retB"
      rw [hat, c, show stopAt sp nm sort (its.reverse.getD i 0) = true from c']; rfl
    · exact ex_turn (by rw [c, show stopAt sp nm sort (its.reverse.getD i 0) = false from c']; rfl) (upd_keeps (by rfl) (upd_keeps (by rfl) keeps_self))
  · walk_at "retB"
    rw [scope_drop hn (by simp), show its.reverse.drop its.length = [] by simp]
    rfl
end
end

section
section
variable {prog : Program} {w : World} {A : Around} {r : Shared} {h₀ : Heap} {env : Env} {C : List (Addr × Obj)} {ρ : Rho}
theorem ev_itemZ {l i : Expr} {pos : Pos} {ds : List Int} {k : Nat} {d : Int} (x : Ev prog w A r h₀ env C ρ l (.dat (.list (ds.map .int)))) (y : Ev prog w A r h₀ env C ρ i (.dat (.int (k : Int)))) (h1 : k < 2 ^ 62) (hd : ds[k]? = some d)
    (hs : ∀ o u, subscripted i false (.ref o) (.int k u) = operate [.ref o, .int k u] (getItem (.ref o) (.int k u))) : Ev prog w A r h₀ env C ρ (.Subscript l i pos) (.dat (.int d)) :=
  ev_item x y (by omega) (by omega) (by simp [hd]) hs
end
section
variable {w : World} {A : Around} {h : Heap} {mg mb : Str → Option Value}
theorem ints_lay (l : List Int) : PyData.canLayAll0 (l.map .int) = true := by
  induction l with
  | nil => rfl
  | cons a l ih => simpa [PyData.canLayAll0, PyData.canLay0] using ih
theorem ints_depth (its : List Int) : PyData.depthAll (its.map .int) = 0 := by
  induction its with
  | nil => simp [PyData.depthAll]
  | cons a l ih => simp only [List.map_cons, PyData.depthAll, PyData.depth] at *; rw [ih]; rfl
theorem ints_shaped (l : List Int) : SeqAt.shaped (.list (l.map .int)) = true := by
  simp [SeqAt.shaped, PyData.canLay0, ints_lay, PyData.depth, ints_depth]
noncomputable def digitN (ns : List Int) (k : Nat) : Int := if ns = [] then 0 else ns.getD (k % ns.length) 0
theorem fn_digit (G : Gnd (Kf w) mg mb h) (R : Room A 1) {ns : List Int} (hz : ns.length < 2 ^ 30) (k : Nat) : Fn PP w A h (.ref 312) [.dat (.list (ns.map .int)), .dat (.int (k : Int))] (.dat (.int (digitN ns k))) := by
  refine fn_def (names := ["script", "place"]) (as := [.dat (.list (ns.map .int)), .dat (.int (k : Int))]) (more := []) (at_Digit w) G R (fun s us _ hl => ?_) (fun _ => trivial) rfl (by decide) (by decide +kernel) (fun L => by kernel_rfl) fun s₀ L kh G R F => ?_
  · match us, hl with
    | [a, b], _ => exact BindsTo.of_eq (by kernel_rfl)
  have hsh := ints_shaped ns
  have hz' : (ns.map PyData.int).length < 2 ^ 62 := by simp; omega
  refine ex_retI2 Sub.refl (ev_if (c := !(ns == [])) (Tt.eq (by walk_at "tt") ?_) (fun c => ?_) (fun c => Ev.eq (b := .dat (.int (digitN ns k))) (by walk_at "ev") ?_)) rfl (fun _ _ x => x)
  · cases ns <;> simp [PyData.eqv, PyData.eqvAll]
  · have hne : ns ≠ [] := by simpa using c
    have hp := List.length_pos_iff.mpr hne
    have hlt : k % ns.length < ns.length := Nat.mod_lt _ hp
    refine ev_itemZ (k := k % ns.length) (by walk_at "ev") (Ev.eq (ev_mod (by walk_at "ev") (by walk_at "ev") (by simp; omega)) ?_) (by omega) ?_ (fun _ _ => rfl)
    · simp only [List.length_map]
      rw [Int.fmod_eq_emod_of_nonneg _ (by omega)]; rfl
    · rw [digitN, if_neg hne]; simp [hlt]
  · have : ns = [] := by simpa using c
    simp [digitN, this]
theorem fn_highest (G : Gnd (Kf w) mg mb h) (R : Room A 1) {ns : List Int} {mx : Int} (hz : ns.length < 2 ^ 18) (hm : mx ∈ -1 :: ns) (hx : ∀ n ∈ -1 :: ns, n ≤ mx) : Fn PP w A h (.ref 331) [.dat (.list (ns.map .int))] (.dat (.int mx)) := by
  refine fn_def (names := ["places"]) (as := [.dat (.list (ns.map .int))]) (more := []) (at_Highest w) G R (fun s us _ hl => ?_) (fun _ => trivial) rfl (by decide) (by decide +kernel) (fun L => by kernel_rfl) fun s₀ L kh G R F => ?_
  · match us, hl with
    | [a], _ => exact BindsTo.of_eq (by kernel_rfl)
  refine ex_retI2 Sub.refl (ev_callB F G (by rfl) (ns_max w) (show bootBuiltins "max" = some (.builtin "max") by kernel_rfl) (by decide +kernel) (fun _ => by simp) (by decide +kernel) (by rfl) (evl_cons (ev_addL (ds := [.int (-1)]) (by walk_at "ev") (by walk_at "ev") ?_) evl_nil) fun s S => fn_max (ns := -1 :: ns) R.h hm hx) rfl (fun _ _ x => x)
  have : sizeLine ≥ 2 ^ 19 := by decide
  simp; omega
end
end

section

noncomputable abbrev Own := List (Addr × Obj)
theorem mu_set (env : Env) (pre post : Own) (a : Addr) (o o' : Obj) : mu env (pre ++ (a, o) :: post) = mu env (pre ++ (a, o') :: post) := by simp [mu]
theorem mu_same (env : Env) {C C' : Own} (h : C'.map (·.1) = C.map (·.1)) : mu env C' = mu env C := by unfold mu; rw [h]

section
variable {prog : Program} {w : World} {A : Around} {r : Shared} {h₀ : Heap} {env : Env} {C : Own} {ρ : Rho} {s : Shared} {K : Frag} {mg mb : Str → Option Value} {n : Nat}

/-- own objects are changed, others are kept -/
theorem st_change {C' : Own} {s' : Shared} (S : St r h₀ env C ρ s) (hC : C'.map (·.1) = C.map (·.1)) (hs : ∃ h tk, s' = { s with heap := h, toks := tk }) (hk : ∀ b o, b ∉ C.map (·.1) → s.heap.get? b = some o → s'.heap.get? b = some o) (ho : ∀ p ∈ C', s'.heap.get? p.1 = some p.2) : St r h₀ env C' ρ s' := by
  obtain ⟨h', tk', rfl⟩ := hs
  obtain ⟨h, tk, e⟩ := S.same
  obtain ⟨m, hn, hv⟩ := S.ns
  have hmu := mu_same env hC
  have hloc : env.locals ∉ C.map (·.1) := fun q => (List.nodup_cons.mp S.apart).1 (List.mem_append_right _ q)
  have hcell : ∀ x c, (x, c) ∈ env.cells → c ∉ C.map (·.1) := fun x c hc q => by
    have := (List.nodup_append.mp (List.nodup_cons.mp S.apart).2).2.2
    exact this c (List.mem_map.mpr ⟨(x, c), hc, rfl⟩) c q rfl
  have hm : Sub (vis env C s.heap) (vis env C' h') := by
    unfold vis; rw [hmu]
    exact hide_mono fun b o hb e => hk b o (fun q => hb (List.mem_cons_of_mem _ (List.mem_append_right _ q))) e
  have hic : ∀ x c v, (x, c) ∈ env.cells → s.heap.IsCell c v → h'.IsCell c v := fun x c v hc ⟨o, h1, h2⟩ => ⟨o, hk c o (hcell x c hc) h1, h2⟩
  refine ⟨⟨h', tk', by rw [e]⟩, S.base.trans hm, ⟨m, hn.at' fun o e => hk _ o hloc e, fun x a hx => ?_⟩, fun x c hc => ?_, ho, hmu ▸ S.apart⟩
  · obtain ⟨u, v, q⟩ := hv x a hx
    refine ⟨u, ?_, Ab.mono hm q⟩
    rcases v with v | ⟨a1, c, a2, a3⟩
    · exact .inl v
    · exact .inr ⟨a1, c, a2, hic x c _ (mem_of_lookup a2) a3⟩
  · obtain ⟨v, q⟩ := S.cell x c hc
    exact ⟨v, hic x c v hc q⟩
theorem own_nodup (S : St r h₀ env C ρ s) : (C.map (·.1)).Nodup := (List.nodup_append.mp (List.nodup_cons.mp S.apart).2).2.1
theorem st_set {pre post : Own} {a : Addr} {o o' : Obj} {h' : Heap} {tk : Nat} (S : St r h₀ env (pre ++ (a, o) :: post) ρ s) (hs : Heap.SameBut a s.heap h') (ho : h'.get? a = some o') : St r h₀ env (pre ++ (a, o') :: post) ρ { s with heap := h', toks := tk } := by
  have nd := own_nodup S
  refine st_change (s' := { s with heap := h', toks := tk }) S (by simp) ⟨_, _, rfl⟩ (fun b o hb e => hs.extBut b o (fun q => hb (by simp [q])) e) fun p hp => ?_
  have nd' : a ∉ pre.map (·.1) ∧ a ∉ post.map (·.1) := by
    rw [List.map_append, List.map_cons] at nd
    obtain ⟨h1, h2, h3⟩ := List.nodup_append.mp nd
    exact ⟨fun q => h3 a q a List.mem_cons_self rfl, (List.nodup_cons.mp h2).1⟩
  rcases List.mem_append.mp hp with hp | hp
  · exact (hs.2 p.1 fun q => nd'.1 (q ▸ List.mem_map.mpr ⟨p, hp, rfl⟩)).trans (S.obj p (List.mem_append_left _ hp))
  · rcases List.mem_cons.mp hp with rfl | hp
    · exact ho
    · exact (hs.2 p.1 fun q => nd'.2 (q ▸ List.mem_map.mpr ⟨p, hp, rfl⟩)).trans (S.obj p (List.mem_append_right _ (List.mem_cons_of_mem _ hp)))

/-- an expression that changes own objects -/
structure Mt (prog : Program) (w : World) (A : Around) (r : Shared) (h₀ : Heap) (env : Env) (C : Own) (ρ : Rho) (e : Expr) (P : Own → PyData → Prop) : Prop where
  go : ∀ s, St r h₀ env C ρ s → wpAny (model prog w) A (eval e env) (fun u s' => ∃ C' d, P C' d ∧ St r h₀ env C' ρ s' ∧ Rd gNil u d) (fun _ _ => False) s
theorem Mt.use {e : Expr} {P : Own → PyData → Prop} {Q : Value → Shared → Prop} {E : Value → Shared → Prop} (x : Mt prog w A r h₀ env C ρ e P) (S : St r h₀ env C ρ s)
    (k : ∀ u s' C' d, P C' d → St r h₀ env C' ρ s' → Rd gNil u d → Q u s') : wpAny (model prog w) A (eval e env) Q E s :=
  wpAny_mono (x.go s S) (fun u s' ⟨C', d, a, b, c⟩ => k u s' C' d a b c) fun _ _ f => f.elim
theorem Mt.mono {e : Expr} {P P' : Own → PyData → Prop} (x : Mt prog w A r h₀ env C ρ e P) (h : ∀ C' d, P C' d → P' C' d) : Mt prog w A r h₀ env C ρ e P' := .mk fun s S =>
  x.use S fun u s' C' d a b c => ⟨C', d, h _ _ a, b, c⟩
/-- what a changing call does -/
structure Fm (prog : Program) (w : World) (A : Around) (h : Heap) (f : Value) (as : List Ab) (C : Own) (P : Own → PyData → Prop) : Prop where
  go : ∀ s us, Sub h (hideAll s.heap (C.map (·.1))) → (∀ p ∈ C, s.heap.get? p.1 = some p.2) → (C.map (·.1)).Nodup → AllOf (hideAll s.heap (C.map (·.1))) us as →
    wpAny (model prog w) A (call f us) (fun u s' => ∃ C' d, P C' d ∧ C'.map (·.1) = C.map (·.1) ∧ (∃ h tk, s' = { s with heap := h, toks := tk }) ∧ (∀ b o, b ∉ C.map (·.1) → s.heap.get? b = some o → s'.heap.get? b = some o) ∧
      (∀ p ∈ C', s'.heap.get? p.1 = some p.2) ∧ Rd gNil u d) (fun _ _ => False) s
theorem Fm.mono {h h' : Heap} {f : Value} {as : List Ab} {P : Own → PyData → Prop} (k : Sub h h') (x : Fm prog w A h f as C P) : Fm prog w A h' f as C P := .mk fun s us z => x.go s us (k.trans z)

/-- own objects in the midst of others -/
theorem fm_use {pre post : Own} {f : Value} {as : List Ab} {P : Own → PyData → Prop} {us : List Value} (hF : Fm prog w A h₀ f as C P) (S : St r h₀ env (pre ++ (C ++ post)) ρ s) (x : AllOf (vis env (pre ++ (C ++ post)) s.heap) us as) :
    wpAny (model prog w) A (call f us) (fun u s' => ∃ C' d, (∃ C₁, C' = pre ++ (C₁ ++ post) ∧ P C₁ d) ∧ St r h₀ env C' ρ s' ∧ Rd gNil u d) (fun _ _ => False) s := by
  have nd := own_nodup S
  rw [List.map_append, List.map_append] at nd
  obtain ⟨n1, n2, n3⟩ := List.nodup_append.mp nd
  obtain ⟨n4, n5, n6⟩ := List.nodup_append.mp n2
  have hsub : Sub (vis env (pre ++ (C ++ post)) s.heap) (hideAll s.heap (C.map (·.1))) := fun b o e => hideAll_get _ (of_hideAll _ e) fun q => hide_not e (by
    unfold mu; rw [List.map_append, List.map_append]
    exact List.mem_cons_of_mem _ (List.mem_append_right _ (List.mem_append_right _ (List.mem_append_left _ q))))
  refine wpAny_mono (hF.go s us (S.base.trans hsub) (fun p hp => S.obj p (List.mem_append_right _ (List.mem_append_left _ hp))) n4 (x.mono hsub)) (fun u s' h => ?_) fun _ _ f => f
  obtain ⟨C', d, hP, hC, hs, hk, ho, hd⟩ := h
  refine ⟨pre ++ (C' ++ post), d, ⟨C', rfl, hP⟩, ?_, hd⟩
  refine st_change S (by rw [List.map_append, List.map_append, List.map_append, List.map_append, hC]) hs (fun b o hb e => hk b o (fun q => hb (by rw [List.map_append, List.map_append]; exact List.mem_append_right _ (List.mem_append_left _ q))) e) fun p hp => ?_
  rcases List.mem_append.mp hp with hp | hp
  · exact hk _ _ (fun q => n3 p.1 (List.mem_map.mpr ⟨p, hp, rfl⟩) p.1 (List.mem_append_left _ q) rfl) (S.obj p (List.mem_append_left _ hp))
  · rcases List.mem_append.mp hp with hp | hp
    · exact ho p hp
    · exact hk _ _ (fun q => n6 p.1 q p.1 (List.mem_map.mpr ⟨p, hp, rfl⟩) rfl) (S.obj p (List.mem_append_right _ (List.mem_append_right _ hp)))
/-- a call of an own method that changes -/
theorem mt_meth {pre post : Own} {P : Own → PyData → Prop} {f x Cc : Addr} {m : Str → Option Value} {o : Expr} {name : Str} {apos pos : Pos} {es : List Expr} {as : List Ab} {pl : Sem Bool} (G : Gnd K mg mb h₀) (ho : Ev prog w A r h₀ env (pre ++ (C ++ post)) ρ o (.val (.ref x)))
    (I : Inst h₀ x Cc m) (M : ClsMeth K Cc name f) (hm : m name = none) (hst : starEach es env = plainArgs es env) (y : EvL prog w A r h₀ env (pre ++ (C ++ post)) ρ es as) (hF : Fm prog w A h₀ (.ref f) (.val (.ref x) :: as) C P)
    (he : eval (.Call (.Attribute o name apos) es [] pos) env = (do
      let ov ← eval o env
      standAt apos.atName
      let (f, first) ← holding [ov] (getMethod ov name pl)
      callWith pos f first (backTo pos (starEach es env)) (backToKw pos (keywordEach [] env)))) :
    Mt prog w A r h₀ env (pre ++ (C ++ post)) ρ (.Call (.Attribute o name apos) es [] pos) (fun C' d => ∃ C₁, C' = pre ++ (C₁ ++ post) ∧ P C₁ d) := .mk fun s S => by
  refine methodCall_KW (ho.use S fun u s₁ k₁ S₁ e => ?_) he
  cases e
  obtain ⟨ox, od, I₁, l⟩ := I.mono (base_s S₁)
  refine method_fn (gnd_s G S₁).X I₁ M.ga M.gx M.hf M.ht (by show Option.map _ (lookIn name od) = _; rw [l, hm]; rfl) ?_
  exact cw hst (fun s S => keeps_K M.hk _ (gnd_s G S).X) y S₁ fun us s' k' S' a' => fm_use (us := .ref x :: us) hF S' ⟨rfl, a'⟩

/-- a method of a built-in type, whatever it does -/
theorem bmethW {id : String} {o : Expr} {name : Str} {apos pos : Pos} {es : List Expr} {a : Ab} {as : List Ab} {pl : Sem Bool} {Q : Value → Shared → Prop} {E : Value → Shared → Prop} (ho : Ev prog w A r h₀ env C ρ o a)
    (gm : ∀ u s (Q : Value × List Value → Shared → Prop), St r h₀ env C ρ s → a.of (vis env C s.heap) u → Q (.builtin id, [u]) s → wpAny (model prog w) A (getMethod u name pl) Q E s)
    (hst : starEach es env = plainArgs es env) (y : EvL prog w A r h₀ env C ρ es as) (S : St r h₀ env C ρ s)
    (hc : ∀ u us s', Keeps s s' → St r h₀ env C ρ s' → a.of (vis env C s'.heap) u → AllOf (vis env C s'.heap) us as → wpAny (model prog w) A (call (.builtin id) (u :: us)) Q E s')
    (he : eval (.Call (.Attribute o name apos) es [] pos) env = (do
      let ov ← eval o env
      standAt apos.atName
      let (f, first) ← holding [ov] (getMethod ov name pl)
      callWith pos f first (backTo pos (starEach es env)) (backToKw pos (keywordEach [] env)))) :
    wpAny (model prog w) A (eval (.Call (.Attribute o name apos) es [] pos) env) Q E s := by
  refine methodCall_KW (ho.use S fun u s₁ k₁ S₁ e => ?_) he
  refine gm u s₁ _ S₁ e ?_
  exact cw hst (fun s S => keeps_bi fun _ => by simp) y S₁ fun us s' k' S' a' => hc u us s' (kp_trans k₁ k') S' (Ab.mono (vis_mono (kp_sub k')) e) a'

/-! own lists -/
noncomputable abbrev lst (vs : Array Value) (k : Nat) : Obj := ⟨.type "list", none, .seq vs k, #[]⟩
theorem lst_up {h : Heap} {a : Addr} {vs : Array Value} {k : Nat} (e : h.get? a = some (lst vs k)) (f : Array Value → Array Value) :
    ∃ k', (h.update a (Obj.mapSeq f)).get? a = some (lst (f vs) k') := ⟨_, IsL.update (x := e) f⟩
theorem gm_own {pre post : Own} {a : Addr} {vs : Array Value} {k : Nat} {name : Str} {id : String} {pl : Sem Bool} {u : Value} {Q : Value × List Value → Shared → Prop} {E : Value → Shared → Prop} (slot : Slot "list" name id)
    (hty : typeOf (.builtin id) = pure (.type "method_descriptor")) (S : St r h₀ env (pre ++ (a, lst vs k) :: post) ρ s) (hu : u = .ref a) (h : Q (.builtin id, [u]) s) : wpAny (model prog w) A (getMethod u name pl) Q E s := by
  subst hu
  have e := S.obj (a, lst vs k) (by simp)
  exact getMethod_list_of slot hty (isList_of e) ⟨_, e, rfl⟩ h
/-- append -/
theorem mt_append {pre post : Own} {a : Addr} {vs : Array Value} {k : Nat} {o e : Expr} {apos pos : Pos} {b : Ab} {pl : Sem Bool} {P : Own → PyData → Prop} (ho : Ev prog w A r h₀ env (pre ++ (a, lst vs k) :: post) ρ o (.val (.ref a))) (x : Ev prog w A r h₀ env (pre ++ (a, lst vs k) :: post) ρ e b)
    (hz : vs.size ≤ sizeLine) (hst : starEach [e] env = plainArgs [e] env)
    (hP : ∀ u h k', b.of h u → P (pre ++ (a, lst (vs.push u) k') :: post) .none)
    (he : eval (.Call (.Attribute o "append" apos) [e] [] pos) env = (do
      let ov ← eval o env
      standAt apos.atName
      let (f, first) ← holding [ov] (getMethod ov "append" pl)
      callWith pos f first (backTo pos (starEach [e] env)) (backToKw pos (keywordEach [] env)))) :
    Mt prog w A r h₀ env (pre ++ (a, lst vs k) :: post) ρ (.Call (.Attribute o "append" apos) [e] [] pos) P := .mk fun s S => by
  refine bmethW (id := "list.append") ho (fun u s Q S hu hQ => gm_own PySem.F.slot_list_append PySem.F.type_list_append S hu hQ) hst (evl_cons x evl_nil) S (fun u us s' _ S' hu hus => ?_) he
  cases hu
  match us, hus with
  | [v], hus =>
    have hl := S'.obj (a, lst vs k) (by simp)
    refine call_meets PySem.F.slot_list_append ⟨_, hl, rfl⟩ PySem.F.entry_list_append (PySem.F.args_list_append_2 _ _) (PySem.list_append a vs k v hz) ⟨hl, ?_⟩
    obtain ⟨k', hk'⟩ := lst_up hl fun x => x.push v
    exact ⟨_, .none, hP v _ k' hus.1, st_set S' (Heap.SameBut.update ..) hk', Rd.none⟩
/-- pop() -/
theorem mt_pop {pre post : Own} {a : Addr} {vs : Array Value} {k : Nat} {o : Expr} {apos pos : Pos} {y : Value} {d : PyData} {pl : Sem Bool} {P : Own → PyData → Prop} (ho : Ev prog w A r h₀ env (pre ++ (a, lst vs k) :: post) ρ o (.val (.ref a)))
    (hy : vs[vs.size - 1]? = some y) (hd : Rd gNil y d) (hz : vs.size ≤ sizeLine) (hst : starEach [] env = plainArgs [] env)
    (hP : ∀ k', P (pre ++ (a, lst (vs.eraseIdxIfInBounds (vs.size - 1)) k') :: post) d)
    (he : eval (.Call (.Attribute o "pop" apos) [] [] pos) env = (do
      let ov ← eval o env
      standAt apos.atName
      let (f, first) ← holding [ov] (getMethod ov "pop" pl)
      callWith pos f first (backTo pos (starEach [] env)) (backToKw pos (keywordEach [] env)))) :
    Mt prog w A r h₀ env (pre ++ (a, lst vs k) :: post) ρ (.Call (.Attribute o "pop" apos) [] [] pos) P := .mk fun s S => by
  refine bmethW (id := "list.pop") ho (fun u s Q S hu hQ => gm_own PySem.F.slot_list_pop PySem.F.type_list_pop S hu hQ) hst evl_nil S (fun u us s' _ S' hu hus => ?_) he
  cases hu
  match us, hus with
  | [], hus =>
    have hl := S'.obj (a, lst vs k) (by simp)
    refine call_meets PySem.F.slot_list_pop ⟨_, hl, rfl⟩ PySem.F.entry_list_pop (PySem.F.args_list_pop_1 _) (MeetsSeq.list_pop_last a vs k y hy hz) ⟨hl, ?_⟩
    obtain ⟨k', hk'⟩ := lst_up hl fun xs => xs.eraseIdxIfInBounds (vs.size - 1)
    exact ⟨_, d, hP k', st_set S' (Heap.SameBut.update ..) hk', hd⟩
/-- insert -/
theorem mt_insert {pre post : Own} {a : Addr} {vs : Array Value} {k : Nat} {o e₁ e₂ : Expr} {apos pos : Pos} {i : Int} {b : Ab} {pl : Sem Bool} {P : Own → PyData → Prop} (ho : Ev prog w A r h₀ env (pre ++ (a, lst vs k) :: post) ρ o (.val (.ref a)))
    (x : Ev prog w A r h₀ env (pre ++ (a, lst vs k) :: post) ρ e₁ (.dat (.int i))) (y : Ev prog w A r h₀ env (pre ++ (a, lst vs k) :: post) ρ e₂ b) (hi : Builtin.List.listFitsIndex i = true) (hi0 : 0 ≤ i)
    (hz : vs.size ≤ sizeLine) (hst : starEach [e₁, e₂] env = plainArgs [e₁, e₂] env)
    (hP : ∀ u h k', b.of h u → P (pre ++ (a, lst ((vs.extract 0 (min i.toNat vs.size)).push u ++ vs.extract (min i.toNat vs.size)) k') :: post) .none)
    (he : eval (.Call (.Attribute o "insert" apos) [e₁, e₂] [] pos) env = (do
      let ov ← eval o env
      standAt apos.atName
      let (f, first) ← holding [ov] (getMethod ov "insert" pl)
      callWith pos f first (backTo pos (starEach [e₁, e₂] env)) (backToKw pos (keywordEach [] env)))) :
    Mt prog w A r h₀ env (pre ++ (a, lst vs k) :: post) ρ (.Call (.Attribute o "insert" apos) [e₁, e₂] [] pos) P := .mk fun s S => by
  refine bmethW (id := "list.insert") ho (fun u s Q S hu hQ => gm_own PySem.F.slot_list_insert PySem.F.type_list_insert S hu hQ) hst (evl_cons x (evl_cons y evl_nil)) S (fun u us s' _ S' hu hus => ?_) he
  cases hu
  match us, hus with
  | [iv, v], hus =>
    obtain ⟨t, rfl⟩ := Rd.getInt hus.1
    have hl := S'.obj (a, lst vs k) (by simp)
    refine call_meets PySem.F.slot_list_insert ⟨_, hl, rfl⟩ PySem.F.entry_list_insert (PySem.F.args_list_insert_3 _ _ _) (AutoSeq1.list_insert_list_int_val_1 a vs k i t v (by simp [hi]) hz) ⟨hl, ?_⟩
    obtain ⟨k', hk'⟩ := lst_up hl fun xs => have k := if i < 0 then (i + (xs.size : Int)).toNat else min i.toNat xs.size; (xs.extract 0 k).push v ++ xs.extract k
    refine ⟨_, .none, hP v _ k' hus.2.1, st_set S' (Heap.SameBut.update ..) ?_, Rd.none⟩
    rw [hk']
    simp only [if_neg (show ¬ i < 0 by omega)]
/-- remove, of what is there -/
theorem mt_remove {pre post : Own} {a : Addr} {vs : Array Value} {k : Nat} {o e : Expr} {apos pos : Pos} {b : Int} {pl : Sem Bool} {P : Own → PyData → Prop} {j : Nat} (ho : Ev prog w A r h₀ env (pre ++ (a, lst vs k) :: post) ρ o (.val (.ref a))) (x : Ev prog w A r h₀ env (pre ++ (a, lst vs k) :: post) ρ e (.dat (.int b)))
    (ev : Value → Int) (hv : ∀ y, y ∈ vs → ∃ t, y = .int (ev y) t) (hj : j < vs.size) (hit : ev vs[j] = b) (hno : ∀ m (hm : m < vs.size), m < j → ev vs[m] ≠ b)
    (hz : vs.size ≤ sizeLine) (hst : starEach [e] env = plainArgs [e] env)
    (hP : ∀ k', P (pre ++ (a, lst (vs.eraseIdxIfInBounds j) k') :: post) .none)
    (he : eval (.Call (.Attribute o "remove" apos) [e] [] pos) env = (do
      let ov ← eval o env
      standAt apos.atName
      let (f, first) ← holding [ov] (getMethod ov "remove" pl)
      callWith pos f first (backTo pos (starEach [e] env)) (backToKw pos (keywordEach [] env)))) :
    Mt prog w A r h₀ env (pre ++ (a, lst vs k) :: post) ρ (.Call (.Attribute o "remove" apos) [e] [] pos) P := .mk fun s S => by
  refine bmethW (id := "list.remove") ho (fun u s Q S hu hQ => gm_own PySem.F.slot_list_remove PySem.F.type_list_remove S hu hQ) hst (evl_cons x evl_nil) S (fun u us s' _ S' hu hus => ?_) he
  cases hu
  match us, hus with
  | [v], hus =>
    obtain ⟨t, rfl⟩ := Rd.getInt hus.1
    have hl := S'.obj (a, lst vs k) (by simp)
    refine call_meets PySem.F.slot_list_remove ⟨_, hl, rfl⟩ PySem.F.entry_list_remove (PySem.F.args_list_remove_2 _ _) (MeetsSeq.list_remove a vs k (.int b t) (fun y => ev y == b) (fun y hy => ?_) j hj (by simp [hit]) (fun m hm hlt => by simp [hno m hm hlt]) hz) ⟨hl, ?_⟩
    · obtain ⟨t', e⟩ := hv y hy
      have := MeetsSeq.EqGives.int (ev y) b t' t
      rwa [← e] at this
    · obtain ⟨k', hk'⟩ := lst_up hl fun xs => xs.eraseIdxIfInBounds j
      exact ⟨_, .none, hP k', st_set S' (Heap.SameBut.update ..) hk', Rd.none⟩
end
end

section

section
variable {prog : Program} {w : World} {A : Around} {r : Shared} {h₀ : Heap} {env : Env} {C : Own} {ρ : Rho} {s : Shared} {K : Frag} {mg mb : Str → Option Value} {n : Nat}

theorem own_none (S : St r h₀ env C ρ s) {p : Addr × Obj} (hp : p ∈ C) : h₀.get? p.1 = none := by
  cases e : h₀.get? p.1 with
  | none => rfl
  | some o => exact absurd (List.mem_cons_of_mem _ (List.mem_append_right _ (List.mem_map.mpr ⟨p, hp, rfl⟩))) (hide_not (S.base _ _ e))
/-- what is own no more -/
theorem st_freeze {pre C₁ post : Own} (S : St r h₀ env (pre ++ (C₁ ++ post)) ρ s) : St r (vis env (pre ++ post) s.heap) env (pre ++ post) ρ s ∧ Sub h₀ (vis env (pre ++ post) s.heap) ∧ ∀ p ∈ C₁, (vis env (pre ++ post) s.heap).get? p.1 = some p.2 := by
  have hmu : ∀ b, b ∈ mu env (pre ++ post) → b ∈ mu env (pre ++ (C₁ ++ post)) := fun b hb => by
    unfold mu at *
    simp only [List.map_append, List.mem_cons, List.mem_append] at *
    rcases hb with h | h | h | h
    · exact .inl h
    · exact .inr (.inl h)
    · exact .inr (.inr (.inl h))
    · exact .inr (.inr (.inr (.inr h)))
  have hsub : Sub (vis env (pre ++ (C₁ ++ post)) s.heap) (vis env (pre ++ post) s.heap) := fun b o e => hideAll_get _ (of_hideAll _ e) fun q => hide_not e (hmu b q)
  have nd := S.apart
  have nd' : (mu env (pre ++ post)).Nodup := by
    unfold mu at *
    obtain ⟨h1, h2⟩ := List.nodup_cons.mp nd
    obtain ⟨h3, h4, h5⟩ := List.nodup_append.mp h2
    simp only [List.map_append] at *
    obtain ⟨h6, h7, h8⟩ := List.nodup_append.mp h4
    obtain ⟨h9, h10, h11⟩ := List.nodup_append.mp h7
    refine List.nodup_cons.mpr ⟨fun q => h1 ?_, List.nodup_append.mpr ⟨h3, List.nodup_append.mpr ⟨h6, h10, fun a ha b hb => h8 a ha b (List.mem_append_right _ hb)⟩, fun a ha b hb => h5 a ha b ?_⟩⟩
    · rcases List.mem_append.mp q with q | q
      · exact List.mem_append_left _ q
      · rcases List.mem_append.mp q with q | q
        · exact List.mem_append_right _ (List.mem_append_left _ q)
        · exact List.mem_append_right _ (List.mem_append_right _ (List.mem_append_right _ q))
    · rcases List.mem_append.mp hb with q | q
      · exact List.mem_append_left _ q
      · exact List.mem_append_right _ (List.mem_append_right _ q)
  obtain ⟨m, hn, hv⟩ := S.ns
  refine ⟨⟨S.same, Sub.refl, ⟨m, hn, fun x a hx => ?_⟩, S.cell, fun p hp => S.obj p ?_, nd'⟩, S.base.trans hsub, fun p hp => hideAll_get _ (S.obj p (List.mem_append_right _ (List.mem_append_left _ hp))) fun q => ?_⟩
  · obtain ⟨u, v, q⟩ := hv x a hx
    exact ⟨u, v, Ab.mono hsub q⟩
  · rcases List.mem_append.mp hp with q | q
    · exact List.mem_append_left _ q
    · exact List.mem_append_right _ (List.mem_append_right _ q)
  · unfold mu at nd q
    obtain ⟨h1, h2⟩ := List.nodup_cons.mp nd
    obtain ⟨h3, h4, h5⟩ := List.nodup_append.mp h2
    simp only [List.map_append] at *
    obtain ⟨h6, h7, h8⟩ := List.nodup_append.mp h4
    obtain ⟨h9, h10, h11⟩ := List.nodup_append.mp h7
    have hp' : p.1 ∈ C₁.map (·.1) := List.mem_map.mpr ⟨p, hp, rfl⟩
    rcases List.mem_cons.mp q with q | q
    · exact h1 (q ▸ List.mem_append_right _ (List.mem_append_right _ (List.mem_append_left _ hp')))
    · rcases List.mem_append.mp q with q | q
      · exact h5 p.1 q p.1 (List.mem_append_right _ (List.mem_append_left _ hp')) rfl
      · rcases List.mem_append.mp q with q | q
        · exact h8 p.1 q p.1 (List.mem_append_left _ hp') rfl
        · exact h11 p.1 hp' p.1 q rfl
theorem ex_freeze {pre C₁ post : Own} {ss : List Stmt} {Q : Flow → Shared → Prop} (k : ∀ h₁, Sub h₀ h₁ → (∀ p ∈ C₁, h₁.get? p.1 = some p.2) → (∀ p ∈ C₁, h₀.get? p.1 = none) → (C₁.map (·.1)).Nodup → Ex prog w A r h₁ env (pre ++ post) ρ ss Q) : Ex prog w A r h₀ env (pre ++ (C₁ ++ post)) ρ ss Q := .mk fun s S =>
  let ⟨S', a, b⟩ := st_freeze S
  (k _ a b (fun p hp => own_none S (List.mem_append_right _ (List.mem_append_left _ hp))) (by
    have := own_nodup S
    rw [List.map_append, List.map_append] at this
    exact (List.nodup_append.mp (List.nodup_append.mp this).2.1).1)).go s S'
/-- a new own object -/
theorem st_new (S : St r h₀ env C ρ s) (o : Obj) (hf : o.isFreed = false) : St r h₀ env ((s.heap.objs.size, o) :: C) ρ { s with heap := s.heap.push o } := by
  have D := S.keeps (kp_heap (Sub.push _ o))
  have hmu : ∀ b, b ∈ mu env ((s.heap.objs.size, o) :: C) ↔ b = s.heap.objs.size ∨ b ∈ mu env C := fun b => by
    unfold mu
    simp only [List.map_cons, List.mem_cons, List.mem_append]
    constructor
    · rintro (h | h | h | h)
      · exact .inr (.inl h)
      · exact .inr (.inr (.inl h))
      · exact .inl h
      · exact .inr (.inr (.inr h))
    · rintro (h | h | h | h)
      · exact .inr (.inr (.inl h))
      · exact .inl h
      · exact .inr (.inl h)
      · exact .inr (.inr (.inr h))
  have hsub : Sub (vis env C s.heap) (vis env ((s.heap.objs.size, o) :: C) (s.heap.push o)) := fun b o' e => hideAll_get _ (Heap.get?_push_of_some _ (of_hideAll _ e)) fun q => by
    rcases (hmu b).mp q with q | q
    · exact Nat.lt_irrefl _ (q ▸ Heap.lt_size (of_hideAll _ e))
    · exact hide_not e q
  obtain ⟨h, tk, e⟩ := S.same
  obtain ⟨m, hn, hv⟩ := S.ns
  have k : Sub s.heap (s.heap.push o) := Sub.push _ _
  refine ⟨⟨_, tk, by rw [e]⟩, S.base.trans hsub, ⟨m, hn.keeps k, fun x a hx => ?_⟩, D.cell, fun p hp => ?_, ?_⟩
  · obtain ⟨u, v, q⟩ := hv x a hx
    exact ⟨u, v.keeps k, Ab.mono hsub q⟩
  · rcases List.mem_cons.mp hp with rfl | hp
    · exact Heap.get?_push_size _ hf
    · exact D.obj p hp
  · have nd := S.apart
    have hz : s.heap.objs.size ∉ mu env C := fun q => Nat.lt_irrefl _ (mem_mu_lt S q)
    unfold mu at *
    obtain ⟨h1, h2⟩ := List.nodup_cons.mp nd
    obtain ⟨h3, h4, h5⟩ := List.nodup_append.mp h2
    simp only [List.map_cons, List.mem_cons, List.mem_append, not_or] at *
    refine List.nodup_cons.mpr ⟨fun q => ?_, List.nodup_append.mpr ⟨h3, List.nodup_cons.mpr ⟨hz.2.2, h4⟩, fun a ha b hb => ?_⟩⟩
    · rcases List.mem_append.mp q with q | q
      · exact h1.1 q
      · rcases List.mem_cons.mp q with q | q
        · exact hz.1 q.symm
        · exact h1.2 q
    · rcases List.mem_cons.mp hb with rfl | hb
      · intro e; exact hz.2.1 (e ▸ ha)
      · exact h5 a ha b hb
theorem ex_ownList {x : Str} {xp lp pos : Pos} {rest : List Stmt} {Q : Flow → Shared → Prop} (F : Fe env) (hx : Stores env x) (hst : starEach [] env = plainArgs [] env)
    (hs : swapsWith (.List [] lp) (some (.Name x xp)) pos.line env = pure false)
    (k : ∀ a, Ex prog w A r h₀ env ((a, lst #[] 0) :: C) (upd ρ x (.val (.ref a))) rest Q) : Ex prog w A r h₀ env C ρ (.Assign [.Name x xp] (.List [] lp) pos :: rest) Q := .mk fun s S =>
  wpAny_execs_cons (wpAny_Assign_Name (wpAny_List (by
    rw [hst, backTo_plain]
    refine wpAny_pure ⟨by decide, ?_⟩
    exact st_store (a := .val (.ref s.heap.objs.size)) F (st_new S (lst #[] 0) rfl) hx rfl fun s' S' _ _ => (k _).go s' S')) hs)
noncomputable abbrev dct0 : Obj := { cls := .type "dict", data := .dict #[] }
theorem ex_ownDict {x : Str} {xp lp pos : Pos} {rest : List Stmt} {Q : Flow → Shared → Prop} (F : Fe env) (hx : Stores env x)
    (hs : swapsWith (.Dict [] [] lp) (some (.Name x xp)) pos.line env = pure false)
    (k : ∀ a, Ex prog w A r h₀ env ((a, dct0) :: C) (upd ρ x (.val (.ref a))) rest Q) : Ex prog w A r h₀ env C ρ (.Assign [.Name x xp] (.Dict [] [] lp) pos :: rest) Q := .mk fun s S =>
  wpAny_execs_cons (wpAny_Assign_Name (by
    rw [eval_Dict_empty]
    refine wpAny_bind (wpAny_standAt ?_)
    refine wpAny_newObj_type ?_
    exact st_store (a := .val (.ref s.heap.objs.size)) F (st_new S dct0 rfl) hx rfl fun s' S' _ _ => (k _).go s' S') hs)

/-! statements that change own objects -/
theorem ex_exprM {e : Expr} {pos : Pos} {P : Own → PyData → Prop} {rest : List Stmt} {Q : Flow → Shared → Prop} (x : Mt prog w A r h₀ env C ρ e P) (hi : interactive env = false) (hs : swapsWith e none pos.line env = pure false)
    (k : ∀ C' d, P C' d → Ex prog w A r h₀ env C' ρ rest Q) : Ex prog w A r h₀ env C ρ (.Expr e pos :: rest) Q := .mk fun s S =>
  wpAny_execs_cons (wpAny_Expr_any (x.use S fun u s' C' d a b c => (k C' d a).go s' b) hi hs)
theorem ex_assignM {x : Str} {xp pos : Pos} {e : Expr} {P : Own → PyData → Prop} {rest : List Stmt} {Q : Flow → Shared → Prop} (F : Fe env) (hx : Stores env x) (y : Mt prog w A r h₀ env C ρ e P)
    (hs : swapsWith e (some (.Name x xp)) pos.line env = pure false) (k : ∀ C' d, P C' d → Ex prog w A r h₀ env C' (upd ρ x (.dat d)) rest Q) : Ex prog w A r h₀ env C ρ (.Assign [.Name x xp] e pos :: rest) Q := .mk fun s S =>
  wpAny_execs_cons (wpAny_Assign_Name (y.use S fun u s' C' d a b c => st_store (a := .dat d) F b hx (Rd.nil c) fun s' S' _ _ => (k C' d a).go s' S') hs)
theorem ex_retM {e : Expr} {pos : Pos} {P : Own → PyData → Prop} {rest : List Stmt} {Q : Flow → Shared → Prop} (y : Mt prog w A r h₀ env C ρ e P) (k : ∀ C' d u s, P C' d → St r h₀ env C' ρ s → Rd gNil u d → Q (.ret u) s) :
    Ex prog w A r h₀ env C ρ (.Return (some e) pos :: rest) Q := .mk fun s S =>
  wpAny_execs_cons (wpAny_Return_some (y.use S fun u s' C' d a b c => k C' d u s' a b c))
structure TtM (prog : Program) (w : World) (A : Around) (r : Shared) (h₀ : Heap) (env : Env) (C : Own) (ρ : Rho) (e : Expr) (P : Own → Bool → Prop) : Prop where
  go : ∀ s, St r h₀ env C ρ s → wpAny (model prog w) A (PySem.isTrue e env (eval e env)) (fun b s' => ∃ C', P C' b ∧ St r h₀ env C' ρ s') (fun _ _ => False) s
theorem ttm_cmp {op : CmpOp} {l rr : Expr} {pos : Pos} {P : Own → PyData → Prop} {P' : Own → Bool → Prop} {b : PyData} (x : Mt prog w A r h₀ env C ρ l P) (y : ∀ C' d, P C' d → Ev prog w A r h₀ env C' ρ rr (.dat b))
    (k : ∀ C' d, P C' d → ∃ c, Cmp prog w A op d b c ∧ P' C' c) (hm : behindInMarks op rr = false) : TtM prog w A r h₀ env C ρ (.Compare l [op] [rr] pos) P' := .mk fun s S =>
  wpAny_isTrue_Compare1 (x.use S fun u s₁ C' d hP S₁ hd => (y C' d hP).use S₁ fun v s₂ k₂ S₂ hv => by
    obtain ⟨c, hc, hP'⟩ := k C' d hP
    refine wpAny_mono (hc.go u v s₂ (Rd.nil hd) (hv.mono (vis_sub _))) (fun u' s₃ h => ?_) fun _ _ f => f.elim
    rw [h.2]
    exact wpAny_truthy_bool ⟨C', hP', S₂.keeps h.1⟩) hm
theorem mt_cmp {op : CmpOp} {l rr : Expr} {pos : Pos} {P : Own → PyData → Prop} {P' : Own → PyData → Prop} {b : PyData} (x : Mt prog w A r h₀ env C ρ l P) (y : ∀ C' d, P C' d → Ev prog w A r h₀ env C' ρ rr (.dat b))
    (k : ∀ C' d, P C' d → ∃ c, Cmp prog w A op d b c ∧ P' C' (.bool c)) (hm : behindInMarks op rr = false) : Mt prog w A r h₀ env C ρ (.Compare l [op] [rr] pos) P' := .mk fun s S =>
  wpAny_Compare1 (x.use S fun u s₁ C' d hP S₁ hd => (y C' d hP).use S₁ fun v s₂ k₂ S₂ hv => by
    obtain ⟨c, hc, hP'⟩ := k C' d hP
    refine wpAny_mono (hc.go u v s₂ (Rd.nil hd) (hv.mono (vis_sub _))) (fun u' s₃ h => ?_) fun _ _ f => f.elim
    rw [h.2]
    exact ⟨C', .bool c, hP', S₂.keeps h.1, Rd.bool _⟩) hm
theorem ex_ifM {t : Expr} {P : Own → Bool → Prop} {body orelse rest : List Stmt} {pos : Pos} {Q : Flow → Shared → Prop} (h : TtM prog w A r h₀ env C ρ t P) (k₁ : ∀ C', P C' true → Ex prog w A r h₀ env C' ρ body (Then prog w A env rest Q)) (k₂ : ∀ C', P C' false → Ex prog w A r h₀ env C' ρ orelse (Then prog w A env rest Q)) :
    Ex prog w A r h₀ env C ρ (.If t body orelse pos :: rest) Q := ex_then (ss := []) fun s S =>
  wpAny_If (wpAny_mono (h.go s S) (fun b s' ⟨C', hP, S'⟩ => by
    cases b with
    | true => rw [if_pos rfl]; exact (k₁ C' hP).go s' S'
    | false => rw [if_neg (by decide)]; exact (k₂ C' hP).go s' S') fun _ _ f => f.elim)
theorem ex_goE {rest : List Stmt} {Q : Flow → Shared → Prop} (k : Ex prog w A r h₀ env C ρ rest Q) : Ex prog w A r h₀ env C ρ [] (Then prog w A env rest Q) := ex_nil fun s S => k.go s S
end

/-! entering a def that changes own objects -/
noncomputable def valOf : Flow → Value
  | .ret v => v
  | _ => .none
noncomputable def RetM (r : Shared) (h : Heap) (env : Env) (C : Own) (P : Own → PyData → Prop) (f : Flow) (s' : Shared) : Prop := ∃ C' d ρ', P C' d ∧ C'.map (·.1) = C.map (·.1) ∧ St r h env C' ρ' s' ∧ Rd gNil (valOf f) d

/-- the frame of a call -/
theorem code_frame {prog : Program} {w : World} {A : Around} {K : Frag} {mg mb : Str → Option Value} {n : Nat} {f : Addr} {fd : FuncData} {body : List Stmt} {names : List Str} {as : List Ab} {s : Shared} {vals : List Value} {us : List Value} {C : Own} {Q : Value → Shared → Prop} {RR : Result → Shared → Prop}
    (hR : ∀ v s, Q v s → RR (.ok (.ret v)) s) (D : DefAt K f fd body) (G : Gnd K mg mb (hideAll s.heap (C.map (·.1)))) (R : Room A (n + 1)) (hb : BindsTo s fd ⟨us, []⟩ (names.zip vals)) (hC : ∀ p ∈ C, s.heap.get? p.1 = some p.2) (hCn : (C.map (·.1)).Nodup) (x' : AllOf (hideAll s.heap (C.map (·.1))) vals as)
    (hnd : names.Nodup) (hcl : ((cellsFrom 0 fd.scope.names []).map (·.1)).Nodup)
    (hk' : ∀ L, (names.all fun x => decide (fd.scope.names.lookup x = some .local) || (decide (fd.scope.names.lookup x = some .cell) && ((cellsFrom L fd.scope.names []).lookup x).isSome)) = true)
    (body_ok : ∀ L, s.heap.objs.size ≤ L → Room (A.deeper (callEnvC fd L f)) n → Fe (callEnvC fd L f) →
      ∀ s', St s (hideAll s.heap (C.map (·.1))) (callEnvC fd L f) C (rhoOf names as) s' → wpAny (model prog w) (A.deeper (callEnvC fd L f)) (execs body (callEnvC fd L f)) (fun fl => Q (valOf fl)) (fun _ _ => False) s') : codeAny (model prog w) A (.call (.ref f) ⟨us, []⟩) RR s := by
  have hk : ∀ L, ∀ x ∈ names, fd.scope.names.lookup x = some .local ∨ (fd.scope.names.lookup x = some .cell ∧ ((cellsFrom L fd.scope.names []).lookup x).isSome = true) := fun L x hx => by
    have := List.all_eq_true.mp (hk' L) x hx
    simpa using this
  clear hk'
  obtain ⟨oc, od, osl, hK⟩ := D.at_
  have G₀ : Gnd K mg mb s.heap := G.mono (hide_sub _ _)
  refine codeAny_call_function (by have := R.d; omega) (G₀.X _ _ hK) rfl D.co D.gen D.body (codeRec_of G₀.X D.code) (hb _ _ _ _ ?_)
  rw [D.clo]
  refine wpAny_newFunctionEnv_cells D.kind (fun y hy => ?_) fun env he s' X => ?_
  · have : y.1 ∈ names := (List.of_mem_zip hy).1
    exact hk _ _ this
  · have he' : env = callEnvC fd s.heap.objs.size f := he
    have F : Fe (callEnvC fd s.heap.objs.size f) := ⟨D.kind, D.glob, D.blt⟩
    subst he'
    refine ⟨G₀.nolimit.keeps X.toInCall.keep, codeAny_func ?_⟩
    have above : ∀ a ∈ mu (callEnvC fd s.heap.objs.size f) [], s.heap.objs.size ≤ a := fun a hm => by
      rcases List.mem_cons.mp hm with q | hm
      · exact Nat.le_of_eq q.symm
      · rcases List.mem_append.mp hm with hm | hm
        · obtain ⟨p, hp, q⟩ := List.mem_map.mp hm
          have := X.above p.1 p.2 hp
          have z : s.heap.objs.size < p.2 := this
          have q' : p.2 = a := q
          exact Nat.le_of_lt (q' ▸ z)
        · cases hm
    have clt : ∀ p ∈ C, p.1 < s.heap.objs.size := fun p hp => Heap.lt_size (hC p hp)
    have split : ∀ a, a ∈ mu (callEnvC fd s.heap.objs.size f) C ↔ a ∈ mu (callEnvC fd s.heap.objs.size f) [] ∨ a ∈ C.map (·.1) := fun a => by
      unfold mu; simp [or_assoc]
    have base : Sub (hideAll s.heap (C.map (·.1))) (vis (callEnvC fd s.heap.objs.size f) C s'.heap) := fun a o e => by
      have e' := of_hideAll _ e
      refine hideAll_get _ (X.toInCall.keep a o e') fun q => ?_
      rcases (split a).mp q with q | q
      · exact Nat.lt_irrefl _ (Nat.lt_of_lt_of_le (Heap.lt_size e') (above a q))
      · exact hide_not e q
    have SS : St s (hideAll s.heap (C.map (·.1))) (callEnvC fd s.heap.objs.size f) C (rhoOf names as) s' := by
      refine ⟨X.toInCall.same, base, ⟨_, X.toInCall.ns, fun y a hy => ?_⟩, fun y c hc => ?_, fun p hp => X.toInCall.keep _ _ (hC p hp), ?_⟩
      · obtain ⟨u, hmem, q⟩ := rho_value x' hy
        refine ⟨u, ?_, Ab.mono base q⟩
        have hzip : ((names.zip vals).map (·.1)).Nodup := zip_fst_nodup hnd
        rcases hk (s.heap.objs.size + 1) y (List.of_mem_zip hmem).1 with h1 | ⟨h1, h2⟩
        · exact .inl ⟨h1, bindL_at hzip hmem h1⟩
        · obtain ⟨c, hc⟩ := Option.isSome_iff_exists.mp h2
          have hnl : (callEnvC fd s.heap.objs.size f).kindOf y ≠ some .local := by
            intro q
            have : fd.scope.names.lookup y = some .local := q
            rw [h1] at this; cases this
          refine .inr ⟨h1, c, hc, ?_⟩
          have := X.cell y c hc
          rw [bindC_at hzip hmem hnl] at this
          exact this
      · have hcn : ((cellsFrom (s.heap.objs.size + 1) fd.scope.names []).map (·.1)).Nodup := cellsFrom_names fd.scope.names 0 (s.heap.objs.size + 1) [] [] rfl ▸ hcl
        exact ⟨_, X.cell y c (lookup_of_mem_nodup hcn hc)⟩
      · have hcells : ∀ a ∈ (callEnvC fd s.heap.objs.size f).cells.map (·.2), s.heap.objs.size < a := fun a ha => by
          obtain ⟨p, hp, e⟩ := List.mem_map.mp ha
          have : s.heap.objs.size < p.2 := X.above p.1 p.2 hp
          exact e ▸ this
        refine List.nodup_cons.mpr ⟨fun q => ?_, List.nodup_append.mpr ⟨List.pairwise_map.mpr X.apart, hCn, fun a ha b hb e => ?_⟩⟩
        · rcases List.mem_append.mp q with q | q
          · exact Nat.lt_irrefl _ (hcells _ q)
          · obtain ⟨p, hp, e⟩ := List.mem_map.mp q
            have e' : p.1 = s.heap.objs.size := e
            exact Nat.lt_irrefl _ (e' ▸ clt p hp)
        · obtain ⟨p, hp, e'⟩ := List.mem_map.mp hb
          have e'' : p.1 = b := e'
          exact Nat.lt_irrefl _ (Nat.lt_trans (hcells a ha) (e ▸ e'' ▸ clt p hp))
    refine wpAny_mono (body_ok _ (Nat.le_refl _) R.deeper F s' SS) (fun fl s'' h => ?_) fun _ _ f => f.elim
    cases fl <;> exact hR _ _ h
/-- the frame of a call -/
theorem call_frame {prog : Program} {w : World} {A : Around} {K : Frag} {mg mb : Str → Option Value} {n : Nat} {f : Addr} {fd : FuncData} {body : List Stmt} {names : List Str} {as : List Ab} {s : Shared} {vals : List Value} {us : List Value} {C : Own} {Q : Value → Shared → Prop} {E : Value → Shared → Prop}
    (D : DefAt K f fd body) (G : Gnd K mg mb (hideAll s.heap (C.map (·.1)))) (R : Room A (n + 1)) (hb : BindsTo s fd ⟨us, []⟩ (names.zip vals)) (hC : ∀ p ∈ C, s.heap.get? p.1 = some p.2) (hCn : (C.map (·.1)).Nodup) (x' : AllOf (hideAll s.heap (C.map (·.1))) vals as)
    (hnd : names.Nodup) (hcl : ((cellsFrom 0 fd.scope.names []).map (·.1)).Nodup)
    (hk' : ∀ L, (names.all fun x => decide (fd.scope.names.lookup x = some .local) || (decide (fd.scope.names.lookup x = some .cell) && ((cellsFrom L fd.scope.names []).lookup x).isSome)) = true)
    (body_ok : ∀ L, s.heap.objs.size ≤ L → Room (A.deeper (callEnvC fd L f)) n → Fe (callEnvC fd L f) →
      ∀ s', St s (hideAll s.heap (C.map (·.1))) (callEnvC fd L f) C (rhoOf names as) s' → wpAny (model prog w) (A.deeper (callEnvC fd L f)) (execs body (callEnvC fd L f)) (fun fl => Q (valOf fl)) (fun _ _ => False) s') : wpAny (model prog w) A (call (.ref f) us) Q E s := by
  exact wpAny_call (code_frame (Q := Q) (fun _ _ h => h) D G R hb hC hCn x' hnd hcl hk' body_ok)

theorem allOf_len {h : Heap} : ∀ {us : List Value} {as : List Ab}, AllOf h us as → us.length = as.length
  | [], [], _ => rfl
  | _ :: _, _ :: _, x => by simp [allOf_len x.2]
  | [], _ :: _, x => x.elim
  | _ :: _, [], x => x.elim
theorem allOf_append {h : Heap} : ∀ {us vs : List Value} {as bs : List Ab}, AllOf h us as → AllOf h vs bs → AllOf h (us ++ vs) (as ++ bs)
  | [], _, [], _, _, y => y
  | _ :: _, _, _ :: _, _, x, y => ⟨x.1, allOf_append x.2 y⟩
  | [], _, _ :: _, _, x, _ => x.elim
  | _ :: _, _, [], _, x, _ => x.elim

theorem fm_def {prog : Program} {w : World} {A : Around} {h : Heap} {K : Frag} {mg mb : Str → Option Value} {n : Nat} {f : Addr} {fd : FuncData} {body : List Stmt} {names : List Str} {args as' : List Ab} {more : List Value} {C : Own} {P : Own → PyData → Prop}
    (D : DefAt K f fd body) (G : Gnd K mg mb h) (R : Room A (n + 1)) (hb : ∀ s us, Sub h s.heap → us.length = args.length → BindsTo s fd ⟨us, []⟩ (names.zip (us ++ more))) (hm : ∀ hp, Sub h hp → AllOf hp more as')
    (hnd : names.Nodup) (hcl : ((cellsFrom 0 fd.scope.names []).map (·.1)).Nodup)
    (hk' : ∀ L, (names.all fun x => decide (fd.scope.names.lookup x = some .local) || (decide (fd.scope.names.lookup x = some .cell) && ((cellsFrom L fd.scope.names []).lookup x).isSome)) = true)
    (body_ok : ∀ (s₀ : Shared) (h₁ : Heap) (L : Addr), Sub h h₁ → h₁.objs.size ≤ L → Gnd K mg mb h₁ → Room (A.deeper (callEnvC fd L f)) n → Fe (callEnvC fd L f) →
      Ex prog w (A.deeper (callEnvC fd L f)) s₀ h₁ (callEnvC fd L f) C (rhoOf names (args ++ as')) body (RetM s₀ h₁ (callEnvC fd L f) C P)) : Fm prog w A h (.ref f) args C P := .mk fun s us k hC hCn x => by
  have k' : Sub h s.heap := k.trans (hide_sub _ _)
  refine call_frame D (G.mono k) R (hb s us k' (allOf_len x)) hC hCn (as := args ++ as') (allOf_append x (hm _ k)) hnd hcl hk' fun L hL R' F' s' S' => ?_
  refine wpAny_mono ((body_ok s _ L k (by rw [hideAll_size]; exact hL) (G.mono k) R' F').go s' S') (fun fl s'' h => ?_) fun _ _ f => f.elim
  obtain ⟨C', d, ρ', hP, hC', S'', hd⟩ := h
  exact ⟨C', d, hP, hC', S''.same, fun b o hb e => base_s S'' b o (hideAll_get _ e hb), S''.obj, hd⟩
end

section

/-- the entries of a dict of names -/
inductive EnOk : List DictEntry → List (Str × Value) → Prop
  | nil : EnOk [] []
  | cons {h : Int} {x : Str} {t : Tok} {v : Value} {es : List DictEntry} {l : List (Str × Value)} : EnOk es l → EnOk (⟨h, .str x t, v⟩ :: es) ((x, v) :: l)
theorem isStr_eq (x y : Str) (t : Tok) : (Value.str x t).isStr y = decide (x = y) := by
  rw [Bool.eq_iff_iff]; simp [Value.isStr]
theorem EnOk.put {es : List DictEntry} {l : List (Str × Value)} {x : Str} (E : EnOk es l) (hx : x ∉ l.map (·.1)) (hs : Int) (t : Tok) (v : Value) : EnOk (putL x hs (.str x t) v es) (l ++ [(x, v)]) := by
  induction E with
  | nil => exact .cons .nil
  | @cons h y t' u es l E ih =>
    simp only [List.map_cons, List.mem_cons, not_or] at hx
    unfold putL
    rw [isStr_eq, decide_eq_false (fun q => hx.1 q.symm)]
    exact .cons (ih hx.2)
theorem EnOk.get {es : List DictEntry} {l : List (Str × Value)} (E : EnOk es l) (x : Str) : getL x es = some (l.lookup x) := by
  have noref : es.any (·.refKey) = false := by
    clear x
    induction E with
    | nil => rfl
    | cons E ih => rw [List.any_cons, ih]; rfl
  unfold getL
  rw [noref]
  induction E with
  | nil => rfl
  | @cons h y t' u es l E ih =>
    rw [List.any_cons, Bool.or_eq_false_iff] at noref
    rw [List.find?_cons, List.lookup_cons, isStr_eq]
    by_cases q : y = x
    · subst q; simp
    · have q' : (x == y) = false := by simpa using fun e => q e.symm
      rw [decide_eq_false q, q']
      exact ih noref.2
theorem EnOk.length {es : List DictEntry} {l : List (Str × Value)} (E : EnOk es l) : es.length = l.length := by
  induction E with
  | nil => rfl
  | cons E ih => simp [ih]
theorem upd_mk {d : Addr} {o o' : Obj} {pre post : Own} (h1 : ∀ p ∈ pre, p.1 ≠ d) (h2 : ∀ p ∈ post, p.1 ≠ d) : Upd d o o' (pre ++ (d, o) :: post) (pre ++ (d, o') :: post) := by
  induction pre with
  | nil => exact .head h2
  | cons p pre ih => exact .tail (h1 p List.mem_cons_self) (ih fun q hq => h1 q (List.mem_cons_of_mem _ hq))

/-- the frame of a maker -/
structure Init (h₀ : Heap) (env : Env) : Prop where
  cells : env.cells = []
  above : h₀.objs.size ≤ env.locals
noncomputable def Vals (ρ : Rho) : Prop := ∀ x a, ρ x = some a → ∃ v, a = .val v
/-- what a class says of a name that is stored -/
structure ClsSet (K : Frag) (Cc : Addr) (name : Str) : Prop where
  hs : findIn K (.ref Cc) "__setattr__" = some (some (.builtin "object.__setattr__"))
  hp : plainOver K Cc = true
  ht : takerIn K Cc name = some none
  hh : hasDictIn K Cc = true

section
variable {prog : Program} {w : World} {A : Around} {r : Shared} {h₀ : Heap} {env : Env} {C : Own} {ρ : Rho} {s : Shared} {K : Frag} {mg mb : Str → Option Value} {n : Nat}
theorem st_frame (S : St r h₀ env C ρ s) (J : Init h₀ env) : ∃ m, Fr h₀ env.locals s.heap m ∧ News h₀ env.locals s.heap C := by
  obtain ⟨m, hn, hv⟩ := S.ns
  exact ⟨m, ⟨hn, base_s S, J.above⟩, fun p hp => ⟨S.obj p hp, mu_loc_obj S.apart hp, own_none S hp⟩⟩
theorem frame_st {C' : Own} {h' : Heap} {tk : Nat} {m m' : Str → Option Value} (S : St r h₀ env C ρ s) (J : Init h₀ env) (V : Vals ρ) (hm : s.heap.Ns env.locals m) (F : Fr h₀ env.locals h' m) (N : News h₀ env.locals h' C') (hC : C'.map (·.1) = C.map (·.1)) :
    St r h₀ env C' ρ { s with heap := h', toks := tk } := by
  obtain ⟨h, tk₀, e⟩ := S.same
  obtain ⟨m₁, hn, hv⟩ := S.ns
  have em : m₁ = m := by
    obtain ⟨o, es, ep, h1, h2, h3, h4⟩ := hn
    obtain ⟨o', es', ep', h1', h2', h3', h4'⟩ := hm
    rw [h1] at h1'; cases h1'
    rw [h2] at h2'; cases h2'
    funext y; rw [← h4, ← h4']
  subst em
  refine ⟨⟨h', tk, by rw [e]⟩, fun b o q => ?_, ⟨m₁, F.ns, fun x a hx => ?_⟩, fun x c hc => ?_, fun p hp => (N p hp).1, mu_same env hC ▸ S.apart⟩
  · refine hideAll_get _ (F.keep b o q) fun z => ?_
    rcases List.mem_cons.mp z with z | z
    · exact Nat.lt_irrefl _ (Nat.lt_of_lt_of_le (Heap.lt_size q) (z ▸ J.above))
    · rw [J.cells] at z
      simp only [List.map_nil, List.nil_append] at z
      obtain ⟨p, hp, q'⟩ := List.mem_map.mp z
      have := (N p hp).2.2
      rw [q', q] at this; cases this
  · obtain ⟨u, v, q⟩ := hv x a hx
    obtain ⟨v', rfl⟩ := V x a hx
    refine ⟨u, ?_, q⟩
    rcases v with v | ⟨a1, c, a2, a3⟩
    · exact .inl v
    · rw [J.cells] at a2; cases a2
  · rw [J.cells] at hc; cases hc
theorem own_split {pre post : Own} {d : Addr} {o : Obj} (S : St r h₀ env (pre ++ (d, o) :: post) ρ s) : (∀ p ∈ pre, p.1 ≠ d) ∧ ∀ p ∈ post, p.1 ≠ d := by
  have nd := own_nodup S
  rw [List.map_append, List.map_cons] at nd
  obtain ⟨h1, h2, h3⟩ := List.nodup_append.mp nd
  exact ⟨fun p hp q => h3 d (q ▸ List.mem_map.mpr ⟨p, hp, rfl⟩) d List.mem_cons_self rfl, fun p hp q => (List.nodup_cons.mp h2).1 (q ▸ List.mem_map.mpr ⟨p, hp, rfl⟩)⟩

theorem wp_setattr {pre post : Own} {x dx Cc : Addr} {es : List DictEntry} {k : Nat} {l : List (Str × Value)} {name : Str} {v : Value} {Q : Unit → Shared → Prop} {E : Value → Shared → Prop} (J : Init h₀ env) (V : Vals ρ) (G : Gnd K mg mb h₀) (S : St r h₀ env (pre ++ (dx, dictOf es k) :: post) ρ s)
    (hx : (x, instObj Cc dx) ∈ pre ++ (dx, dictOf es k) :: post) (M : ClsSet K Cc name) (E' : EnOk es l) (hl : name ∉ l.map (·.1)) (hz : l.length < 900)
    (h : ∀ es' k' s', EnOk es' (l ++ [(name, v)]) → St r h₀ env (pre ++ (dx, dictOf es' k') :: post) ρ s' → Q () s') : wpAny (model prog w) A (setAttr (.ref x) name v) Q E s := by
  obtain ⟨m, F, N⟩ := st_frame S J
  have I : W.InstAt s.heap x (instObj Cc dx) Cc (some (dictOf es k)) := ⟨S.obj _ hx, rfl, rfl, S.obj (dx, dictOf es k) (by simp)⟩
  obtain ⟨a, b⟩ := own_split S
  have P := E'.put hl (PyData.keyHash w.params name) (s.toks + 1) v
  exact set_dict F G.X N I rfl M.hs M.hp M.ht M.hh (by rw [E'.get]; rfl) rfl (upd_mk a b) (by rw [P.length]; simp; omega) fun h' F' N' => h _ _ _ P (frame_st (m' := m) S J V F.ns F' N' (by simp))
/-- self.name = value -/
theorem ex_setattr {pre post : Own} {x dx Cc : Addr} {es : List DictEntry} {k : Nat} {l : List (Str × Value)} {name : Str} {v : Value} {o e : Expr} {apos pos : Pos} {rest : List Stmt} {Q : Flow → Shared → Prop} (J : Init h₀ env) (V : Vals ρ) (G : Gnd K mg mb h₀)
    (ho : Ev prog w A r h₀ env (pre ++ (dx, dictOf es k) :: post) ρ o (.val (.ref x))) (y : Ev prog w A r h₀ env (pre ++ (dx, dictOf es k) :: post) ρ e (.val v))
    (hx : (x, instObj Cc dx) ∈ pre ++ (dx, dictOf es k) :: post) (M : ClsSet K Cc name) (E' : EnOk es l) (hl : name ∉ l.map (·.1)) (hz : l.length < 900)
    (hs : swapsWith e (some (.Attribute o name apos)) pos.line env = pure false)
    (h : ∀ es' k', EnOk es' (l ++ [(name, v)]) → Ex prog w A r h₀ env (pre ++ (dx, dictOf es' k') :: post) ρ rest Q) : Ex prog w A r h₀ env (pre ++ (dx, dictOf es k) :: post) ρ (.Assign [.Attribute o name apos] e pos :: rest) Q := .mk fun s S =>
  wpAny_execs_cons (plainObj_wpAny_Assign_Attribute (y.use S fun u s₁ k₁ S₁ hu => ho.use S₁ fun u' s₂ k₂ S₂ hu' => by
    cases hu; cases hu'
    exact wp_setattr J V G S₂ hx M E' hl hz fun es' k' s' e' S' => (h es' k' e').go s' S') hs)
/-- self.name = [] -/
theorem ex_setattrL {pre post : Own} {x dx Cc : Addr} {es : List DictEntry} {k : Nat} {l : List (Str × Value)} {name : Str} {o : Expr} {lp apos pos : Pos} {rest : List Stmt} {Q : Flow → Shared → Prop} (J : Init h₀ env) (V : Vals ρ) (G : Gnd K mg mb h₀)
    (ho : ∀ C, Ev prog w A r h₀ env C ρ o (.val (.ref x))) (hst : starEach [] env = plainArgs [] env)
    (hx : (x, instObj Cc dx) ∈ pre ++ (dx, dictOf es k) :: post) (M : ClsSet K Cc name) (E' : EnOk es l) (hl : name ∉ l.map (·.1)) (hz : l.length < 900)
    (hs : swapsWith (.List [] lp) (some (.Attribute o name apos)) pos.line env = pure false)
    (h : ∀ a es' k', EnOk es' (l ++ [(name, .ref a)]) → Ex prog w A r h₀ env (((a, lst #[] 0) :: pre) ++ (dx, dictOf es' k') :: post) ρ rest Q) : Ex prog w A r h₀ env (pre ++ (dx, dictOf es k) :: post) ρ (.Assign [.Attribute o name apos] (.List [] lp) pos :: rest) Q := .mk fun s S =>
  wpAny_execs_cons (plainObj_wpAny_Assign_Attribute (wpAny_List (by
    rw [hst, backTo_plain]
    refine wpAny_pure ⟨by decide, ?_⟩
    refine (ho _).use (st_new S (lst #[] 0) rfl) fun u' s₂ k₂ S₂ hu' => ?_
    cases hu'
    exact wp_setattr (pre := (s.heap.objs.size, lst #[] 0) :: pre) J V G S₂ (List.mem_cons_of_mem _ hx) M E' hl hz fun es' k' s' e' S' => (h _ es' k' e').go s' S')) hs)
/-- self.name = {} -/
theorem ex_setattrD {pre post : Own} {x dx Cc : Addr} {es : List DictEntry} {k : Nat} {l : List (Str × Value)} {name : Str} {o : Expr} {lp apos pos : Pos} {rest : List Stmt} {Q : Flow → Shared → Prop} (J : Init h₀ env) (V : Vals ρ) (G : Gnd K mg mb h₀)
    (ho : ∀ C, Ev prog w A r h₀ env C ρ o (.val (.ref x)))
    (hx : (x, instObj Cc dx) ∈ pre ++ (dx, dictOf es k) :: post) (M : ClsSet K Cc name) (E' : EnOk es l) (hl : name ∉ l.map (·.1)) (hz : l.length < 900)
    (hs : swapsWith (.Dict [] [] lp) (some (.Attribute o name apos)) pos.line env = pure false)
    (h : ∀ a es' k', EnOk es' (l ++ [(name, .ref a)]) → Ex prog w A r h₀ env (((a, dct0) :: pre) ++ (dx, dictOf es' k') :: post) ρ rest Q) : Ex prog w A r h₀ env (pre ++ (dx, dictOf es k) :: post) ρ (.Assign [.Attribute o name apos] (.Dict [] [] lp) pos :: rest) Q := .mk fun s S =>
  wpAny_execs_cons (plainObj_wpAny_Assign_Attribute (by
    rw [eval_Dict_empty]
    refine wpAny_bind (wpAny_standAt ?_)
    refine wpAny_newObj_type ?_
    refine (ho _).use (st_new S dct0 rfl) fun u' s₂ k₂ S₂ hu' => ?_
    cases hu'
    exact wp_setattr (pre := (s.heap.objs.size, dct0) :: pre) J V G S₂ (List.mem_cons_of_mem _ hx) M E' hl hz fun es' k' s' e' S' => (h _ es' k' e').go s' S') hs)
end

/-! making an object of a class -/
structure ClsMake (K : Frag) (Cc fI : Addr) : Prop where
  hm : makesIn K Cc = true
  hi : findIn K (.ref Cc) "__init__" = some (some (.ref fI))
  hf : typeIn K (.ref fI) = some (.type "function")
noncomputable def RetC (r : Shared) (h₁ : Heap) (env : Env) (P : Own → Prop) (f : Flow) (s' : Shared) : Prop := valOf f = .none ∧ ∃ Cf C' h' ρ', P (Cf ++ C') ∧ (∀ p ∈ Cf, h'.get? p.1 = some p.2 ∧ h₁.get? p.1 = none) ∧ (Cf.map (·.1)).Nodup ∧ Sub h₁ h' ∧ St r h' env C' ρ' s'
structure Fc (prog : Program) (w : World) (A : Around) (h : Heap) (f : Value) (as : List Ab) (P : Addr → Own → Prop) : Prop where
  go : ∀ s us, Sub h s.heap → AllOf s.heap us as → wpAny (model prog w) A (call f us) (fun u s' => Keeps s s' ∧ ∃ x Cn, u = .ref x ∧ P x Cn ∧ (∀ p ∈ Cn, s.heap.get? p.1 = none ∧ s'.heap.get? p.1 = some p.2) ∧ (Cn.map (·.1)).Nodup) (fun _ _ => False) s
theorem typeCall_under {A : Around} {n : Nat} (Cc : Addr) (rest : List Value) (R : Room A (n + 1)) : Room (A.under (.builtin "type.__call__" ⟨.ref Cc :: rest, []⟩)) n := by
  have e1 : (Code.builtin "type.__call__" ⟨.ref Cc :: rest, []⟩).weight = 1 := by kernel_rfl
  have e2 : (Code.builtin "type.__call__" ⟨.ref Cc :: rest, []⟩).cUnits = 1 := by kernel_rfl
  refine ⟨R.h, ?_, ?_⟩
  · have := R.d
    show A.depth + _ + n < _
    omega
  · have := R.u
    show A.units + _ + 8 * n + 80 < _
    omega
theorem fc_def {prog : Program} {w : World} {A : Around} {h : Heap} {K : Frag} {mg mb : Str → Option Value} {n : Nat} {Cc fI : Addr} {fd : FuncData} {body : List Stmt} {names : List Str} {args : List Ab} {P : Addr → Own → Prop}
    (D : DefAt K fI fd body) (CM : ClsMake K Cc fI) (G : Gnd K mg mb h) (R : Room A (n + 2)) (hb : ∀ s u us, Sub h s.heap → us.length = args.length → BindsTo s fd ⟨u :: us, []⟩ (names.zip (u :: us)))
    (hnd : names.Nodup) (hcl : (cellsFrom 0 fd.scope.names []) = [])
    (hk' : ∀ L, (names.all fun x => decide (fd.scope.names.lookup x = some .local) || (decide (fd.scope.names.lookup x = some .cell) && ((cellsFrom L fd.scope.names []).lookup x).isSome)) = true)
    (body_ok : ∀ (A' : Around) (s₀ : Shared) (h₁ : Heap) (L x dx : Addr), Sub h h₁ → Init h₁ (callEnvC fd L fI) → Gnd K mg mb h₁ → Room A' n → Fe (callEnvC fd L fI) →
      Ex prog w A' s₀ h₁ (callEnvC fd L fI) [(x, instObj Cc dx), (dx, dictOf [] 0)] (rhoOf names (.val (.ref x) :: args)) body (RetC s₀ h₁ (callEnvC fd L fI) (P x))) : Fc prog w A h (.ref Cc) args P := .mk fun s us k x => by
  obtain ⟨hh, g, d, t, os⟩ := s
  have G' := G.mono k
  refine wpAny_call (make_core (makes_of G'.X CM.hm) (looks_findIn G'.X CM.hi) (fun self => bind_fn G'.X self CM.hf) (.inl rfl) ?_)
  have kp : Sub hh ((hh.push emptyDict).push (instObj Cc hh.objs.size)) := (Sub.push _ _).trans (Sub.push _ _)
  have hxd : ((hh.push emptyDict).push (instObj Cc hh.objs.size)).get? (hh.objs.size + 1) = some (instObj Cc hh.objs.size) := by
    have := Heap.get?_push_size (hh.push emptyDict) (o := instObj Cc hh.objs.size) rfl
    rwa [Heap.size_push] at this
  have hdd : ((hh.push emptyDict).push (instObj Cc hh.objs.size)).get? hh.objs.size = some (dictOf [] 0) := Heap.get?_push_of_some _ (Heap.get?_push_size _ rfl)
  generalize hH : (hh.push emptyDict).push (instObj Cc hh.objs.size) = H at *
  have hC : ∀ p ∈ ([(hh.objs.size + 1, instObj Cc hh.objs.size), (hh.objs.size, dictOf [] 0)] : Own), H.get? p.1 = some p.2 := fun p hp => by
    rcases List.mem_cons.mp hp with rfl | hp
    · exact hxd
    · rcases List.mem_cons.mp hp with rfl | hp
      · exact hdd
      · cases hp
  have hCn : (([(hh.objs.size + 1, instObj Cc hh.objs.size), (hh.objs.size, dictOf [] 0)] : Own).map (·.1)).Nodup := by
    simp
  have fresh : ∀ p ∈ ([(hh.objs.size + 1, instObj Cc hh.objs.size), (hh.objs.size, dictOf [] 0)] : Own), hh.get? p.1 = none := fun p hp => by
    cases e : hh.get? p.1 with
    | none => rfl
    | some o =>
      have := Heap.lt_size e
      rcases List.mem_cons.mp hp with rfl | hp
      · exact absurd (Nat.lt_of_succ_lt this) (Nat.lt_irrefl _)
      · rcases List.mem_cons.mp hp with rfl | hp
        · simp at this
        · cases hp
  have sub : Sub hh (hideAll H (([(hh.objs.size + 1, instObj Cc hh.objs.size), (hh.objs.size, dictOf [] 0)] : Own).map (·.1))) := fun b o e => hideAll_get _ (kp b o e) fun q => by
    obtain ⟨p, hp, rfl⟩ := List.mem_map.mp q
    rw [fresh p hp] at e; cases e
  refine code_frame (s := ⟨H, g, d, t, os⟩) (Q := fun v s'' => v = .none ∧ (Keeps ⟨hh, g, d, t, os⟩ s'' ∧ ∃ (x : Addr) (Cn : Own), (Value.ref (hh.objs.size + 1)) = .ref x ∧ P x Cn ∧ (∀ p ∈ Cn, hh.get? p.1 = none ∧ s''.heap.get? p.1 = some p.2) ∧ (Cn.map (fun (p : Addr × Obj) => p.1)).Nodup))
    (fun v s h => h) D (G'.mono sub) (typeCall_under (n := n + 1) Cc us R) (hb ⟨H, g, d, t, os⟩ _ us (k.trans kp) (allOf_len x)) hC hCn (as := .val (.ref (hh.objs.size + 1)) :: args) ⟨rfl, x.mono sub⟩ hnd (by rw [hcl]; simp) hk' fun L hL R' F' s' S' => ?_
  have hcells : (callEnvC fd L fI).cells = [] := by
    show cellsFrom (L + 1) fd.scope.names [] = []
    have := cellsFrom_names fd.scope.names 0 (L + 1) [] [] rfl
    rw [hcl] at this
    exact List.map_eq_nil_iff.mp this.symm
  refine wpAny_mono ((body_ok _ ⟨H, g, d, t, os⟩ _ L _ _ (k.trans sub) ⟨hcells, by rw [hideAll_size]; exact hL⟩ (G'.mono sub) R' F').go s' S') (fun fl s'' hr => ?_) fun _ _ f => f.elim
  obtain ⟨hv, Cf, C', h', ρ', hP, hCf, hCfn, hsub, S''⟩ := hr
  have nn : ∀ p : Addr × Obj, (hideAll H (([(hh.objs.size + 1, instObj Cc hh.objs.size), (hh.objs.size, dictOf [] 0)] : Own).map (·.1))).get? p.1 = none → hh.get? p.1 = none := fun p hp => by
    cases e : hh.get? p.1 with
    | none => rfl
    | some o => rw [sub _ _ e] at hp; cases hp
  refine ⟨hv, ?_, _, Cf ++ C', rfl, hP, fun p hp => ?_, ?_⟩
  · obtain ⟨h2, t2, e2⟩ := S''.same
    refine ⟨h2, t2, by rw [e2], fun b o e => ?_⟩
    have := base_s S'' b o (hsub _ _ (sub b o e))
    rw [e2] at this; exact this
  · rcases List.mem_append.mp hp with hp | hp
    · exact ⟨nn p (hCf p hp).2, base_s S'' _ _ (hCf p hp).1⟩
    · refine ⟨nn p ?_, S''.obj p hp⟩
      cases e : (hideAll H (([(hh.objs.size + 1, instObj Cc hh.objs.size), (hh.objs.size, dictOf [] 0)] : Own).map (·.1))).get? p.1 with
      | none => rfl
      | some o => have := own_none S'' hp; rw [hsub _ _ e] at this; cases this
  · rw [List.map_append]
    refine List.nodup_append.mpr ⟨hCfn, own_nodup S'', fun a ha b hb e => ?_⟩
    obtain ⟨p, hp, rfl⟩ := List.mem_map.mp ha
    obtain ⟨q, hq, rfl⟩ := List.mem_map.mp hb
    have := own_none S'' hq
    rw [← e, (hCf p hp).1] at this; cases this
section
variable {prog : Program} {w : World} {A : Around} {r : Shared} {h₀ : Heap} {env : Env} {C : Own} {ρ : Rho} {s : Shared} {K : Frag} {mg mb : Str → Option Value} {n : Nat}
theorem st_more {Cn : Own} {s' : Shared} (S : St r h₀ env C ρ s) (k : Keeps s s') (hn : ∀ p ∈ Cn, s.heap.get? p.1 = none ∧ s'.heap.get? p.1 = some p.2) (nd : (Cn.map (·.1)).Nodup) : St r h₀ env (Cn ++ C) ρ s' := by
  have hd : ∀ b ∈ Cn.map (·.1), b ∉ mu env C := fun b hb => by
    obtain ⟨p, hp, rfl⟩ := List.mem_map.mp hb
    exact mu_of_none S (hn p hp).1
  have e : ownAt (Cn.map (·.1)) s'.heap = Cn := by
    unfold ownAt
    rw [List.map_map]
    refine (List.map_congr_left fun p hp => ?_).trans (List.map_id _)
    simp [(hn p hp).2]
  have S' := S.keeps k
  have hsub : Sub (vis env C s.heap) (vis env (ownAt (Cn.map (·.1)) s'.heap ++ C) s'.heap) := fun b o q => by
    refine hideAll_get _ (kp_sub k b o (of_hideAll _ q)) fun z => ?_
    rcases mem_mu_own.mp z with z | z
    · exact hide_not q z
    · obtain ⟨p, hp, rfl⟩ := List.mem_map.mp z
      have := of_hideAll _ q
      rw [(hn p hp).1] at this; cases this
  have := st_own (wr := Cn.map (·.1)) (g := h₀) S' nd hd (fun b hb => by
    obtain ⟨p, hp, rfl⟩ := List.mem_map.mp hb
    exact ⟨_, (hn p hp).2⟩) (S.base.trans hsub) fun x a hx => by
      obtain ⟨m, hns, hv⟩ := S.ns
      obtain ⟨u, v, q⟩ := hv x a hx
      exact ⟨m, u, hns.keeps (kp_sub k), v.keeps (kp_sub k), Ab.mono hsub q⟩
  rwa [e] at this
/-- x = Class(..) -/
theorem ex_make {x : Str} {xp p pos pos' : Pos} {id : Str} {es : List Expr} {as : List Ab} {Cc : Addr} {P : Addr → Own → Prop} {rest : List Stmt} {Q : Flow → Shared → Prop} (F : Fe env) (G : Gnd K mg mb h₀) (hx : Stores env x) (hid : env.kindOf id = some .globalImplicit) (hn : nsIn K mainGlobals id = some (some (.ref Cc)))
    (hd : (id == ("__debug__" : Str)) = false) (hk : keepIn K (.ref Cc) = true) (hst : starEach es env = plainArgs es env) (y : EvL prog w A r h₀ env C ρ es as) (hF : ∀ s, St r h₀ env C ρ s → Fc prog w A s.heap (.ref Cc) as P)
    (hs : swapsWith (.Call (.Name id p) es [] pos) (some (.Name x xp)) pos'.line env = pure false)
    (k : ∀ a Cn, P a Cn → Ex prog w A r h₀ env (Cn ++ C) (upd ρ x (.val (.ref a))) rest Q) : Ex prog w A r h₀ env C ρ (.Assign [.Name x xp] (.Call (.Name id p) es [] pos) pos' :: rest) Q := .mk fun s S => by
  refine wpAny_execs_cons (wpAny_Assign_Name ?_ hs)
  show wpAny _ _ (do callWith pos (← eval (.Name id p) env) [] (backTo pos (starEach es env)) []) _ _ _
  refine wpAny_bind ((ev_glob F G hid hn hd).use S fun u s₁ k₁ S₁ e => ?_)
  cases e
  refine cw hst (fun s S => keeps_K hk _ (gnd_s G S).X) y S₁ fun us s' k' S' a' => ?_
  refine wpAny_mono ((hF s' S').go s' us Sub.refl (a'.mono (vis_sub _))) (fun u s₂ h => ?_) fun _ _ f => f.elim
  obtain ⟨k₂, a, Cn, rfl, hP, hn', nd⟩ := h
  exact st_store (a := .val (.ref a)) F (st_more S' k₂ hn' nd) hx rfl fun s₃ S₃ _ _ => (k a Cn hP).go s₃ S₃
end
end

section

/-- one object of a heap alone -/
noncomputable def onlyAt (h : Heap) (a : Addr) : Heap := hideAll h ((List.range h.objs.size).filter fun b => b != a)
theorem onlyAt_self {h : Heap} {a : Addr} {o : Obj} (e : h.get? a = some o) : (onlyAt h a).get? a = some o := hideAll_get _ e (by simp)
theorem onlyAt_eq {h : Heap} {a b : Addr} {o : Obj} (e : (onlyAt h a).get? b = some o) : b = a := by
  by_cases q : b = a
  · exact q
  · have h1 := Heap.lt_size (of_hideAll _ e)
    have : b ∈ (List.range h.objs.size).filter fun b => b != a := List.mem_filter.mpr ⟨List.mem_range.mpr h1, by simpa using q⟩
    have := hideAll_none _ (h := h) this
    unfold onlyAt at e
    rw [this] at e; cases e
theorem RdN.newList {h h' : Heap} {a : Addr} {vs : Array Value} {k : Nat} {ds : List PyData} (hn : h.get? a = none) (e : h'.get? a = some (lst vs k)) (R : RdAll gNil vs.toList ds) : RdN h h' (.ref a) (.list ds) :=
  ⟨onlyAt h' a, fun b o q => of_hideAll _ q, fun b o q => by rw [onlyAt_eq q]; exact hn, .list (onlyAt_self e) (R.mono fun b o q => (gNil_get b o q).elim)⟩
theorem size_none (h : Heap) : h.get? h.objs.size = none := by
  cases e : h.get? h.objs.size with
  | none => rfl
  | some o => exact absurd (Heap.lt_size e) (Nat.lt_irrefl _)
theorem own_at {C : Own} {i : Nat} {p : Addr × Obj} (h : C[i]? = some p) (o : Obj) : C = C.take i ++ p :: C.drop (i + 1) ∧ C.set i (p.1, o) = C.take i ++ (p.1, o) :: C.drop (i + 1) := by
  obtain ⟨hi, rfl⟩ := List.getElem?_eq_some_iff.mp h
  refine ⟨by simp, List.set_eq_take_append_cons_drop.trans (if_pos hi)⟩
section
variable {prog : Program} {w : World} {A : Around} {r : Shared} {h₀ : Heap} {env : Env} {C : Own} {ρ : Rho} {s : Shared} {K : Frag} {mg mb : Str → Option Value} {n : Nat}
/-- own.append(e), a statement -/
theorem ex_appendAt (i : Nat) {a : Addr} {vs : Array Value} {k : Nat} {o e : Expr} {apos pos pos' : Pos} {b : Ab} {pl : Sem Bool} {rest : List Stmt} {Q : Flow → Shared → Prop} (hC : C[i]? = some (a, lst vs k)) (ho : Ev prog w A r h₀ env C ρ o (.val (.ref a))) (x : Ev prog w A r h₀ env C ρ e b)
    (hz : vs.size ≤ sizeLine) (hst : starEach [e] env = plainArgs [e] env)
    (he : eval (.Call (.Attribute o "append" apos) [e] [] pos) env = (do
      let ov ← eval o env
      standAt apos.atName
      let (f, first) ← holding [ov] (getMethod ov "append" pl)
      callWith pos f first (backTo pos (starEach [e] env)) (backToKw pos (keywordEach [] env))))
    (hi : interactive env = false) (hs : swapsWith (.Call (.Attribute o "append" apos) [e] [] pos) none pos'.line env = pure false)
    (k' : ∀ u h k', b.of h u → Ex prog w A r h₀ env (C.set i (a, lst (vs.push u) k')) ρ rest Q) : Ex prog w A r h₀ env C ρ (.Expr (.Call (.Attribute o "append" apos) [e] [] pos) pos' :: rest) Q := by
  have e1 := (own_at hC (lst #[] 0)).1
  refine ex_exprM (P := fun C' d => ∃ u h k', b.of h u ∧ C' = C.set i (a, lst (vs.push u) k')) ?_ hi hs fun C' d hP => ?_
  · have := mt_append (P := fun C' d => ∃ u h k', b.of h u ∧ C' = C.set i (a, lst (vs.push u) k')) (pre := C.take i) (post := C.drop (i + 1)) (e1 ▸ ho) (e1 ▸ x) hz hst (fun u h k' hu => ⟨u, h, k', hu, ((own_at hC _).2).symm⟩) he
    rwa [← e1] at this
  · obtain ⟨u, h, kk, hu, rfl⟩ := hP
    exact k' u h kk hu
/-- own.append(f(..)), where the call changes own objects -/
theorem ex_appendM (i : Nat) {a : Addr} {vs : Array Value} {k : Nat} {o e : Expr} {apos pos pos' : Pos} {P : Own → PyData → Prop} {pl : Sem Bool} {rest : List Stmt} {Q : Flow → Shared → Prop} (hC : ∀ C' d, P C' d → C'[i]? = some (a, lst vs k)) (ho : Ev prog w A r h₀ env C ρ o (.val (.ref a))) (x : Mt prog w A r h₀ env C ρ e P)
    (hC₀ : C[i]? = some (a, lst vs k)) (hz : vs.size ≤ sizeLine) (hst : starEach [e] env = plainArgs [e] env)
    (he : eval (.Call (.Attribute o "append" apos) [e] [] pos) env = (do
      let ov ← eval o env
      standAt apos.atName
      let (f, first) ← holding [ov] (getMethod ov "append" pl)
      callWith pos f first (backTo pos (starEach [e] env)) (backToKw pos (keywordEach [] env))))
    (hi : interactive env = false) (hs : swapsWith (.Call (.Attribute o "append" apos) [e] [] pos) none pos'.line env = pure false)
    (k' : ∀ C' d u k', P C' d → Rd gNil u d → Ex prog w A r h₀ env (C'.set i (a, lst (vs.push u) k')) ρ rest Q) : Ex prog w A r h₀ env C ρ (.Expr (.Call (.Attribute o "append" apos) [e] [] pos) pos' :: rest) Q := .mk fun s S => by
  refine wpAny_execs_cons (wpAny_Expr_any ?_ hi hs)
  refine methodCall_KW (ho.use S fun u s₁ k₁ S₁ e => ?_) he
  cases e
  have l₁ := S₁.obj _ (List.mem_of_getElem? hC₀)
  refine getMethod_list_of PySem.F.slot_list_append PySem.F.type_list_append (isList_of l₁) ⟨_, l₁, rfl⟩ ?_
  rw [hst, backTo_plain]
  refine callWith_of (P := fun h => ∃ k, (k = Keeper.frame ∨ k = Keeper.machine ∨ k = Keeper.boundFrame) ∧ Looks (model prog w) h (keeperOf (.builtin "list.append")) k) (by rw [any_plain]; rfl) (fun h x => x) ?_
  refine evalArgs_plain (spl_cons (x.use S₁ fun v s₂ C' d hP S₂ hv => wpAny_pure ⟨keeps_bi fun _ => by simp, ?_⟩))
  have hC' := hC C' d hP
  have l₂ := S₂.obj _ (List.mem_of_getElem? hC')
  refine call_meets PySem.F.slot_list_append ⟨_, l₂, rfl⟩ PySem.F.entry_list_append (PySem.F.args_list_append_2 _ _) (PySem.list_append a vs k v hz) ⟨l₂, ?_⟩
  obtain ⟨kk, hk⟩ := lst_up l₂ fun x => x.push v
  have e1 := (own_at hC' (lst (vs.push v) kk))
  rw [e1.1] at S₂
  have := st_set (tk := s₂.toks) S₂ (Heap.SameBut.update ..) hk
  refine (k' C' d v kk hP hv).go _ ?_
  rw [e1.2]; exact this
/-- a call of an own method that changes all that is own -/
theorem mt_meth0 {P : Own → PyData → Prop} {f x Cc : Addr} {m : Str → Option Value} {o : Expr} {name : Str} {apos pos : Pos} {es : List Expr} {as : List Ab} {pl : Sem Bool} (pre post : Own) {C₁ : Own} (hC : C = pre ++ (C₁ ++ post)) (G : Gnd K mg mb h₀) (ho : Ev prog w A r h₀ env C ρ o (.val (.ref x)))
    (I : Inst h₀ x Cc m) (M : ClsMeth K Cc name f) (hm : m name = none) (hst : starEach es env = plainArgs es env) (y : EvL prog w A r h₀ env C ρ es as) (hF : Fm prog w A h₀ (.ref f) (.val (.ref x) :: as) C₁ P)
    (he : eval (.Call (.Attribute o name apos) es [] pos) env = (do
      let ov ← eval o env
      standAt apos.atName
      let (f, first) ← holding [ov] (getMethod ov name pl)
      callWith pos f first (backTo pos (starEach es env)) (backToKw pos (keywordEach [] env)))) :
    Mt prog w A r h₀ env C ρ (.Call (.Attribute o name apos) es [] pos) (fun C' d => ∃ C₂, C' = pre ++ (C₂ ++ post) ∧ P C₂ d) := by
  subst hC
  exact mt_meth G ho I M hm hst y hF he

/-- a dict, as an object -/
noncomputable def ObjDict {κ : Type} [DecidableEq κ] (knd : KeyKind prog w κ) (o : Obj) (kvs : List (κ × Value)) : Prop := ∃ es ep, o.ExactDict ∧ o.data = .dict es ep ∧ KeysOf knd es ∧ Pairs knd es.toList kvs ∧ (kvs.map (·.1)).Nodup
theorem ObjDict.of {κ : Type} [DecidableEq κ] {knd : KeyKind prog w κ} {o : Obj} {kvs : List (κ × Value)} {h : Heap} {a : Addr} (D : ObjDict knd o kvs) (e : h.get? a = some o) : h.DictOf knd a kvs := by
  obtain ⟨es, ep, a1, a2, a3, a4, a5⟩ := D
  exact ⟨o, es, ep, e, a1, a2, a3, a4, a5⟩
theorem ObjDict.to {κ : Type} [DecidableEq κ] {knd : KeyKind prog w κ} {kvs : List (κ × Value)} {h : Heap} {a : Addr} (D : h.DictOf knd a kvs) : ∃ o, h.get? a = some o ∧ ObjDict knd o kvs := by
  obtain ⟨o, es, ep, e, a1, a2, a3, a4, a5⟩ := D
  exact ⟨o, e, es, ep, a1, a2, a3, a4, a5⟩
theorem ObjDict.new {κ : Type} [DecidableEq κ] (knd : KeyKind prog w κ) : ObjDict knd dct0 [] := by
  obtain ⟨o, e, h⟩ := ObjDict.to (Heap.DictOf.new (knd := knd) ({} : Heap))
  rw [Heap.get?_push_size _ rfl] at e
  cases e; exact h
/-- own[i] = f(..), where the call changes own objects -/
theorem ex_setitemM (i : Nat) {κ : Type} [DecidableEq κ] {knd : KeyKind prog w κ} {d : Addr} {o e idx : Expr} {P : Own → PyData → Prop} {spos pos : Pos} {key : κ} {kd : PyData} {rest : List Stmt} {Q : Flow → Shared → Prop} (y : Mt prog w A r h₀ env C ρ e P)
    (ho : ∀ C' dv, P C' dv → Ev prog w A r h₀ env C' ρ o (.val (.ref d))) (hi : ∀ C' dv, P C' dv → Ev prog w A r h₀ env C' ρ idx (.dat kd)) (hk : ∀ u, Rd gNil u kd → knd.is key u = true) (hf : flat kd = true)
    {mx : Nat} (hmx : mx ≤ sizeLine) (hd : ∀ C' dv, P C' dv → ∃ od kvs, C'[i]? = some (d, od) ∧ ObjDict knd od kvs ∧ kvs.length ≤ mx)
    (hs : swapsWith e (some (.Subscript o idx spos)) pos.line env = pure false)
    (k : ∀ C' dv od kvs od' u, P C' dv → C'[i]? = some (d, od) → ObjDict knd od kvs → kvs.length ≤ mx → Rd gNil u dv → ObjDict knd od' (stored kvs key u) → Ex prog w A r h₀ env (C'.set i (d, od')) ρ rest Q) :
    Ex prog w A r h₀ env C ρ (.Assign [.Subscript o idx spos] e pos :: rest) Q := .mk fun s S =>
  wpAny_execs_cons (wpAny_Assign_Subscript (y.use S fun u s₁ C' dv hP S₁ hu => (ho C' dv hP).use S₁ fun ov s₂ _ S₂ e2 => (hi C' dv hP).use S₂ fun iv s₃ _ S₃ e3 => by
    cases e2
    obtain ⟨od, kvs, hC', hD, hz⟩ := hd C' dv hP
    have l₃ := S₃.obj _ (List.mem_of_getElem? hC')
    refine wpAny_setItem_pairs (hsz := Nat.le_trans hz hmx) (hk iv (Rd.fl e3 hf)) (hD.of l₃) fun h' hD' hsb => ?_
    obtain ⟨od', e', hO'⟩ := ObjDict.to hD'
    have e1 := own_at hC' od'
    rw [e1.1] at S₃
    have := st_set (tk := s₃.toks + 1) S₃ hsb e'
    refine (k C' dv od kvs od' u hP hC' hD hz hu hO').go _ ?_
    rw [e1.2]; exact this) hs)
theorem fn_listT {h : Heap} : Fn prog w A h (.type "list") [.dat (.tuple [])] (.dat (.list [])) := .mk fun s us k x => by
  match us, x with
  | [u], x =>
    obtain ⟨a, vs, nn, rfl, e, R⟩ := Rd.getTuple x.1
    have hv : vs.toList = [] := by cases hq : vs.toList with | nil => rfl | cons v l => rw [hq] at R; cases R
    have hz : vs.size ≤ sizeLine := by
      have : vs.size = 0 := by rw [← Array.length_toList, hv]; rfl
      rw [this]; decide
    exact call_list_seq (hsz := hz) a (.inr rfl) e rfl rfl fun h' c' hk hl => ⟨kp_heap hk, RdN.newList (size_none _) hl (by rw [hv]; exact .nil)⟩
end
end

section
section
variable {prog : Program} {w : World} {A : Around} {r : Shared} {h₀ : Heap} {env : Env} {C : Own} {ρ : Rho} {K : Frag} {mg mb : Str → Option Value}
theorem fn_lenO {h : Heap} {a : Addr} {vs : Array Value} {k : Nat} (e : h.get? a = some (lst vs k)) (hz : vs.size < 2 ^ 62) : Fn prog w A h (.builtin "len") [.val (.ref a)] (.dat (.int vs.size)) := .mk fun s us kk x => by
  match us, x with
  | [u], x =>
    cases x.1
    exact len_list (isList_of (kk _ _ e)) (by omega) ⟨kp_tok s _, RdN.int _ _ _ _⟩
theorem ev_lenO {p pos : Pos} {e : Expr} {a : Addr} {vs : Array Value} {k : Nat} (F : Fe env) (G : Gnd K mg mb h₀) (hx : env.kindOf "len" = some .globalImplicit) (hn : nsIn K mainGlobals "len" = some none)
    (hst : starEach [e] env = plainArgs [e] env) (x : Ev prog w A r h₀ env C ρ e (.val (.ref a))) (hC : (a, lst vs k) ∈ C) (hz : vs.size < 2 ^ 62) : Ev prog w A r h₀ env C ρ (.Call (.Name "len" p) [e] [] pos) (.dat (.int vs.size)) :=
  ev_callB F G hx hn (show bootBuiltins "len" = some (.builtin "len") by kernel_rfl) (by decide +kernel) (fun _ => by simp) (by decide +kernel) hst (evl_cons x evl_nil) fun s S => fn_lenO (S.obj _ hC) hz
theorem rd_own {s : Shared} {a : Addr} {vs : Array Value} {k : Nat} {ds : List PyData} (S : St r h₀ env C ρ s) (hC : (a, lst vs k) ∈ C) (R : RdAll gNil vs.toList ds) : Rd s.heap (.ref a) (.list ds) :=
  .list (S.obj _ hC) (R.mono fun a o e => (gNil_get a o e).elim)
theorem tt_inO {l rr : Expr} {pos : Pos} {a : Addr} {vs : Array Value} {k : Nat} {its : List Nat} {d : Nat} {m : Nat} (R : Room A m) (x : Ev prog w A r h₀ env C ρ l (.dat (.int (d : Int)))) (y : Ev prog w A r h₀ env C ρ rr (.val (.ref a))) (hC : (a, lst vs k) ∈ C) (hr : RdAll gNil vs.toList (nd its))
    (hm : behindInMarks .In rr = false) : Tt prog w A r h₀ env C ρ (.Compare l [.In] [rr] pos) (decide (d ∈ its)) :=
  tt_cmp x y (fun u v s S hu hv => by
    cases hv
    have := (cmp_in (prog := prog) (w := w) (x := .int (d : Int)) R (nd_lay its) rfl de_int).go u (.ref a) s (hu.mono (vis_sub _)) (rd_own S hC hr)
    rw [nd_any] at this
    exact this) hm
end
noncomputable def StkC (a : Addr) (its : List Nat) (C : Own) : Prop := ∃ vs k, C = [(a, lst vs k)] ∧ RdAll gNil vs.toList (nd its)
theorem nd_snoc (its : List Nat) (k : Nat) : nd (its ++ [k]) = nd its ++ [.int (k : Int)] := by simp [nd]
theorem rdAll_snoc {h : Heap} {vs : Array Value} {ds : List PyData} {u : Value} {d : PyData} (R : RdAll h vs.toList ds) (hu : Rd h u d) : RdAll h (vs.push u).toList (ds ++ [d]) := by
  rw [Array.toList_push]; exact RdAll.append (.cons hu .nil) R
theorem rdAll_size {h : Heap} {vs : Array Value} {ds : List PyData} (R : RdAll h vs.toList ds) : vs.size = ds.length := by have := R.length; simpa using this
section
variable {w : World} {A : Around} {h : Heap} {mg mb : Str → Option Value} {st t a : Addr} {its : List Nat} {C : Own}
theorem fm_push (G : Gnd (Kf w) mg mb h) (R : Room A 1) (I : Inst h st 122 (mS t a)) (T : StkC a its C) (hz : its.length < 2 ^ 16) {k : Nat} :
    Fm PP w A h (.ref 42) [.val (.ref st), .dat (.int (k : Int))] C (fun C' d => d = .none ∧ StkC a (its ++ [k]) C') := by
  refine fm_def (names := ["self", "node"]) (as' := []) (more := []) (at_SPush w) G R (fun s us _ hl => ?_) (fun _ _ => trivial) (by decide) (by decide +kernel) (fun L => by kernel_rfl) fun s₀ h₁ L kh _ G R F => ?_
  · match us, hl with
    | [a, b], _ => exact BindsTo.of_eq (by kernel_rfl)
  obtain ⟨vs, n, rfl, rd⟩ := T
  have I₁ := I.mono kh
  have hs := rdAll_size rd
  have hsz : sizeLine ≥ 2 ^ 16 := by decide
  refine ex_exprM (mt_append (pre := []) (post := []) (b := .dat (.int (k : Int))) (P := fun C' d => d = .none ∧ StkC a (its ++ [k]) C') (by walk_at "ev") (by walk_at "ev") (by simp at hs; omega) (by rfl) (fun u h k' hu => ⟨rfl, _, k', rfl, ?_⟩) (by rfl)) (by rfl) (by rfl) fun C' d hP => ex_nil fun s S => ?_
  · rw [nd_snoc]
    exact rdAll_snoc rd (Rd.fl hu rfl)
  · obtain ⟨rfl, hP⟩ := hP
    refine ⟨C', .none, _, ⟨rfl, hP⟩, ?_, S, Rd.none⟩
    obtain ⟨vs', k', rfl, _⟩ := hP; rfl
theorem rdAll_eraseIdx {h : Heap} : ∀ {vs : List Value} {ds : List PyData} (j : Nat), RdAll h vs ds → RdAll h (vs.eraseIdx j) (ds.eraseIdx j)
  | _, _, _, .nil => by simpa using RdAll.nil
  | _, _, 0, .cons _ r => by simpa using r
  | _, _, j + 1, .cons a r => by simpa using RdAll.cons a (rdAll_eraseIdx j r)
theorem toList_eraseIf (vs : Array Value) (j : Nat) : (vs.eraseIdxIfInBounds j).toList = vs.toList.eraseIdx j := by
  unfold Array.eraseIdxIfInBounds
  split
  · simp
  · rename_i hj
    rw [List.eraseIdx_of_length_le (by simpa using hj)]
theorem nd_eraseIdx (its : List Nat) (j : Nat) : nd (its.eraseIdx j) = (nd its).eraseIdx j := by
  induction its generalizing j with
  | nil => rfl
  | cons a l ih =>
    cases j with
    | zero => rfl
    | succ j => simpa [nd] using ih j
theorem nd_at {its : List Nat} {vs : Array Value} (rd : RdAll gNil vs.toList (nd its)) {j : Nat} {v : Value} (h : vs[j]? = some v) : ∃ k t, its[j]? = some k ∧ v = .int (k : Int) t := by
  obtain ⟨d, hd, rv⟩ := rd.get' (k := j) (v := v) (by simpa using h)
  simp only [nd, List.getElem?_map, Option.map_eq_some_iff] at hd
  obtain ⟨k, hk, rfl⟩ := hd
  obtain ⟨t, rfl⟩ := rv.getInt
  exact ⟨k, t, hk, rfl⟩
noncomputable def evI : Value → Int
  | .int i _ => i
  | _ => 0
theorem fm_remove (G : Gnd (Kf w) mg mb h) (R : Room A 1) (I : Inst h st 122 (mS t a)) (T : StkC a its C) (hz : its.length < 2 ^ 16) {k : Nat} :
    Fm PP w A h (.ref 77) [.val (.ref st), .dat (.int (k : Int))] C (fun C' d => d = .none ∧ StkC a (its.erase k) C') := by
  refine fm_def (names := ["self", "node"]) (as' := []) (more := []) (at_SRemove w) G R (fun s us _ hl => ?_) (fun _ _ => trivial) (by decide) (by decide +kernel) (fun L => by kernel_rfl) fun s₀ h₁ L kh _ G R F => ?_
  · match us, hl with
    | [a, b], _ => exact BindsTo.of_eq (by kernel_rfl)
  obtain ⟨vs, n, rfl, rd⟩ := T
  have I₁ := I.mono kh
  have hs := rdAll_size rd
  have hsz : sizeLine ≥ 2 ^ 16 := by decide
  have fin : ∀ C', StkC a (its.erase k) C' → ∀ s ρ', St s₀ h₁ (callEnvC fdSRemove L 77) C' ρ' s → RetM s₀ h₁ (callEnvC fdSRemove L 77) [(a, lst vs n)] (fun C' d => d = .none ∧ StkC a (its.erase k) C') .next s := fun C' hP s ρ' S => by
    refine ⟨C', .none, _, ⟨rfl, hP⟩, ?_, S, Rd.none⟩
    obtain ⟨vs', k', rfl, _⟩ := hP; rfl
  refine ex_if (tt_inO (vs := vs) (k := n) (its := its) R (by walk_at "ev") (by walk_at "ev") (by simp) rd (by rfl)) (fun c => ?_) (fun c => ex_goE (ex_nil fun s S => fin _ ⟨vs, n, rfl, ?_⟩ s _ S))
  · have hk := of_decide_eq_true c
    have hlt : its.idxOf k < its.length := List.idxOf_lt_length_of_mem hk
    have hlt' : its.idxOf k < vs.size := by rw [hs]; simpa [nd] using hlt
    refine ex_exprM (mt_remove (pre := []) (post := []) (j := its.idxOf k) (P := fun C' d => d = .none ∧ StkC a (its.erase k) C') (by walk_at "ev") (by walk_at "ev") evI (fun y hy => ?_) hlt' ?_ (fun m hm hlt₂ => ?_) (by simp at hs; omega) (by rfl) (fun k' => ⟨rfl, _, k', rfl, ?_⟩) (by rfl)) (by rfl) (by rfl) fun C' d hP => ex_goE (ex_nil fun s S => ?_)
    · obtain ⟨j, hj, rfl⟩ := Array.getElem_of_mem hy
      obtain ⟨k', t', _, e⟩ := nd_at rd (j := j) (v := vs[j]) (by simp [hj])
      exact ⟨t', by rw [e]; rfl⟩
    · obtain ⟨k', t', hk', e⟩ := nd_at rd (j := its.idxOf k) (v := vs[its.idxOf k]) (by simp [hlt'])
      rw [e]
      have : its[its.idxOf k]? = some k := by rw [List.getElem?_eq_getElem hlt, List.getElem_idxOf]
      rw [this] at hk'; cases hk'; rfl
    · obtain ⟨k', t', hk', e⟩ := nd_at rd (j := m) (v := vs[m]) (by simp [hm])
      rw [e]
      intro q
      have q' : (k' : Int) = k := q
      have q'' : k' = k := by omega
      subst q''
      have := List.not_of_lt_findIdx (p := (· == k')) (xs := its) (i := m) hlt₂
      rw [List.getElem?_eq_some_iff] at hk'
      obtain ⟨_, e'⟩ := hk'
      rw [e'] at this; simp at this
    · rw [toList_eraseIf, List.erase_eq_eraseIdx_of_idxOf rfl, nd_eraseIdx]
      exact rdAll_eraseIdx _ rd
    · exact fin C' hP.2 s _ S
  · rw [List.erase_of_not_mem (of_decide_eq_false c)]
    exact rd
theorem nd_last {its : List Nat} {k : Nat} (h : its.getLast? = some k) : (nd its)[(nd its).length - 1]? = some (.int (k : Int)) := by
  rw [← List.getLast?_eq_getElem?, nd, List.getLast?_map, h]; rfl
theorem dropLast_eraseIdx {α : Type} (l : List α) : l.eraseIdx (l.length - 1) = l.dropLast := by
  induction l with
  | nil => rfl
  | cons a l ih =>
    cases l with
    | nil => rfl
    | cons b l => simpa using ih
theorem fm_pop (G : Gnd (Kf w) mg mb h) (R : Room A 1) (I : Inst h st 122 (mS t a)) (T : StkC a its C) (hz : its.length < 2 ^ 16) :
    Fm PP w A h (.ref 49) [.val (.ref st)] C (fun C' d => d = .int (lastN its) ∧ StkC a its.dropLast C') := by
  refine fm_def (names := ["self"]) (as' := []) (more := []) (at_SPop w) G R (fun s us _ hl => ?_) (fun _ _ => trivial) (by decide) (by decide +kernel) (fun L => by kernel_rfl) fun s₀ h₁ L kh _ G R F => ?_
  · match us, hl with
    | [a], _ => exact BindsTo.of_eq (by kernel_rfl)
  obtain ⟨vs, n, rfl, rd⟩ := T
  have I₁ := I.mono kh
  have hs := rdAll_size rd
  have hsz : sizeLine ≥ 2 ^ 16 := by decide
  have hlen : vs.size = its.length := by simpa [nd] using hs
  refine ex_if (tt_cmpd (ev_lenO (vs := vs) (k := n) F G (by rfl) (ns_len w) (by rfl) (by walk_at "ev") (by simp) (by omega)) (by walk_at "ev") (cmp_eq R rfl rfl) (by rfl)) (fun c => ?_) (fun c => ex_goE ?_)
  · rw [intE] at c
    have : its = [] := by
      have : (vs.size : Int) = 0 := by simpa using c
      exact List.length_eq_zero_iff.mp (by omega)
    subst this
    refine ex_ret (a := .dat (.int (-1))) (by walk_at "ev") fun u s S hu => ⟨_, .int (-1), _, ⟨rfl, vs, n, rfl, rd⟩, rfl, S, Rd.fl hu rfl⟩
  · rw [intE] at c
    have hne : its ≠ [] := fun e => by subst e; simp at hlen; simp [hlen] at c
    have hlast : its.getLast? = some (its.getLast hne) := List.getLast?_eq_some_getLast hne
    obtain ⟨y, hy, ry⟩ := rd.get (nd_last hlast)
    refine ex_retM (mt_pop (pre := []) (post := []) (y := y) (d := .int ((its.getLast hne : Nat) : Int)) (P := fun C' d => d = .int (lastN its) ∧ StkC a its.dropLast C') (by walk_at "ev") (by rw [← hs] at hy; simpa using hy) ry (by omega) (by rfl) (fun k' => ⟨by rw [lastN_some hlast], _, k', rfl, ?_⟩) (by rfl)) fun C' d u s hP S hu => ?_
    · rw [toList_eraseIf, hlen, ← dropLast_eraseIdx, nd_eraseIdx]
      exact rdAll_eraseIdx _ rd
    · refine ⟨C', d, _, hP, ?_, S, hu⟩
      obtain ⟨rfl, vs', k', rfl, _⟩ := hP; rfl
theorem rdAll_at {h : Heap} {vs : List Value} {ds : List PyData} {u : Value} {d : PyData} (R : RdAll h vs ds) (hu : Rd h u d) (p : Nat) : RdAll h (vs.take p ++ u :: vs.drop p) (ds.take p ++ d :: ds.drop p) :=
  RdAll.append (.cons hu (R.drop p)) (R.take p)
theorem fm_putAt (G : Gnd (Kf w) mg mb h) (R : Room A 1) (I : Inst h st 122 (mS t a)) (T : StkC a its C) (hz : its.length < 2 ^ 16) {k p : Nat} (hp : p ≤ its.length) :
    Fm PP w A h (.ref 91) [.val (.ref st), .dat (.int (p : Int)), .dat (.int (k : Int))] C (fun C' d => d = .none ∧ StkC a (its.take p ++ k :: its.drop p) C') := by
  refine fm_def (names := ["self", "place", "node"]) (as' := []) (more := []) (at_SPutAt w) G R (fun s us _ hl => ?_) (fun _ _ => trivial) (by decide) (by decide +kernel) (fun L => by kernel_rfl) fun s₀ h₁ L kh _ G R F => ?_
  · match us, hl with
    | [a, b, c], _ => exact BindsTo.of_eq (by kernel_rfl)
  obtain ⟨vs, n, rfl, rd⟩ := T
  have I₁ := I.mono kh
  have hs := rdAll_size rd
  have hsz : sizeLine ≥ 2 ^ 16 := by decide
  have hlen : vs.size = its.length := by simpa [nd] using hs
  refine ex_exprM (mt_insert (pre := []) (post := []) (i := (p : Int)) (b := .dat (.int (k : Int))) (P := fun C' d => d = .none ∧ StkC a (its.take p ++ k :: its.drop p) C') (by walk_at "ev") (by walk_at "ev") (by walk_at "ev") ?_ (by omega) (by omega) (by rfl) (fun u h k' hu => ⟨rfl, _, k', rfl, ?_⟩) (by rfl)) (by rfl) (by rfl) fun C' d hP => ex_nil fun s S => ?_
  · unfold Builtin.List.listFitsIndex; simp; omega
  · have e : min ((p : Int)).toNat vs.size = p := by rw [hlen]; simp; omega
    rw [e]
    have := rdAll_at rd (Rd.fl hu rfl) p
    simp only [nd, List.map_append, List.map_cons, List.map_take, List.map_drop]
    have e2 : (vs.toList.drop p).take (vs.size - p) = vs.toList.drop p := List.take_of_length_le (by simp)
    simpa [e2] using this
  · obtain ⟨rfl, hP⟩ := hP
    refine ⟨C', .none, _, ⟨rfl, hP⟩, ?_, S, Rd.none⟩
    obtain ⟨vs', k', rfl, _⟩ := hP; rfl
end
end

section
local macro_rules | `(tactic| walk_at "notin") => `(tactic| (simp only [List.cons_append, List.nil_append, List.map_cons, List.map_nil]; decide +kernel))
theorem mk_S (w : World) : ClsMake (Kf w) 122 35 := ⟨by kernel_rfl, by kernel_rfl, by kernel_rfl⟩
theorem mk_T (w : World) : ClsMake (Kf w) 294 195 := ⟨by kernel_rfl, by kernel_rfl, by kernel_rfl⟩
theorem set_tree (w : World) : ClsSet (Kf w) 122 "tree" := ⟨by kernel_rfl, by kernel_rfl, by kernel_rfl, by kernel_rfl⟩
theorem set_items (w : World) : ClsSet (Kf w) 122 "items" := ⟨by kernel_rfl, by kernel_rfl, by kernel_rfl, by kernel_rfl⟩
theorem set_kinds (w : World) : ClsSet (Kf w) 294 "kinds" := ⟨by kernel_rfl, by kernel_rfl, by kernel_rfl, by kernel_rfl⟩
theorem set_spaces (w : World) : ClsSet (Kf w) 294 "spaces" := ⟨by kernel_rfl, by kernel_rfl, by kernel_rfl, by kernel_rfl⟩
theorem set_names (w : World) : ClsSet (Kf w) 294 "names" := ⟨by kernel_rfl, by kernel_rfl, by kernel_rfl, by kernel_rfl⟩
theorem set_attrs (w : World) : ClsSet (Kf w) 294 "attrs" := ⟨by kernel_rfl, by kernel_rfl, by kernel_rfl, by kernel_rfl⟩
theorem set_texts (w : World) : ClsSet (Kf w) 294 "texts" := ⟨by kernel_rfl, by kernel_rfl, by kernel_rfl, by kernel_rfl⟩
theorem set_parents (w : World) : ClsSet (Kf w) 294 "parents" := ⟨by kernel_rfl, by kernel_rfl, by kernel_rfl, by kernel_rfl⟩
theorem set_children (w : World) : ClsSet (Kf w) 294 "children" := ⟨by kernel_rfl, by kernel_rfl, by kernel_rfl, by kernel_rfl⟩
theorem set_contents (w : World) : ClsSet (Kf w) 294 "contents" := ⟨by kernel_rfl, by kernel_rfl, by kernel_rfl, by kernel_rfl⟩
theorem kp_S (w : World) : keepIn (Kf w) (.ref 122) = true := by kernel_rfl
theorem kp_T (w : World) : keepIn (Kf w) (.ref 294) = true := by kernel_rfl

/-- an object of a class, whose dict is known -/
theorem inst_of {h : Heap} {x dx Cc : Addr} {es : List DictEntry} {k : Nat} {l : List (Str × Value)} (h1 : h.get? x = some (instObj Cc dx)) (h2 : h.get? dx = some (dictOf es k)) (E : EnOk es l) : Inst h x Cc fun name => l.lookup name :=
  ⟨_, _, ⟨h1, rfl, rfl, h2⟩, fun name => by rw [lookIn_dict, E.get]⟩
theorem Inst.congr {h : Heap} {x Cc : Addr} {m m' : Str → Option Value} (I : Inst h x Cc m) (e : ∀ n, m n = m' n) : Inst h x Cc m' := funext e ▸ I

noncomputable def StkNew (t x : Addr) (Cn : Own) : Prop := ∃ a dx es k, Cn = [(a, lst #[] 0), (x, instObj 122 dx), (dx, dictOf es k)] ∧ EnOk es [("tree", .ref t), ("items", .ref a)]
section
variable {w : World} {A : Around} {h : Heap} {mg mb : Str → Option Value} {st t a : Addr} {its : List Nat} {C : Own}
theorem fc_stack (G : Gnd (Kf w) mg mb h) (R : Room A 2) : Fc PP w A h (.ref 122) [.val (.ref t)] (StkNew t) := by
  refine fc_def (names := ["self", "tree"]) (at_SInit w) (mk_S w) G R (fun s u us _ hl => ?_) (by decide) (by decide +kernel) (fun L => by kernel_rfl) fun A' s₀ h₁ L x dx kh J G R F => ?_
  · match us, hl with
    | [b], _ => exact BindsTo.of_eq (by kernel_rfl)
  have V : Vals (rhoOf ["self", "tree"] [.val (.ref x), .val (.ref t)]) := by
    intro y b hy
    unfold rhoOf at hy
    simp only [List.zip_cons_cons, List.lookup_cons] at hy
    split at hy
    · cases hy; exact ⟨_, rfl⟩
    · split at hy
      · cases hy; exact ⟨_, rfl⟩
      · simp at hy
  refine ex_setattr (pre := [(x, instObj 122 dx)]) (post := []) (l := []) J V G (by walk_at "ev") (by walk_at "ev") (by simp) (set_tree w) .nil (by simp) (by simp) (by rfl) fun es k E => ?_
  refine ex_setattrL (pre := [(x, instObj 122 dx)]) (post := []) J V G (fun C => by walk_at "ev") (by rfl) (by simp) (set_items w) E (by walk_at "notin") (by simp) (by rfl) fun a es' k' E' => ?_
  refine ex_nil fun s S => ⟨rfl, [], _, h₁, _, ⟨a, dx, es', k', rfl, E'⟩, (fun p hp => nomatch hp), by simp, Sub.refl, S⟩
end
end

section
local macro_rules | `(tactic| walk_at "cls") => `(tactic| first | exact free_kinds _ | exact free_attrs _ | exact free_texts _ | exact free_parents _ | exact free_children _ | exact free_contents _ | exact meth_TAdd _)
structure TAd where
  ct : Addr
  ch : Addr
  pa : Addr
  tx : Addr
  at_ : Addr
  nm : Addr
  sp : Addr
  ki : Addr
noncomputable def mT (ad : TAd) : Str → Option Value := fun x => List.lookup x [("kinds", Value.ref ad.ki), ("spaces", .ref ad.sp), ("names", .ref ad.nm), ("attrs", .ref ad.at_), ("texts", .ref ad.tx), ("parents", .ref ad.pa), ("children", .ref ad.ch), ("contents", .ref ad.ct)]
noncomputable abbrev intK (w : World) : KeyKind PP w Int := intKind PP w
noncomputable def TreeC (w : World) (ad : TAd) (N m : Nat) (sp nm : List Str) (C : Own) : Prop := ∃ oc v1 k1 v2 k2 v3 k3 v4 k4 v5 k5 v6 k6 v7 k7 kvs,
  C = [(ad.ct, oc), (ad.ch, lst v1 k1), (ad.pa, lst v2 k2), (ad.tx, lst v3 k3), (ad.at_, lst v4 k4), (ad.nm, lst v5 k5), (ad.sp, lst v6 k6), (ad.ki, lst v7 k7)] ∧
  v1.size = N ∧ v2.size = N ∧ v3.size = N ∧ v4.size = N ∧ v7.size = N ∧ RdAll gNil v5.toList (sd nm) ∧ RdAll gNil v6.toList (sd sp) ∧ ObjDict (intK w) oc kvs ∧ kvs.length ≤ m
section
variable {w : World} {A : Around} {h : Heap} {mg mb : Str → Option Value} {t : Addr} {ad : TAd} {N m : Nat} {sp nm : List Str} {C : Own}
theorem rd_attrs {h : Heap} (X : (Kf w).In h) {v : Addr} (e : (Kf w).lookup v = some ⟨.type "tuple", none, .seq #[] 0, #[]⟩) : Rd h (.ref v) (.tuple []) := .tuple (X _ _ e) .nil
set_option maxHeartbeats 400000
theorem fm_add (G : Gnd (Kf w) mg mb h) (R : Room A 1) (I : Inst h t 294 (mT ad)) (T : TreeC w ad N m sp nm C) (hN : N < 2 ^ 16) (hsp : sp.length = N) (hnm : nm.length = N) {kind S M text : Str} {args as' : List Ab} {more : List Value}
    (ha : args ++ as' = [.val (.ref t), .dat (.str kind), .dat (.str S), .dat (.str M), .dat (.tuple []), .dat (.str text)]) (hm : ∀ hp, Sub h hp → AllOf hp more as')
    (hb : ∀ s us, Sub h s.heap → us.length = args.length → BindsTo s fdTAdd ⟨us, []⟩ ((["self", "kind", "space", "name", "attrs", "text"] : List Str).zip (us ++ more))) :
    Fm PP w A h (.ref 204) args C (fun C' d => d = .int (N : Int) ∧ TreeC w ad (N + 1) m (sp ++ [S]) (nm ++ [M]) C') := by
  refine fm_def (names := ["self", "kind", "space", "name", "attrs", "text"]) (as' := as') (more := more) (at_TAdd w) G R hb hm (by decide) (by decide +kernel) (fun L => by kernel_rfl) fun s₀ h₁ L kh _ G R F => ?_
  rw [ha]
  obtain ⟨oc, v1, k1, v2, k2, v3, k3, v4, k4, v5, k5, v6, k6, v7, k7, kvs, rfl, e1, e2, e3, e4, e7, r5, r6, hd, hkv⟩ := T
  have I₁ := I.mono kh
  have hsz : sizeLine ≥ 2 ^ 16 := by decide
  have s5 := rdAll_size r5
  have s6 := rdAll_size r6
  simp only [List.length_map] at s5 s6
  refine ex_appendAt 7 (b := .dat (.str kind)) rfl (by walk_at "ev") (by walk_at "ev") (by omega) (by rfl) (by rfl) (by rfl) (by rfl) fun u7 _ q7 hu7 => ?_
  dsimp only [List.set]
  refine ex_appendAt 6 (b := .dat (.str S)) rfl (by walk_at "ev") (by walk_at "ev") (by omega) (by rfl) (by rfl) (by rfl) (by rfl) fun u6 _ q6 hu6 => ?_
  dsimp only [List.set]
  refine ex_appendAt 5 (b := .dat (.str M)) rfl (by walk_at "ev") (by walk_at "ev") (by omega) (by rfl) (by rfl) (by rfl) (by rfl) fun u5 _ q5 hu5 => ?_
  dsimp only [List.set]
  refine ex_appendAt 4 (b := .dat (.list [])) rfl (by walk_at "ev") (ev_callB F G (by rfl) (ns_list w) (show bootBuiltins "list" = some (.type "list") by kernel_rfl) (by decide +kernel) (fun _ => by simp) (by decide +kernel) (by rfl) (evl_cons (a := .dat (.tuple [])) (by walk_at "ev") evl_nil) fun s S => fn_listT) (by omega) (by rfl) (by rfl) (by rfl) (by rfl) fun u4 _ q4 hu4 => ?_
  dsimp only [List.set]
  refine ex_appendAt 3 (b := .dat (.str text)) rfl (by walk_at "ev") (by walk_at "ev") (by omega) (by rfl) (by rfl) (by rfl) (by rfl) fun u3 _ q3 hu3 => ?_
  dsimp only [List.set]
  refine ex_appendAt 2 (b := .dat (.int (-1))) rfl (by walk_at "ev") (by walk_at "ev") (by omega) (by rfl) (by rfl) (by rfl) (by rfl) fun u2 _ q2 hu2 => ?_
  dsimp only [List.set]
  refine ex_appendAt 1 (b := .dat (.list [])) rfl (by walk_at "ev") (by walk_at "ev") (by omega) (by rfl) (by rfl) (by rfl) (by rfl) fun u1 _ q1 hu1 => ?_
  dsimp only [List.set]
  refine ex_ret (a := .dat (.int ((v7.push u7).size - 1 : Int))) (ev_sub (ev_lenO (vs := v7.push u7) (k := q7) F G (by rfl) (ns_len w) (by rfl) (by walk_at "ev") (by simp) (by rw [Array.size_push]; omega)) (by walk_at "ev")) fun u s S hu => ?_
  refine ⟨_, .int (N : Int), _, ⟨rfl, oc, v1.push u1, q1, v2.push u2, q2, v3.push u3, q3, v4.push u4, q4, v5.push u5, q5, v6.push u6, q6, v7.push u7, q7, kvs, rfl, by simp [e1], by simp [e2], by simp [e3], by simp [e4], by simp [e7], ?_, ?_, hd, hkv⟩, rfl, S, ?_⟩
  · rw [sd, List.map_append]; exact rdAll_snoc r5 (Rd.fl hu5 rfl)
  · rw [sd, List.map_append]; exact rdAll_snoc r6 (Rd.fl hu6 rfl)
  · have e : ((v7.push u7).size - 1 : Int) = (N : Int) := by rw [Array.size_push, e7]; omega
    rw [e] at hu
    exact Rd.fl hu rfl
end
end

section
local macro_rules | `(tactic| walk_at "notin") => `(tactic| (simp only [List.cons_append, List.nil_append, List.map_cons, List.map_nil]; decide +kernel))
local macro_rules | `(tactic| walk_at "cls") => `(tactic| first | exact free_kinds _ | exact free_attrs _ | exact free_texts _ | exact free_parents _ | exact free_children _ | exact free_contents _ | exact meth_TAdd _ | exact meth_TElement _)
theorem at_197 (w : World) : (Kf w).lookup 197 = some ⟨.type "tuple", none, .seq #[.str "" 424, .str "" 425, .ref 196, .str "" 426] 0, #[]⟩ := by kernel_rfl
theorem at_196 (w : World) : (Kf w).lookup 196 = some ⟨.type "tuple", none, .seq #[] 0, #[]⟩ := by kernel_rfl
theorem at_206 (w : World) : (Kf w).lookup 206 = some ⟨.type "tuple", none, .seq #[.str "html" 439, .ref 205] 0, #[]⟩ := by kernel_rfl
theorem at_205 (w : World) : (Kf w).lookup 205 = some ⟨.type "tuple", none, .seq #[] 0, #[]⟩ := by kernel_rfl
noncomputable def TreeNew (w : World) (x : Addr) (Cn : Own) : Prop := ∃ ad dx es k C', Cn = (x, instObj 294 dx) :: (dx, dictOf es k) :: C' ∧ EnOk es [("kinds", .ref ad.ki), ("spaces", .ref ad.sp), ("names", .ref ad.nm), ("attrs", .ref ad.at_), ("texts", .ref ad.tx), ("parents", .ref ad.pa), ("children", .ref ad.ch), ("contents", .ref ad.ct)] ∧
  TreeC w ad 1 0 [""] [""] C'
section
variable {w : World} {A : Around} {h : Heap} {mg mb : Str → Option Value} {t : Addr} {ad : TAd} {N m : Nat} {sp nm : List Str} {C : Own}
theorem fm_add1 (G : Gnd (Kf w) mg mb h) (R : Room A 1) (I : Inst h t 294 (mT ad)) (T : TreeC w ad N m sp nm C) (hN : N < 2 ^ 16) (hsp : sp.length = N) (hnm : nm.length = N) {kind : Str} :
    Fm PP w A h (.ref 204) [.val (.ref t), .dat (.str kind)] C (fun C' d => d = .int (N : Int) ∧ TreeC w ad (N + 1) m (sp ++ [("" : Str)]) (nm ++ [("" : Str)]) C') :=
  fm_add (args := [.val (.ref t), .dat (.str kind)]) (as' := [.dat (.str ""), .dat (.str ""), .dat (.tuple []), .dat (.str "")]) (more := [.str "" 424, .str "" 425, .ref 196, .str "" 426]) G R I T hN hsp hnm rfl
    (fun hp k => ⟨Rd.str _ _, Rd.str _ _, rd_attrs (G.mono k).X (at_196 w), Rd.str _ _, trivial⟩) fun s us k hl => by
      match us, hl with
      | [a, b], _ => exact binds_K (G.mono k).X (by kernel_rfl) (at_197 w) rfl rfl rfl
theorem fm_add4 (G : Gnd (Kf w) mg mb h) (R : Room A 1) (I : Inst h t 294 (mT ad)) (T : TreeC w ad N m sp nm C) (hN : N < 2 ^ 16) (hsp : sp.length = N) (hnm : nm.length = N) {kind S M : Str} :
    Fm PP w A h (.ref 204) [.val (.ref t), .dat (.str kind), .dat (.str S), .dat (.str M), .dat (.tuple [])] C (fun C' d => d = .int (N : Int) ∧ TreeC w ad (N + 1) m (sp ++ [S]) (nm ++ [M]) C') :=
  fm_add (args := [.val (.ref t), .dat (.str kind), .dat (.str S), .dat (.str M), .dat (.tuple [])]) (as' := [.dat (.str "")]) (more := [.str "" 426]) G R I T hN hsp hnm rfl
    (fun hp k => ⟨Rd.str _ _, trivial⟩) fun s us k hl => by
      match us, hl with
      | [a, b, c, d, e], _ => exact binds_K (G.mono k).X (by kernel_rfl) (at_197 w) rfl rfl rfl
theorem fc_tree (G : Gnd (Kf w) mg mb h) (R : Room A 3) : Fc PP w A h (.ref 294) [] (TreeNew w) := by
  refine fc_def (names := ["self"]) (at_TInit w) (mk_T w) G R (fun s u us _ hl => ?_) (by decide) (by decide +kernel) (fun L => by kernel_rfl) fun A' s₀ h₁ L x dx kh J G R F => ?_
  · match us, hl with
    | [], _ => exact BindsTo.of_eq (by kernel_rfl)
  have V : Vals (rhoOf ["self"] [.val (.ref x)]) := by
    intro y b hy
    unfold rhoOf at hy
    simp only [List.zip_cons_cons, List.lookup_cons] at hy
    split at hy
    · cases hy; exact ⟨_, rfl⟩
    · simp at hy
  refine ex_setattrL (pre := [(x, instObj 294 dx)]) (post := []) (l := []) J V G (fun C => by walk_at "ev") (by rfl) (by simp) (set_kinds w) .nil (by walk_at "notin") (by simp) (by rfl) fun ki es k E => ?_
  refine ex_setattrL (post := []) J V G (fun C => by walk_at "ev") (by rfl) (by simp) (set_spaces w) E (by walk_at "notin") (by simp) (by rfl) fun sp es k E => ?_
  refine ex_setattrL (post := []) J V G (fun C => by walk_at "ev") (by rfl) (by simp) (set_names w) E (by walk_at "notin") (by simp) (by rfl) fun nm es k E => ?_
  refine ex_setattrL (post := []) J V G (fun C => by walk_at "ev") (by rfl) (by simp) (set_attrs w) E (by walk_at "notin") (by simp) (by rfl) fun at_ es k E => ?_
  refine ex_setattrL (post := []) J V G (fun C => by walk_at "ev") (by rfl) (by simp) (set_texts w) E (by walk_at "notin") (by simp) (by rfl) fun tx es k E => ?_
  refine ex_setattrL (post := []) J V G (fun C => by walk_at "ev") (by rfl) (by simp) (set_parents w) E (by walk_at "notin") (by simp) (by rfl) fun pa es k E => ?_
  refine ex_setattrL (post := []) J V G (fun C => by walk_at "ev") (by rfl) (by simp) (set_children w) E (by walk_at "notin") (by simp) (by rfl) fun ch es k E => ?_
  refine ex_setattrD (post := []) J V G (fun C => by walk_at "ev") (by simp) (set_contents w) E (by walk_at "notin") (by simp) (by rfl) fun ct es k E => ?_
  refine ex_freeze (pre := [(ct, dct0), (ch, lst #[] 0), (pa, lst #[] 0), (tx, lst #[] 0), (at_, lst #[] 0), (nm, lst #[] 0), (sp, lst #[] 0), (ki, lst #[] 0)]) (C₁ := [(x, instObj 294 dx), (dx, dictOf es k)]) (post := []) fun h₂ k₂ hf hn hnd => ?_
  have i1 := hf (x, instObj 294 dx) (by simp)
  have i2 := hf (dx, dictOf es k) (by simp)
  have hn1 := hn (x, instObj 294 dx) (by simp)
  have hn2 := hn (dx, dictOf es k) (by simp)
  have I : Inst h₂ x 294 (mT ⟨ct, ch, pa, tx, at_, nm, sp, ki⟩) := inst_of i1 i2 E
  have T : TreeC w ⟨ct, ch, pa, tx, at_, nm, sp, ki⟩ 0 0 [] [] [(ct, dct0), (ch, lst #[] 0), (pa, lst #[] 0), (tx, lst #[] 0), (at_, lst #[] 0), (nm, lst #[] 0), (sp, lst #[] 0), (ki, lst #[] 0)] :=
    ⟨dct0, #[], 0, #[], 0, #[], 0, #[], 0, #[], 0, #[], 0, #[], 0, [], rfl, rfl, rfl, rfl, rfl, rfl, .nil, .nil, ObjDict.new _, by simp⟩
  have G₂ := G.mono k₂
  have hadd := fm_add1 (kind := "document") G₂ R I T (by decide) rfl rfl
  refine ex_exprM (mt_meth0 [] [] (by simp) G₂ (by walk_at "ev") I (meth_TAdd w) (by rfl) (by rfl) (by walk_at "evl") hadd (by rfl)) (by rfl) (by rfl) fun C' d hP => ex_nil fun s S => ?_
  obtain ⟨C₂, rfl, rfl, T₂⟩ := hP
  simp only [List.nil_append, List.append_nil] at S
  refine ⟨rfl, [(x, instObj 294 dx), (dx, dictOf es k)], C₂, h₂, _, ⟨⟨ct, ch, pa, tx, at_, nm, sp, ki⟩, dx, es, k, C₂, rfl, E, T₂⟩, fun p hp => ?_, ?_, k₂, S⟩
  · rcases List.mem_cons.mp hp with rfl | hp
    · exact ⟨i1, hn1⟩
    · rcases List.mem_cons.mp hp with rfl | hp
      · exact ⟨i2, hn2⟩
      · cases hp
  · exact hnd
end
end

section
local macro_rules | `(tactic| walk_at "cls") => `(tactic| first | exact free_kinds _ | exact free_attrs _ | exact free_texts _ | exact free_parents _ | exact free_children _ | exact free_contents _ | exact meth_TAdd _ | exact meth_TElement _)
noncomputable def tmpl (S M : Str) : Bool := S == "html" && M == "template"
noncomputable def extS (S M : Str) : List Str := if tmpl S M then [S, ""] else [S]
noncomputable def extN (S M : Str) : List Str := if tmpl S M then [M, ""] else [M]
section
variable {w : World} {A : Around} {h : Heap} {mg mb : Str → Option Value} {t : Addr} {ad : TAd} {N m : Nat} {sp nm : List Str} {C : Own}
theorem TreeC.adr (T : TreeC w ad N m sp nm C) : C.map (·.1) = [ad.ct, ad.ch, ad.pa, ad.tx, ad.at_, ad.nm, ad.sp, ad.ki] := by
  obtain ⟨oc, v1, k1, v2, k2, v3, k3, v4, k4, v5, k5, v6, k6, v7, k7, kvs, rfl, _⟩ := T; rfl
theorem TreeC.more (T : TreeC w ad N m sp nm C) : TreeC w ad N (m + 1) sp nm C := by
  obtain ⟨oc, v1, k1, v2, k2, v3, k3, v4, k4, v5, k5, v6, k6, v7, k7, kvs, e, e1, e2, e3, e4, e7, r5, r6, hd, hkv⟩ := T
  exact ⟨oc, v1, k1, v2, k2, v3, k3, v4, k4, v5, k5, v6, k6, v7, k7, kvs, e, e1, e2, e3, e4, e7, r5, r6, hd, by omega⟩
theorem fm_element (G : Gnd (Kf w) mg mb h) (R : Room A 2) (I : Inst h t 294 (mT ad)) (T : TreeC w ad N m sp nm C) (hN : N < 2 ^ 15) (hmx : m ≤ sizeLine) (hsp : sp.length = N) (hnm : nm.length = N) {S M : Str} (oS : PyData.strOk S = true) (oM : PyData.strOk M = true) :
    Fm PP w A h (.ref 213) [.val (.ref t), .dat (.str M), .dat (.str S)] C (fun C' d => d = .int (N : Int) ∧ TreeC w ad (N + (extS S M).length) (m + 1) (sp ++ extS S M) (nm ++ extN S M) C') := by
  refine fm_def (names := ["self", "name", "space", "attrs"]) (as' := [.dat (.tuple [])]) (more := [.ref 205]) (at_TElement w) G R (fun s us k hl => ?_) (fun hp k => ⟨rd_attrs (G.mono k).X (at_205 w), trivial⟩) (by decide) (by decide +kernel) (fun L => by kernel_rfl) fun s₀ h₁ L kh _ G R F => ?_
  · match us, hl with
    | [a, b, c], _ => exact binds_K (G.mono k).X (by kernel_rfl) (at_206 w) rfl rfl rfl
  have I₁ := I.mono kh
  have hadd := fm_add4 (kind := "element") (S := S) (M := M) G R I₁ T (by omega) hsp hnm
  refine ex_assignM F (.inl (by rfl)) (mt_meth0 [] [] (by simp) G (by walk_at "ev") I₁ (meth_TAdd w) (by rfl) (by rfl) (by walk_at "evl") hadd (by rfl)) (by rfl) fun C' d hP => ?_
  obtain ⟨C₂, rfl, rfl, T₂⟩ := hP
  simp only [List.nil_append, List.append_nil]
  refine ex_if (Tt.eq (b := tmpl S M) (tt_bool (ta_and (by walk_at "tt") fun _ => ta_and (by walk_at "tt") fun _ => ta_andN)) (by rw [strE, strE, Bool.and_true]; rfl)) (fun c => ?_) (fun c => ex_goE ?_)
  · have hadd2 := fm_add1 (kind := "fragment") G R I₁ T₂ (by omega) (by simp [hsp]) (by simp [hnm])
    refine ex_setitemM 0 (knd := intK w) (d := ad.ct) (key := (N : Int)) (kd := .int (N : Int)) (mt_meth0 [] [] (by simp) G (by walk_at "ev") I₁ (meth_TAdd w) (by rfl) (by rfl) (by walk_at "evl") hadd2 (by rfl))
      (fun C' dv hP => by walk_at "ev") (fun C' dv hP => by walk_at "ev") (fun u hu => ?_) rfl (mx := m) hmx (fun C' dv hP => ?_) (by rfl) fun C' dv od kvs od' u hP hC hD hz hu hO => ex_goE ?_
    · obtain ⟨t', rfl⟩ := hu.getInt
      exact intKind_is _ _ _ _
    · obtain ⟨C₃, rfl, rfl, T₃⟩ := hP
      obtain ⟨oc, v1, k1, v2, k2, v3, k3, v4, k4, v5, k5, v6, k6, v7, k7, kvs, rfl, e1, e2, e3, e4, e7, r5, r6, hd, hkv⟩ := T₃
      exact ⟨oc, kvs, rfl, hd, hkv⟩
    · obtain ⟨C₃, rfl, rfl, T₃⟩ := hP
      obtain ⟨oc, v1, k1, v2, k2, v3, k3, v4, k4, v5, k5, v6, k6, v7, k7, kvs₀, rfl, e1, e2, e3, e4, e7, r5, r6, hd, hkv⟩ := T₃
      simp only [List.nil_append, List.append_nil, List.getElem?_cons_zero, Option.some.injEq, Prod.mk.injEq, true_and] at hC
      subst hC
      refine ex_ret (a := .dat (.int (N : Int))) (by walk_at "ev") fun u' s S hu' => ?_
      simp only [List.nil_append, List.append_nil, List.set_cons_zero] at S
      refine ⟨_, .int (N : Int), _, ⟨rfl, od', v1, k1, v2, k2, v3, k3, v4, k4, v5, k5, v6, k6, v7, k7, _, rfl, ?_, ?_, ?_, ?_, ?_, ?_, ?_, hO, ?_⟩, T.adr.symm, S, Rd.fl hu' rfl⟩
      · simp [extS, c, e1]
      · simp [extS, c, e2]
      · simp [extS, c, e3]
      · simp [extS, c, e4]
      · simp [extS, c, e7]
      · simpa [extN, c] using r5
      · simpa [extS, c] using r6
      · have := stored_length_le kvs (N : Int) u
        omega
  · refine ex_ret (a := .dat (.int (N : Int))) (by walk_at "ev") fun u s S hu => ?_
    refine ⟨C₂, .int (N : Int), _, ⟨rfl, TreeC.more (by simpa [extS, extN, c] using T₂)⟩, ?_, S, Rd.fl hu rfl⟩
    rw [T₂.adr, T.adr]
end
end

section
section
variable {prog : Program} {w : World} {A : Around} {r : Shared} {h₀ : Heap} {env : Env} {C : Own} {ρ : Rho} {s : Shared}
open PySem.Builtin PySem.Builtin.Str in
theorem call_split0N {x : Str} {t : Tok} (hsz : x.length + 2 ≤ sizeLine) :
    wpAny (model prog w) A (call (.builtin "str.split") [.str x t]) (fun u s' => Keeps s s' ∧ ∃ vs, u = .ref s.heap.objs.size ∧ s'.heap.get? s.heap.objs.size = some (lst vs 0) ∧ RdAll gNil vs.toList ((Txt.words x).map .str)) (fun _ _ => False) s := by
  have hn : (spaceWords x (x.length + 1)).length ≤ sizeLine := by
    have e1 := (StrLaws.sw_weight x).1
    have e2 := StrLaws.len_le_wsum (spaceWords x (x.length + 1))
    omega
  have fin : ∀ (l : List (Str × Tok)) (k : Nat), l.map (·.1) = Txt.words x → Keeps s { s with heap := s.heap.push { cls := .type "list", data := .seq (strValues l).toArray }, toks := k } ∧
      ∃ vs, Value.ref s.heap.objs.size = .ref s.heap.objs.size ∧ (s.heap.push { cls := .type "list", data := .seq (strValues l).toArray }).get? s.heap.objs.size = some (lst vs 0) ∧ RdAll gNil vs.toList ((Txt.words x).map .str) := fun l k e =>
    ⟨kp_to (Sub.push _ _), _, rfl, Heap.get?_push_size _ rfl, by rw [← e]; simpa using RdAll.strsV _ l⟩
  refine call_meets PySem.F.slot_str_split (typeIs_str _ _ _) PySem.F.entry_str_split (PySem.F.args_str_split_1 _) (meets_str_split_space x t (by omega) hn) ?_
  cases hw : spaceWords x (x.length + 1) == [(0, x.length)] with
  | false =>
    simp only [Bool.false_eq_true, if_false]
    rw [strsFrom_eq]
    exact fin (numbered s.toks (PySem.wordsOf x)) _ ((numbered_texts _ _).trans (if_neg (ne_true_of_eq_false hw)).symm)
  | true =>
    simp only [if_true]
    exact fin [(x, t)] s.toks (if_pos hw).symm
theorem ex_retSplit0 {o : Expr} {apos pos p2 : Pos} {x : Str} {pl : Sem Bool} {rest : List Stmt} {Q : Flow → Shared → Prop} {res : List Str} (ho : Ev prog w A r r.heap env C ρ o (.dat (.str x))) (hsz : x.length + 2 ≤ sizeLine) (hst : starEach [] env = plainArgs [] env)
    (he : eval (.Call (.Attribute o "split" apos) [] [] pos) env = (do
      let ov ← eval o env
      standAt apos.atName
      let (f, first) ← holding [ov] (getMethod ov "split" pl)
      callWith pos f first (backTo pos (starEach [] env)) (backToKw pos (keywordEach [] env))))
    (hres : Txt.words x = res) (hQ : ∀ u s, RetQ r (.dat (.list (res.map .str))) (.ret u) s → Q (.ret u) s) :
    Ex prog w A r r.heap env C ρ (.Return (some (.Call (.Attribute o "split" apos) [] [] pos)) p2 :: rest) Q := .mk fun s S => by
  subst hres
  refine wpAny_execs_cons (wpAny_Return_some (bmethW (id := "str.split") ho (fun u s Q S hu hQ => by
    obtain ⟨t, rfl⟩ := Rd.getStr hu
    exact GM.split hQ) hst evl_nil S (fun u us s' _ S' hu hus => ?_) he))
  match us, hus with
  | [], hus =>
    obtain ⟨t, rfl⟩ := Rd.getStr hu
    refine wpAny_mono (call_split0N hsz) (fun u s₂ h => ?_) fun _ _ f => f.elim
    obtain ⟨k, vs, rfl, e, R⟩ := h
    have S₂ := S'.keeps k
    refine hQ _ _ ⟨S₂.kp, RdN.newList ?_ e R⟩
    have := size_none s'.heap
    cases q : r.heap.get? s'.heap.objs.size with
    | none => rfl
    | some o => rw [kp_sub S'.kp _ _ q] at this; cases this
end
theorem lenA (a b : Str) : (a ++ b).length = a.length + b.length := by
  show (a ++ b).cps.size = _
  rw [Str.cps_append, Array.size_append]; rfl
theorem step_from (ws : List Str) (r : Str) (c : Nat) : KWd.step (ws, r) c = (ws ++ (KWd.step ([], r) c).1, (KWd.step ([], r) c).2) := by
  unfold KWd.step
  dsimp only
  split
  · split <;> simp
  · simp
theorem scan_from (ws : List Str) (r : Str) (l : List Nat) : l.foldl KWd.step (ws, r) = (ws ++ (l.foldl KWd.step ([], r)).1, (l.foldl KWd.step ([], r)).2) := by
  induction l generalizing ws r with
  | nil => simp
  | cons c l ih =>
    rw [List.foldl_cons, List.foldl_cons, step_from ws r c]
    obtain ⟨vs, q⟩ := KWd.step ([], r) c
    rw [ih (ws ++ vs) q, ih vs q]
    simp
theorem scan_app {a b : Str} {ws : List Str} (h : KWd.scan a = (ws, Str.empty)) : KWd.scan (a ++ b) = (ws ++ (KWd.scan b).1, (KWd.scan b).2) := by
  unfold KWd.scan at *
  rw [Str.cps_append, Array.toList_append, List.foldl_append, h]
  exact scan_from ws Str.empty _
theorem scan_app' {a b : Str} {ws vs : List Str} {r : Str} (h : KWd.scan a = (ws, Str.empty)) (h' : KWd.scan b = (vs, r)) : KWd.scan (a ++ b) = (ws ++ vs, r) := by
  rw [scan_app h, h']
noncomputable def pool1 : List Str := ["html.html", "html.applet", "html.caption", "html.th", "html.marquee", "html.table", "html.object", "html.td", "html.option", "math.mi"].map Str.ofString
noncomputable def pool2 : List Str := ["html.button", "math.mo", "math.mn", "math.ms", "math.mtext", "svg.desc", "html.template", "svg.title", "svg.foreignObject"].map Str.ofString
noncomputable def pool3 : List Str := ["math.annotation-xml", "html.p", "html.ol", "html.ul", "html.optgroup", "html.li"].map Str.ofString
noncomputable def pool4 : List Str := ["svg.table", "math.td", "svg.applet", "math.caption", "svg.th", "math.marquee", "svg.object", "math.template", "svg.html"].map Str.ofString
noncomputable def pool5 : List Str := ["svg.option", "math.optgroup", "svg.button", "math.ol", "svg.ul", "html.mi", "svg.mo", "html.mn", "svg.ms", "html.mtext"].map Str.ofString
noncomputable def pool6 : List Str := ["html.annotation-xml", "svg.annotation-xml", "html.desc", "math.title", "html.title", "html.foreignObject"].map Str.ofString
noncomputable def pool7 : List Str := ["math.foreignObject", "svg.foreignobject", "html.select", "html.div", "svg.p"].map Str.ofString
noncomputable def poolL : List Str := (pool1 ++ pool2 ++ pool3) ++ (pool4 ++ pool5 ++ pool6 ++ pool7) ++ [Str.ofString "math.desc"]
theorem scan1 : KWd.scan "html.html html.applet html.caption html.th html.marquee html.table html.object html.td html.option math.mi " = (pool1, Str.empty) := by kernel_rfl
theorem scan2 : KWd.scan "html.button math.mo math.mn math.ms math.mtext svg.desc html.template svg.title svg.foreignObject " = (pool2, Str.empty) := by kernel_rfl
theorem scan3 : KWd.scan "math.annotation-xml html.p html.ol html.ul html.optgroup html.li " = (pool3, Str.empty) := by kernel_rfl
theorem scan4 : KWd.scan "svg.table math.td svg.applet math.caption svg.th math.marquee svg.object math.template svg.html " = (pool4, Str.empty) := by kernel_rfl
theorem scan5 : KWd.scan "svg.option math.optgroup svg.button math.ol svg.ul html.mi svg.mo html.mn svg.ms html.mtext " = (pool5, Str.empty) := by kernel_rfl
theorem scan6 : KWd.scan "html.annotation-xml svg.annotation-xml html.desc math.title html.title html.foreignObject " = (pool6, Str.empty) := by kernel_rfl
theorem scan7 : KWd.scan "math.foreignObject svg.foreignobject html.select html.div svg.p math.desc" = (pool7, Str.ofString "math.desc") := by kernel_rfl
theorem pool_words {x : Str} (h : KWd.scan x = ((pool1 ++ pool2 ++ pool3) ++ (pool4 ++ pool5 ++ pool6 ++ pool7), ("math.desc" : Str))) : Txt.words x = poolL := by
  rw [KWd.words_of h, if_neg (by decide +kernel)]; rfl
section
variable {w : World} {A : Around} {h : Heap} {mg mb : Str → Option Value}
theorem fn_pool (G : Gnd (Kf w) mg mb h) (R : Room A 1) : Fn PP w A h (.ref 319) [] (.dat (.list (sd poolL))) := by
  refine fn_def (names := []) (as := []) (more := []) (at_Pool w) G R (fun s us _ hl => ?_) (fun _ => trivial) rfl (by decide) (by decide +kernel) (fun L => by kernel_rfl) fun s₀ L kh G R F => ?_
  · match us, hl with
    | [], _ => exact BindsTo.of_eq (by kernel_rfl)
  refine ex_assign F (.inl (by rfl)) (by walk_at "ev") (by rfl) ?_
  refine ex_assign F (.inl (by rfl)) (ev_addS (by walk_at "ev") (by walk_at "ev") (by (try simp only [lenA]); decide +kernel)) (by rfl) ?_
  refine ex_assign F (.inl (by rfl)) (ev_addS (by walk_at "ev") (by walk_at "ev") (by (try simp only [lenA]); decide +kernel)) (by rfl) ?_
  refine ex_assign F (.inl (by rfl)) (by walk_at "ev") (by rfl) ?_
  refine ex_assign F (.inl (by rfl)) (ev_addS (by walk_at "ev") (by walk_at "ev") (by (try simp only [lenA]); decide +kernel)) (by rfl) ?_
  refine ex_assign F (.inl (by rfl)) (ev_addS (by walk_at "ev") (by walk_at "ev") (by (try simp only [lenA]); decide +kernel)) (by rfl) ?_
  refine ex_assign F (.inl (by rfl)) (ev_addS (by walk_at "ev") (by walk_at "ev") (by (try simp only [lenA]); decide +kernel)) (by rfl) ?_
  exact ex_retSplit0 (ev_addS (by walk_at "ev") (by walk_at "ev") (by (try simp only [lenA]); decide +kernel)) (by (try simp only [lenA]); decide +kernel) (by rfl) (by rfl) (pool_words (scan_app' (scan_app' (scan_app' scan1 scan2) scan3) (scan_app' (scan_app' (scan_app' scan4 scan5) scan6) scan7))) (fun _ _ x => x)
end
end

section

section
variable {prog : Program} {w : World} {A : Around} {r : Shared} {h₀ g : Heap} {env : Env} {C : Own} {ρ : Rho} {s : Shared} {n : Nat} {σ : Type} {Cf : σ → Own} {ρf : σ → Rho} {Inv : Nat → σ → Prop} {I : Addr} {fp wr : List Addr} {P : Nat → Value → Prop} {Sx : Nat → Heap → Prop} {Z : Own}

/-- a loop, between two turns -/
noncomputable def LoopAt (r : Shared) (g : Heap) (env : Env) (wr : List Addr) (Cf : σ → Own) (ρf : σ → Rho) (Inv : Nat → σ → Prop) (Sx : Nat → Heap → Prop) (Z : Own) (n k : Nat) (s' : Shared) : Prop :=
  ∃ i c, i ≤ n ∧ k = n + 1 - i ∧ Inv i c ∧ Sx i s'.heap ∧ St r g env (ownAt wr s'.heap ++ Cf c) (ρf c) s' ∧ ∀ p ∈ Z, s'.heap.get? p.1 = some p.2

theorem ownAt_eq {wr : List Addr} {h h' : Heap} (e : ∀ b ∈ wr, ∃ o, h.get? b = some o ∧ h'.get? b = some o) : ownAt wr h = ownAt wr h' := by
  unfold ownAt
  refine List.map_congr_left fun b hb => ?_
  obtain ⟨o, e1, e2⟩ := e b hb
  rw [e1, e2]
/-- behind a turn's body -/
theorem loop_back {c c' : σ} {h₁ : Heap} {s₃ s₄ : Shared} {i k : Nat} {ρ₃ : Rho} (adr : ∀ c c', (Cf c).map (·.1) = (Cf c').map (·.1)) (frame : ∀ i h h', Sx i h → (∀ b ∈ fp, ∀ o, h.get? b = some o → h'.get? b = some o) → Sx i h')
    (hfp : ∀ b ∈ fp, b ∉ mu env (Cf c)) (hal : ∀ i h, Sx i h → ∀ b ∈ wr, ∃ o, h.get? b = some o) (hi : i < n) (hk : k = n + 1 - i) (hI : Inv (i + 1) c')
    (S₃ : St r g env (ownAt wr h₁ ++ Cf c) ρ₃ s₃) (sx₃ : Sx (i + 1) s₃.heap) (S₄ : St r (vis env (ownAt wr h₁ ++ Cf c) s₃.heap) env (ownAt wr h₁ ++ Cf c') (ρf c') s₄) (hz : ∀ p ∈ Z, s₄.heap.get? p.1 = some p.2) :
    ∃ m, m < k ∧ LoopAt r g env wr Cf ρf Inv Sx Z n m s₄ := by
  have keepF : ∀ b ∈ fp, ∀ o, s₃.heap.get? b = some o → s₄.heap.get? b = some o := fun b hb o e => by
    by_cases hw : b ∈ wr
    · have hm : (b, (h₁.get? b).getD default) ∈ ownAt wr h₁ := List.mem_map.mpr ⟨b, hw, rfl⟩
      have e₄ := S₄.obj _ (List.mem_append_left _ hm)
      have e₃ := S₃.obj _ (List.mem_append_left _ hm)
      rw [e] at e₃
      exact e₄.trans e₃.symm
    · have : (vis env (ownAt wr h₁ ++ Cf c) s₃.heap).get? b = some o := hideAll_get _ e fun z => by
        rcases mem_mu_own.mp z with z | z
        · exact hfp b hb z
        · exact hw z
      exact base_s S₄ b o this
  have sx₄ : Sx (i + 1) s₄.heap := frame _ _ _ sx₃ keepF
  have own₄ : ownAt wr s₄.heap = ownAt wr h₁ := by
    unfold ownAt
    refine List.map_congr_left fun b hb => ?_
    have hm : (b, (h₁.get? b).getD default) ∈ ownAt wr h₁ := List.mem_map.mpr ⟨b, hb, rfl⟩
    have e₄' : s₄.heap.get? b = some ((h₁.get? b).getD default) := S₄.obj _ (List.mem_append_left _ hm)
    rw [e₄']; rfl
  refine ⟨n + 1 - (i + 1), by omega, i + 1, c', hi, rfl, hI, sx₄, ?_, hz⟩
  rw [own₄]
  exact S₄.rebase (S₃.base.trans S₄.base)
theorem not_loc {b : Addr} (h : b ∉ mu env C) : b ≠ env.locals := fun z => h (z ▸ List.mem_cons_self)
theorem st_storeL {x : Str} {a : Ab} {u : Value} {Q : Unit → Shared → Prop} {E : Value → Shared → Prop} {M : Model} (F : Fe env) (S : St r h₀ env C ρ s) (hx : env.kindOf x = some .local) (hu : a.of (vis env C s.heap) u)
    (k : ∀ s', St r h₀ env C (upd ρ x a) s' → (∀ b o, b ≠ env.locals → s.heap.get? b = some o → s'.heap.get? b = some o) → Q () s') : wpAny M A (storeName env x u) Q E s := by
  obtain ⟨h, tk, e⟩ := S.same
  obtain ⟨m, hn, hv⟩ := S.ns
  refine wpAny_storeName_local hx hn (fun h' hn' hs => ?_) (by rw [F.kind]; rfl)
  have hm : Sub (vis env C s.heap) (vis env C h') := hide_mono fun b o hb e => hs.extBut b o (fun q => hb (q ▸ List.mem_cons_self)) e
  refine k _ ⟨⟨h', _, by rw [e]⟩, S.base.trans hm, ⟨_, hn', fun y b hy => ?_⟩, fun y c hc => ?_, fun p hp => ?_, S.apart⟩ fun b o hb e => hs.extBut b o hb e
  · by_cases hyx : y = x
    · subst hyx
      unfold upd at hy; rw [if_pos rfl] at hy; cases hy
      exact ⟨u, .inl ⟨hx, by simp⟩, Ab.mono hm hu⟩
    · unfold upd at hy; rw [if_neg hyx] at hy
      obtain ⟨z, v, q⟩ := hv y b hy
      refine ⟨z, ?_, Ab.mono hm q⟩
      rcases v with ⟨a1, a2⟩ | ⟨a1, c, a2, a3⟩
      · exact .inl ⟨a1, by simp [hyx, a2]⟩
      · exact .inr ⟨a1, c, a2, a3.sameBut hs (mu_loc_cell S.apart (mem_of_lookup a2))⟩
  · obtain ⟨v, q⟩ := S.cell y c hc
    exact ⟨v, q.sameBut hs (mu_loc_cell S.apart hc)⟩
  · exact (hs.2 p.1 (mu_loc_obj S.apart hp)).trans (S.obj p hp)

/-- a turn whose target is a name -/
theorem loopN {BW : (Shared → Prop) → Shared → Prop} (hB : ∀ Q Q' s, (∀ s', Q s' → Q' s') → BW Q s → BW Q' s) {E : Value → Shared → Prop} {x : Str} {xp : Pos} {d : Nat → PyData} {k : Nat} (F : Fe env) (hx : env.kindOf x = some .local) (hZ : ∀ p ∈ Z, p.1 ∉ wr ∧ p.1 ≠ env.locals) (W : Walks prog w A I fp wr n P Sx) (hal : ∀ i h, Sx i h → ∀ b ∈ wr, ∃ o, h.get? b = some o)
    (adr : ∀ c c', (Cf c).map (·.1) = (Cf c').map (·.1)) (hfp : ∀ c, ∀ b ∈ fp, b ∉ mu env (Cf c)) (hP : ∀ i v, i < n → P i v → Rd gNil v (d i))
    (turn : ∀ i c own h₁ s, i < n → Inv i c → Sub g h₁ → St r h₁ env (own ++ Cf c) (upd (ρf c) x (.dat (d i))) s → (∀ p ∈ Z, s.heap.get? p.1 = some p.2) → BW (fun s' => (∃ c', Inv (i + 1) c' ∧ St r h₁ env (own ++ Cf c') (ρf c') s') ∧ ∀ p ∈ Z, s'.heap.get? p.1 = some p.2) s)
    (J : LoopAt r g env wr Cf ρf Inv Sx Z n k s) : wpAny (model prog w) A (pyNext (.ref I)) (fun rv s₁ => match rv with
      | none => (∃ c, Inv n c ∧ St r g env (Cf c) (ρf c) s₁) ∧ ∀ p ∈ Z, s₁.heap.get? p.1 = some p.2
      | some v => wpAny (model prog w) A (assign (.Name x xp) env v) (fun _ s₂ => BW (fun s₃ => ∃ m, m < k ∧ LoopAt r g env wr Cf ρf Inv Sx Z n m s₃) s₂) E s₁) E s := by
  obtain ⟨i, c, hin, rfl, hI, sx, S', hz⟩ := J
  have hdc : ∀ b ∈ wr, b ∉ mu env (Cf c) := fun b hb => hfp c b (W.sub b hb)
  by_cases hlt : i < n
  · refine W.item i _ _ _ hlt sx fun v h₁ tk₁ hPv sx₁ hk₁ => ?_
    have S₁ : St r g env (ownAt wr h₁ ++ Cf c) (ρf c) { s with heap := h₁, toks := tk₁ } := st_next (s' := { s with heap := h₁, toks := tk₁ }) S' ⟨_, _, rfl⟩ hdc (hal _ _ sx₁) hk₁
    refine wpAny_assign_Name (st_storeL (a := .dat (d i)) F S₁ hx (Rd.nil (hP i v hlt hPv)) fun s₃ S₃ hk₃ => ?_)
    have hz₃ : ∀ p ∈ Z, s₃.heap.get? p.1 = some p.2 := fun p hp => hk₃ _ _ (hZ p hp).2 (hk₁ _ _ (hZ p hp).1 (hz p hp))
    have sx₃ : Sx (i + 1) s₃.heap := W.frame _ _ _ sx₁ fun b hb o e => hk₃ b o (not_loc (hfp c b hb)) e
    refine hB _ _ _ (fun s₄ h₄ => ?_) (turn i c (ownAt wr h₁) (vis env (ownAt wr h₁ ++ Cf c) s₃.heap) s₃ hlt hI S₃.base (S₃.rebase Sub.refl) hz₃)
    obtain ⟨⟨c', hI', S₄⟩, hz₄⟩ := h₄
    exact loop_back adr W.frame (hfp c) hal hlt rfl hI' S₃ sx₃ S₄ hz₄
  · have e : i = n := by omega
    subst e
    refine W.done _ _ _ sx fun h' tk' hk' => ?_
    exact ⟨⟨c, hI, st_done (s' := { s with heap := h', toks := tk' }) S' Sub.refl ⟨_, _, rfl⟩ hdc hk'⟩, fun p hp => hk' _ _ (hZ p hp).1 (hz p hp)⟩

/-- a turn whose target is two names -/
theorem loopP {BW : (Shared → Prop) → Shared → Prop} (hB : ∀ Q Q' s, (∀ s', Q s' → Q' s') → BW Q s → BW Q' s) {E : Value → Shared → Prop} {x y : Str} {xp yp tp : Pos} {kk : Nat} {d e : Nat → PyData} {k : Nat} {Pt : Nat → Array Value → Prop} {Mid : Nat → Addr → Heap → Prop} (hh : A.handled = none) (F : Fe env) (hx : env.kindOf x = some .local) (hy : env.kindOf y = some .local) (hZ : ∀ p ∈ Z, p.1 ∉ wr ∧ p.1 ≠ env.locals) (W : WalksT prog w A I fp wr n Pt Sx Mid) (hal : ∀ i h, Sx i h → ∀ b ∈ wr, ∃ o, h.get? b = some o)
    (halM : ∀ i T h, Mid i T h → ∀ b ∈ wr, ∃ o, h.get? b = some o)
    (adr : ∀ c c', (Cf c).map (·.1) = (Cf c').map (·.1)) (hfp : ∀ c, ∀ b ∈ fp, b ∉ mu env (Cf c)) (hP : ∀ i vs, i < n → Pt i vs → ∃ v v', vs = #[v, v'] ∧ Rd gNil v (d i) ∧ Rd gNil v' (e i))
    (ha : assignEach [.Name x xp, .Name y yp] env = [(false, assign (.Name x xp) env), (false, assign (.Name y yp) env)])
    (turn : ∀ i c own h₁ s, i < n → Inv i c → Sub g h₁ → St r h₁ env (own ++ Cf c) (upd (upd (ρf c) x (.dat (d i))) y (.dat (e i))) s → (∀ p ∈ Z, s.heap.get? p.1 = some p.2) → BW (fun s' => (∃ c', Inv (i + 1) c' ∧ St r h₁ env (own ++ Cf c') (ρf c') s') ∧ ∀ p ∈ Z, s'.heap.get? p.1 = some p.2) s)
    (J : LoopAt r g env wr Cf ρf Inv Sx Z n k s) : wpAny (model prog w) A (pyNext (.ref I)) (fun rv s₁ => match rv with
      | none => (∃ c, Inv n c ∧ St r g env (Cf c) (ρf c) s₁) ∧ ∀ p ∈ Z, s₁.heap.get? p.1 = some p.2
      | some v => wpAny (model prog w) A (letOwnedTupleGo (.Tuple [.Name x xp, .Name y yp] kk tp) (.ref I) v) (fun _ s₂ => wpAny (model prog w) A (assign (.Tuple [.Name x xp, .Name y yp] kk tp) env v) (fun _ s₃ => BW (fun s₄ => ∃ m, m < k ∧ LoopAt r g env wr Cf ρf Inv Sx Z n m s₄) s₃) E s₂) E s₁) E s := by
  obtain ⟨i, c, hin, rfl, hI, sx, S', hz⟩ := J
  have hdc : ∀ b ∈ wr, b ∉ mu env (Cf c) := fun b hb => hfp c b (W.sub b hb)
  by_cases hlt : i < n
  · refine W.item i _ _ _ hlt sx fun T vals h₁ tk₁ hPv hTn hT sx₁ hk₁ => ?_
    have S₁ : St r g env (ownAt wr h₁ ++ Cf c) (ρf c) { s with heap := h₁, toks := tk₁ } := st_next (s' := { s with heap := h₁, toks := tk₁ }) S' ⟨_, _, rfl⟩ hdc (halM _ _ _ sx₁) hk₁
    have hTw := W.apart _ _ _ sx₁
    refine W.go _ _ _ i T _ _ _ sx₁ fun h₂ sx₂ hk₂ => ?_
    have S₂ : St r g env (ownAt wr h₂ ++ Cf c) (ρf c) { s with heap := h₂, toks := tk₁ } := st_next (s := { s with heap := h₁, toks := tk₁ }) (s' := { s with heap := h₂, toks := tk₁ }) S₁ ⟨_, _, rfl⟩ hdc (hal _ _ sx₂) hk₂
    obtain ⟨v, v', rfl, r1, r2⟩ := hP i vals hlt hPv
    have hT₂ : h₂.IsTuple T #[v, v'] := by obtain ⟨o, e1, e2⟩ := hT; exact ⟨o, hk₂ T o hTw e1, e2⟩
    rw [PyProof.Rows.assign_Tuple, ha]
    refine wpAny_bind (wpAny_standAt ?_)
    unfold unpack
    refine wpAny_bind (wpAny_holding (wpAny_unpackItems_tuple (items := #[v, v']) hh hT₂ fun h₃ he₃ => ?_))
    have k₃ : Sub h₂ h₃ := fun b o e => he₃ b o (Nat.ne_of_lt (Heap.lt_size e)) e
    have S₃ : St r g env (ownAt wr h₂ ++ Cf c) (ρf c) { s with heap := h₃, toks := tk₁ } := S₂.keeps (kp_heap k₃)
    refine assignInOrder_cons (wpAny_assign_Name (st_storeL (a := .dat (d i)) F S₃ hx (Rd.nil r1) fun s₄ S₄ hk₄ => ?_))
    refine assignInOrder_cons (wpAny_assign_Name (st_storeL (a := .dat (e i)) F S₄ hy (Rd.nil r2) fun s₅ S₅ hk₅ => ?_))
    have hz₅ : ∀ p ∈ Z, s₅.heap.get? p.1 = some p.2 := fun p hp => hk₅ _ _ (hZ p hp).2 (hk₄ _ _ (hZ p hp).2 (k₃ _ _ (hk₂ _ _ (hZ p hp).1 (hk₁ _ _ (hZ p hp).1 (hz p hp)))))
    refine assignInOrder_nil ?_
    have sx₅ : Sx (i + 1) s₅.heap := W.frame _ _ _ sx₂ fun b hb o e => hk₅ b o (not_loc (hfp c b hb)) (hk₄ b o (not_loc (hfp c b hb)) (k₃ b o e))
    refine hB _ _ _ (fun s₆ h₆ => ?_) (turn i c (ownAt wr h₂) (vis env (ownAt wr h₂ ++ Cf c) s₅.heap) s₅ hlt hI S₅.base (S₅.rebase Sub.refl) hz₅)
    obtain ⟨⟨c', hI', S₆⟩, hz₆⟩ := h₆
    exact loop_back adr W.frame (hfp c) hal hlt rfl hI' S₅ sx₅ S₆ hz₆
  · have e : i = n := by omega
    subst e
    refine W.done _ _ _ sx fun h' tk' hk' => ?_
    exact ⟨⟨c, hI, st_done (s' := { s with heap := h', toks := tk' }) S' Sub.refl ⟨_, _, rfl⟩ hdc hk'⟩, fun p hp => hk' _ _ (hZ p hp).1 (hz p hp)⟩
end
end

section

noncomputable def rhoY (ρ : Rho) (ys : List Str) : Rho := fun y => if ys.contains y then ρ y else none
/-- what the scope of a comprehension is to be, whatever its targets -/
structure CompSc (env : Env) (scope : Scope) (ys : List Str) : Prop where
  clos : closureFor scope env = pure (clOf env ys)
  cap : (ys.all fun y => decide (env.kindOf y = some .cell) && (env.cells.lookup y).isSome && decide ((relabel scope env).names.lookup y = some .cell)) = true
  nd : ys.Nodup
  cell : ∀ y ∈ scope.names, y.2 ≠ .cell
  kind : scope.kind = .function
  names : ∀ y ∈ scope.names, y.2 = .local → scope.names.lookup y.1 = some .local

section
variable {prog : Program} {w : World} {A : Around} {r : Shared} {h₀ : Heap} {env : Env} {C : Own} {ρ : Rho} {s : Shared} {K : Frag} {mg mb : Str → Option Value} {n : Nat}
theorem CompSc.get {scope : Scope} {y : Str} {ys : List Str} (O : CompSc env scope ys) (h : y ∈ ys) : env.kindOf y = some .cell ∧ (∃ c, env.cells.lookup y = some c ∧ (y, c) ∈ env.cells) ∧ (relabel scope env).names.lookup y = some .cell := by
  have := List.all_eq_true.mp O.cap y h
  simp only [Bool.and_eq_true, decide_eq_true_eq] at this
  obtain ⟨⟨a, b⟩, c⟩ := this
  obtain ⟨e, he⟩ := Option.isSome_iff_exists.mp b
  exact ⟨a, ⟨e, he, mem_of_lookup he⟩, c⟩
theorem CompSc.sub {scope : Scope} {ys : List Str} (O : CompSc env scope ys) {p : Str × Addr} (h : p ∈ clOf env ys) : p ∈ env.cells := by
  obtain ⟨a, b⟩ := cl_mem (x := p.1) (c := p.2) h
  obtain ⟨_, ⟨c, hc, hm⟩, _⟩ := O.get a
  rw [hc] at b
  have : p = (p.1, c) := by cases p; simp at b ⊢; exact b
  rw [this]; exact hm
/-- the captured cells, as they stand -/
noncomputable def capZ (env : Env) (ys : List Str) (h : Heap) : Own := (clOf env ys).map fun p => (p.2, (h.get? p.2).getD default)

/-- the frame of a comprehension, whatever its targets -/
theorem st_enter {scope : Scope} {ys : List Str} {L D : Addr} {wr : List Addr} {s₂ s₄ : Shared} {m : Str → Option Value} (O : CompSc env scope ys) (S : St r h₀ env C ρ s) (k : Keeps s s₂) (hwr : ∀ b ∈ wr, s.heap.get? b = none) (hwn : wr.Nodup)
    (hal : ∀ b ∈ wr, ∃ o, s₂.heap.get? b = some o) (hL : s₂.heap.get? L = none) (hD : s₂.heap.get? D = none) (hDL : D ≠ L) (hn : s₄.heap.Ns L m) (hacc : s₄.heap.get? D = some (lst #[] 0)) (hs : ∃ h tk, s₄ = { s₂ with heap := h, toks := tk }) (hk : ∀ b o, s₂.heap.get? b = some o → s₄.heap.get? b = some o) :
    St s₂ (hideAll s₂.heap (wr ++ (clOf env ys).map (·.2))) (compEnvC scope (clOf env ys) L env) (ownAt wr s₄.heap ++ [(D, lst #[] 0)]) (rhoY ρ ys) s₄ ∧ (∀ p ∈ capZ env ys s₂.heap, s₄.heap.get? p.1 = some p.2 ∧ p.1 ∉ wr ∧ p.1 ≠ L) ∧
    Sub h₀ (hideAll s₂.heap (wr ++ (clOf env ys).map (·.2))) := by
  have some_ne : ∀ b o, s₂.heap.get? b = some o → b ≠ L ∧ b ≠ D := fun b o e => ⟨fun q => (by rw [q, hL] at e; cases e), fun q => (by rw [q, hD] at e; cases e)⟩
  have cellsS : ∀ b ∈ (clOf env ys).map (·.2), b ∈ mu env C := fun b hb => by
    obtain ⟨p, hp, q⟩ := List.mem_map.mp hb
    exact List.mem_cons_of_mem _ (List.mem_append_left _ (List.mem_map.mpr ⟨p, O.sub hp, q⟩))
  have cellsAt : ∀ b ∈ (clOf env ys).map (·.2), ∃ o, s.heap.get? b = some o := fun b hb => mem_mu_some S (cellsS b hb)
  have hmu : ∀ b, b ∈ mu (compEnvC scope (clOf env ys) L env) (ownAt wr s₄.heap ++ [(D, lst #[] 0)]) ↔ b = L ∨ b ∈ (clOf env ys).map (·.2) ∨ b ∈ wr ∨ b = D := fun b => by
    unfold mu
    simp only [List.map_append, ownAt_fst, List.mem_cons, List.mem_append, List.map_cons, List.map_nil, List.not_mem_nil, or_false]
    exact Iff.rfl
  have base : Sub (hideAll s₂.heap (wr ++ (clOf env ys).map (·.2))) (vis (compEnvC scope (clOf env ys) L env) (ownAt wr s₄.heap ++ [(D, lst #[] 0)]) s₄.heap) := fun b o e => by
    have e' := of_hideAll _ e
    have q := hide_not e
    refine hideAll_get _ (hk b o e') fun z => ?_
    rcases (hmu b).mp z with z | z | z | z
    · exact (some_ne b o e').1 z
    · exact q (List.mem_append_right _ z)
    · exact q (List.mem_append_left _ z)
    · exact (some_ne b o e').2 z
  have hsub : Sub (vis env C s.heap) (hideAll s₂.heap (wr ++ (clOf env ys).map (·.2))) := fun b o e => by
    have e' := of_hideAll _ e
    refine hideAll_get _ (kp_sub k _ _ e') fun z => ?_
    rcases List.mem_append.mp z with z | z
    · rw [hwr b z] at e'; cases e'
    · exact hide_not e (cellsS b z)
  obtain ⟨m₀, hn₀, hv₀⟩ := S.ns
  obtain ⟨h4, t4, e4⟩ := hs
  refine ⟨⟨⟨h4, t4, e4⟩, base, ⟨m, hn, fun y a hy => ?_⟩, fun y c hc => ?_, fun p hp => ?_, ?_⟩, fun p hp => ?_, S.base.trans hsub⟩
  · unfold rhoY at hy
    by_cases e' : ys.contains y = true
    · rw [if_pos e'] at hy
      have hmem : y ∈ ys := by simpa using e'
      obtain ⟨g1, ⟨c, hc, hcm⟩, g2⟩ := O.get hmem
      obtain ⟨u, q, au⟩ := hv₀ y a hy
      refine ⟨u, ?_, Ab.mono (hsub.trans base) au⟩
      rcases q with ⟨q, _⟩ | ⟨_, c', hc', hi⟩
      · rw [g1] at q; cases q
      · refine .inr ⟨g2, c', ?_, ?_⟩
        · show (clOf env ys).lookup y = some c'
          rw [cl_lookup hmem, hc']; rfl
        · obtain ⟨o, h1, h2⟩ := hi
          exact ⟨o, hk _ _ (kp_sub k _ _ h1), h2⟩
    · rw [if_neg e'] at hy; cases hy
  · obtain ⟨v, o, h1, h2⟩ := S.cell y c (O.sub hc)
    exact ⟨v, o, hk _ _ (kp_sub k _ _ h1), h2⟩
  · rcases List.mem_append.mp hp with hp | hp
    · obtain ⟨b, hb, rfl⟩ := List.mem_map.mp hp
      obtain ⟨o, e⟩ := hal b hb
      show s₄.heap.get? b = some ((s₄.heap.get? b).getD default)
      rw [hk b o e]; rfl
    · rw [List.mem_singleton.mp hp]; exact hacc
  · have h1 : ∀ b ∈ (clOf env ys).map (·.2), b ∉ wr := fun b hb z => by
      obtain ⟨o, e⟩ := cellsAt b hb
      rw [hwr b z] at e; cases e
    have h2 : ∀ b ∈ (clOf env ys).map (·.2), b ≠ L ∧ b ≠ D := fun b hb => by
      obtain ⟨o, e⟩ := cellsAt b hb
      exact some_ne b o (kp_sub k _ _ e)
    have h3 : ∀ b ∈ wr, b ≠ L ∧ b ≠ D := fun b hb => by
      obtain ⟨o, e⟩ := hal b hb
      exact some_ne b o e
    have hcn : ((clOf env ys).map (·.2)).Nodup := by
      unfold clOf
      rw [List.map_map]
      refine nodup_map O.nd fun a ha b hb e => ?_
      obtain ⟨_, ⟨c, hc, hcm⟩, _⟩ := O.get ha
      obtain ⟨_, ⟨c', hc', hcm'⟩, _⟩ := O.get hb
      have e' : (env.cells.lookup a).getD 0 = (env.cells.lookup b).getD 0 := e
      rw [hc, hc'] at e'
      have e'' : c = c' := e'
      exact mu_cell_cell S.apart hcm (e'' ▸ hcm')
    show (L :: ((clOf env ys).map (·.2) ++ (ownAt wr s₄.heap ++ [(D, lst #[] 0)]).map (·.1))).Nodup
    rw [List.map_append, ownAt_fst]
    refine List.nodup_cons.mpr ⟨fun z => ?_, List.nodup_append.mpr ⟨hcn, List.nodup_append.mpr ⟨hwn, by simp, fun a ha b hb e => ?_⟩, fun a ha b hb e => ?_⟩⟩
    · rcases List.mem_append.mp z with z | z
      · exact (h2 L z).1 rfl
      · rcases List.mem_append.mp z with z | z
        · exact (h3 L z).1 rfl
        · exact hDL (List.mem_singleton.mp z).symm
    · exact (h3 a ha).2 (e.trans (List.mem_singleton.mp hb))
    · rcases List.mem_append.mp hb with z | z
      · exact h1 a ha (e ▸ z)
      · exact (h2 a ha).2 (e.trans (List.mem_singleton.mp z))
  · obtain ⟨q, hq, rfl⟩ := List.mem_map.mp hp
    have hq' : q.2 ∈ (clOf env ys).map (·.2) := List.mem_map.mpr ⟨q, hq, rfl⟩
    obtain ⟨o, e⟩ := cellsAt _ hq'
    have e₂ := kp_sub k _ _ e
    refine ⟨?_, fun z => ?_, (some_ne _ _ e₂).1⟩
    · show s₄.heap.get? q.2 = some ((s₂.heap.get? q.2).getD default)
      rw [e₂]; exact hk _ _ e₂
    · have z' : q.2 ∈ wr := z
      rw [hwr _ z'] at e; cases e

/-- a comprehension: what its loop is to do -/
theorem comp_run {elt target iter : Expr} {ifs : List Expr} {rest : List Comprehension} {scope : Scope} {pos : Pos} {ys : List Str} {I : Addr} {fp wr : List Addr} {Sx : Nat → Heap → Prop} {out : List PyData} {s₂ : Shared} {E : Value → Shared → Prop} (O : CompSc env scope ys) (S : St r h₀ env C ρ s) (k₂ : Keeps s s₂)
    (sx0 : Sx 0 s₂.heap) (frame : ∀ i h h', Sx i h → (∀ b ∈ fp, ∀ o, h.get? b = some o → h'.get? b = some o) → Sx i h') (self : ∀ i (s : Shared) (Q : Value → Shared → Prop) (E : Value → Shared → Prop), Sx i s.heap → Q (.ref I) s → wpAny (model prog w) A (pyIter (.ref I)) Q E s)
    (hal : ∀ i h, Sx i h → ∀ b ∈ wr, ∃ o, h.get? b = some o) (hwn : wr.Nodup) (hwf : ∀ b ∈ wr, s.heap.get? b = none)
    (loop : ∀ L D s₄, L ≠ D → s₂.heap.objs.size ≤ L → s₂.heap.objs.size ≤ D → Sx 0 s₄.heap → Sub h₀ (hideAll s₂.heap (wr ++ (clOf env ys).map (·.2))) →
      St s₂ (hideAll s₂.heap (wr ++ (clOf env ys).map (·.2))) (compEnvC scope (clOf env ys) L env) (ownAt wr s₄.heap ++ [(D, lst #[] 0)]) (rhoY ρ ys) s₄ → (∀ p ∈ capZ env ys s₂.heap, s₄.heap.get? p.1 = some p.2 ∧ p.1 ∉ wr ∧ p.1 ≠ L) →
      ∀ R : Result → Shared → Prop, (∀ s₅ vs k ρ', St s₂ (hideAll s₂.heap (wr ++ (clOf env ys).map (·.2))) (compEnvC scope (clOf env ys) L env) [(D, lst vs k)] ρ' s₅ → RdAll gNil vs.toList out → (∀ p ∈ capZ env ys s₂.heap, s₅.heap.get? p.1 = some p.2) → R (.ok .next) s₅) →
      codeAny (model prog w) A (.compLoop (.ListComp elt (⟨target, iter, ifs, 0⟩ :: rest) scope pos) 0 (.ref I) (.ref D) (compEnvC scope (clOf env ys) L env)) R s₄) :
    wpAny (model prog w) A (newList []) (fun acc s₃ => wpAny (model prog w) A (newFunctionEnv scope env.globals (clOf env ys) [] env.qual none .none (some env)) (fun cenv s₄ =>
      codeAny (model prog w) A (.compStart (.ListComp elt (⟨target, iter, ifs, 0⟩ :: rest) scope pos) 0 (.ref I) acc { cenv with scope := relabel scope env })
        (compPost (model prog w) A E none (fun u s' => Keeps s s' ∧ Rd (vis env C s'.heap) u (.list out)) acc cenv.locals) s₄) E s₃) E s₂ := by
  refine wpAny_newObj_type (wpAny_newFunctionEnv O.cell (by intro y hy; simp at hy) (fun h₁ hns₁ hsb₁ => ?_) O.kind)
  dsimp only at hns₁ hsb₁ ⊢
  generalize hH2 : s₂.heap.push { cls := .type "list", dict := none, data := .seq ([] : List Value).toArray } = H2 at hns₁ hsb₁ ⊢
  have hC : H2.objs.size = s₂.heap.objs.size + 1 := by rw [← hH2, Heap.size_push]
  have hDC : s₂.heap.objs.size ≠ H2.objs.size := by rw [hC]; exact Nat.ne_of_lt (Nat.lt_succ_self _)
  have below : ∀ b, b < s₂.heap.objs.size → b ≠ H2.objs.size := fun b hb => by rw [hC]; exact Nat.ne_of_lt (Nat.lt_succ_of_lt hb)
  have old : ∀ b o, s₂.heap.get? b = some o → h₁.get? b = some o := fun b o e => hsb₁.extBut b o (below b (Heap.lt_size e)) (Heap.get?_push_of_some _ (hH2 ▸ Heap.get?_push_of_some _ e))
  have hacc : h₁.get? s₂.heap.objs.size = some (lst #[] 0) := hsb₁.extBut _ _ hDC (Heap.get?_push_of_some _ (hH2 ▸ Heap.get?_push_size _ rfl))
  have fresh : ∀ a, s₂.heap.objs.size ≤ a → s₂.heap.get? a = none := fun a ha => by
    cases e : s₂.heap.get? a with
    | none => rfl
    | some o' => exact absurd (Heap.lt_size e) (Nat.not_lt.mpr ha)
  have hst₁ : Sx 0 h₁ := frame _ _ _ sx0 fun b _ o e => old b o e
  have hL : s₂.heap.get? H2.objs.size = none := fresh _ (by rw [hC]; exact Nat.le_succ _)
  have hD : s₂.heap.get? s₂.heap.objs.size = none := fresh _ (Nat.le_refl _)
  have run : ∀ s₄ : Shared, s₄ = { s₂ with heap := h₁, toks := s₂.toks + ([] : List (Str × Value)).length } →
      codeAny (model prog w) A (.compLoop (.ListComp elt (⟨target, iter, ifs, 0⟩ :: rest) scope pos) 0 (.ref I) (.ref s₂.heap.objs.size) (compEnvC scope (clOf env ys) H2.objs.size env))
        (compPost (model prog w) A E none (fun u s' => Keeps s s' ∧ Rd (vis env C s'.heap) u (.list out)) (.ref s₂.heap.objs.size) H2.objs.size) s₄ := by
    rintro s₄ rfl
    obtain ⟨S₄, hz, hsub⟩ := st_enter (s₄ := { s₂ with heap := h₁, toks := s₂.toks + ([] : List (Str × Value)).length }) O S k₂ hwf hwn (hal 0 _ sx0) hL hD hDC hns₁ hacc ⟨_, _, rfl⟩ old
    refine loop H2.objs.size s₂.heap.objs.size _ hDC.symm (by rw [hC]; exact Nat.le_succ _) (Nat.le_refl _) hst₁ hsub S₄ hz _ fun s₅ vs kk ρ' S₅ R₅ hz₅ => ?_
    obtain ⟨m₅, hn₅, _⟩ := S₅.ns
    have keep₅ : ∀ b o, s.heap.get? b = some o → s₅.heap.get? b = some o := fun b o e => by
      have e₂ := kp_sub k₂ _ _ e
      by_cases hb : b ∈ (clOf env ys).map (·.2)
      · obtain ⟨p, hp, rfl⟩ := List.mem_map.mp hb
        have := hz₅ (p.2, (s₂.heap.get? p.2).getD default) (List.mem_map.mpr ⟨p, hp, rfl⟩)
        rw [e₂] at this; exact this
      · exact base_s S₅ b o (hideAll_get _ e₂ fun z => by
          rcases List.mem_append.mp z with z | z
          · rw [hwf b z] at e; cases e
          · exact hb z)
    have noneS : ∀ b, s₂.heap.get? b = none → s.heap.get? b = none := fun b e => by
      cases q : s.heap.get? b with
      | none => rfl
      | some o => rw [kp_sub k₂ _ _ q] at e; cases e
    refine ⟨m₅, hn₅, fun h' hs' => ⟨?_, ?_⟩⟩
    · obtain ⟨h5, t5, e5⟩ := S₅.same
      obtain ⟨h2, t2, e2, _⟩ := k₂
      refine ⟨h', t5, by rw [e5, e2], fun b o e => hs'.extBut b o (fun q => ?_) (keep₅ b o e)⟩
      rw [q, noneS _ hL] at e; cases e
    · have hDo := S₅.obj (s₂.heap.objs.size, lst vs kk) (by simp)
      refine .list (hideAll_get _ (hs'.extBut _ _ hDC hDo) fun z => ?_) (R₅.mono fun a o e => (gNil_get a o e).elim)
      obtain ⟨o, e⟩ := mem_mu_some S z
      rw [noneS _ hD] at e; cases e
  exact codeAny_compStart_list (run _ rfl) (self 0 _ _ _ hst₁ (run _ rfl))

/-- the element, onto the list -/
noncomputable def emitOf (elt : Expr) (D : Addr) (env : Env) : Sem Unit := do let _ ← call (.builtin "list.append") [.ref D, ← eval elt env]
theorem wp_emit {C₁ C₂ : Own} {D : Addr} {vs : Array Value} {k : Nat} {elt : Expr} {d : PyData} {ρ : Rho} {E : Value → Shared → Prop} {Z : Own} (S : St r h₀ env (C₁ ++ (D, lst vs k) :: C₂) ρ s) (y : Ev prog w A r h₀ env (C₁ ++ (D, lst vs k) :: C₂) ρ elt (.dat d)) (hf : flat d = true) (hz : vs.size ≤ sizeLine)
    (hZ : ∀ p ∈ Z, s.heap.get? p.1 = some p.2 ∧ p.1 ≠ D) :
    wpAny (model prog w) A (emitOf elt D env) (fun _ s' => (∃ u k', Rd gNil u d ∧ St r h₀ env (C₁ ++ (D, lst (vs.push u) k') :: C₂) ρ s') ∧ ∀ p ∈ Z, s'.heap.get? p.1 = some p.2) E s := by
  unfold emitOf
  refine wpAny_bind (y.use S fun u s₁ k₁ S₁ hu => wpAny_bind ?_)
  have hl := S₁.obj (D, lst vs k) (by simp)
  refine call_meets PySem.F.slot_list_append ⟨_, hl, rfl⟩ PySem.F.entry_list_append (PySem.F.args_list_append_2 _ _) (PySem.list_append D vs k u hz) ⟨hl, ?_⟩
  obtain ⟨k', hk'⟩ := lst_up hl fun x => x.push u
  refine wpAny_pure ⟨⟨u, k', Rd.fl hu hf, st_set (tk := s₁.toks) S₁ (Heap.SameBut.update ..) hk'⟩, fun p hp => ?_⟩
  exact ((Heap.SameBut.update ..).2 p.1 (hZ p hp).2).trans (kp_sub k₁ _ _ (hZ p hp).1)
end
end

section

theorem rdAll_size' {h : Heap} {vs : Array Value} {ds : List PyData} (R : RdAll h vs.toList ds) : vs.size = ds.length := by have := R.length; simpa using this
/-- an iterator over pairs -/
structure ItP (prog : Program) (w : World) (A : Around) (r : Shared) (h₀ : Heap) (env : Env) (C : Own) (ρ : Rho) (iter : Expr) (n : Nat) (d e : Nat → PyData) : Prop where
  go : ∀ s, St r h₀ env C ρ s → wpAny (model prog w) A (eval iter env) (fun xv s₁ => wpAny (model prog w) A (pyIter xv) (fun it s₂ => Keeps s s₂ ∧ ∃ (I : Addr) (fp wr : List Addr) (Pt : Nat → Array Value → Prop) (Sx : Nat → Heap → Prop) (Mid : Nat → Addr → Heap → Prop),
    it = .ref I ∧ WalksT prog w A I fp wr n Pt Sx Mid ∧ Sx 0 s₂.heap ∧ (∀ i h, Sx i h → ∀ b ∈ wr, ∃ o, h.get? b = some o) ∧ (∀ i T h, Mid i T h → ∀ b ∈ wr, ∃ o, h.get? b = some o) ∧ wr.Nodup ∧ (∀ b ∈ wr, s.heap.get? b = none) ∧ (∀ b ∈ fp, b ∉ mu env C ∧ b < s₂.heap.objs.size) ∧
    ∀ i vs, i < n → Pt i vs → ∃ v v', vs = #[v, v'] ∧ Rd gNil v (d i) ∧ Rd gNil v' (e i)) (fun _ _ => False) s₁) (fun _ _ => False) s

section
variable {prog : Program} {w : World} {A : Around} {r : Shared} {h₀ : Heap} {env : Env} {C : Own} {ρ : Rho} {s : Shared} {K : Frag} {mg mb : Str → Option Value} {n : Nat}
/-- enumerate(list) -/
theorem itP_enum {p pos : Pos} {e : Expr} {l : List Nat} (hh : A.handled = none) (F : Fe env) (G : Gnd K mg mb h₀) (hx : env.kindOf "enumerate" = some .globalImplicit) (hn : nsIn K mainGlobals "enumerate" = some none)
    (hst : starEach [e] env = plainArgs [e] env) (x : Ev prog w A r h₀ env C ρ e (.dat (.list (nd l)))) :
    ItP prog w A r h₀ env C ρ (.Call (.Name "enumerate" p) [e] [] pos) l.length (fun i => .int (i : Int)) (fun i => .int ((l.getD i 0 : Nat) : Int)) := .mk fun s S =>
  callB_raw F G hx hn (show bootBuiltins "enumerate" = some (.type "enumerate") by kernel_rfl) (by decide +kernel) (fun _ => by simp) (by decide +kernel) hst (evl_cons x evl_nil) S fun us s' k S' hus => by
    match us, hus with
    | [u], hus =>
      obtain ⟨a, vs, nn, rfl, e, R⟩ := Rd.getList hus.1
      have e' := vis_sub _ _ _ e
      have hlt := Heap.lt_size e'
      refine call_enumerate_1 e' fun h' he hit hsz hk => ?_
      have hl : vs.size = l.length := by have := R.length; simpa [nd] using this
      have hz : s.heap.get? s'.heap.objs.size = none := none_of_keeps k
      have hz1 : s.heap.get? (s'.heap.objs.size + 1) = none := by
        cases q : s.heap.get? (s'.heap.objs.size + 1) with
        | none => rfl
        | some o => exact absurd (Heap.lt_size (kp_sub k _ _ q)) (by intro h; exact absurd (Nat.lt_of_succ_lt h) (Nat.lt_irrefl _))
      have n1 : s'.heap.objs.size + 1 ≠ s'.heap.objs.size := Nat.succ_ne_self _
      have n2 : a ≠ s'.heap.objs.size + 1 := Nat.ne_of_lt (Nat.lt_succ_of_lt hlt)
      have n3 : a ≠ s'.heap.objs.size := Nat.ne_of_lt hlt
      have W := WalksT.enumerate (prog := prog) (w := w) hh (s'.heap.objs.size + 1) s'.heap.objs.size a n1 n2 n3 vs
      refine wpAny_pyIter_enum he ⟨kp_trans k (kp_heap hk), _, _, _, _, _, _, rfl, hl ▸ W, ⟨⟨_, he⟩, hit, ⟨_, hk _ _ e', rfl, _, rfl⟩⟩, ?_, ?_, by simp, ?_, ?_, ?_⟩
      · rintro i h ⟨⟨old, he⟩, ⟨o, ho, _⟩, _⟩ b hb
        rcases List.mem_cons.mp hb with rfl | hb
        · exact ⟨_, he⟩
        · rw [List.mem_singleton.mp hb]; exact ⟨_, ho⟩
      · rintro i T h ⟨⟨old, he⟩, ⟨o, ho, _⟩, _⟩ b hb
        rcases List.mem_cons.mp hb with rfl | hb
        · exact ⟨_, he⟩
        · rw [List.mem_singleton.mp hb]; exact ⟨_, ho⟩
      · intro b hb
        rcases List.mem_cons.mp hb with rfl | hb
        · exact hz1
        · rw [List.mem_singleton.mp hb]; exact hz
      · intro b hb
        rcases List.mem_cons.mp hb with rfl | hb
        · exact ⟨mu_of_none S hz1, by rw [hsz]; exact Nat.lt_succ_self _⟩
        · rcases List.mem_cons.mp hb with rfl | hb
          · exact ⟨mu_of_none S hz, by rw [hsz]; exact Nat.lt_succ_of_lt (Nat.lt_succ_self _)⟩
          · rw [List.mem_singleton.mp hb]
            exact ⟨hide_not e, by rw [hsz]; exact Nat.lt_succ_of_lt (Nat.lt_succ_of_lt hlt)⟩
      · rintro i vs' hi ⟨t, v, hv, rfl⟩
        obtain ⟨d, hd, rd⟩ := R.get' (k := i) (v := v) (by simpa using hv)
        refine ⟨_, _, rfl, Rd.int _ _, ?_⟩
        have : d = .int ((l.getD i 0 : Nat) : Int) := by
          have := nd_getD l hi
          rw [List.getD_eq_getElem?_getD, hd] at this
          exact this
        subst this
        exact Rd.fl rd rfl

theorem ev_compP {elt iter : Expr} {x y : Str} {px py tp : Pos} {kk : Nat} {ifs : List Expr} {scope : Scope} {pos : Pos} {ys : List Str} {d e f : Nat → PyData} {p : Nat → Bool} (hh : A.handled = none) (F : ∀ L, Fe (compEnvC scope (clOf env ys) L env))
    (it : ItP prog w A r h₀ env C ρ iter n d e) (O : CompSc env scope ys) (hx : scope.names.lookup x = some .local) (hy : scope.names.lookup y = some .local)
    (ha : ∀ L, assignEach [.Name x px, .Name y py] (compEnvC scope (clOf env ys) L env) = [(false, assign (.Name x px) (compEnvC scope (clOf env ys) L env)), (false, assign (.Name y py) (compEnvC scope (clOf env ys) L env))]) (hz : n ≤ sizeLine)
    (tests : ∀ r' L C' i, i < n → Ti prog w A r' h₀ (compEnvC scope (clOf env ys) L env) C' (upd (upd (rhoY ρ ys) x (.dat (d i))) y (.dat (e i))) ifs (p i))
    (el : ∀ r' L C' i, i < n → p i = true → Ev prog w A r' h₀ (compEnvC scope (clOf env ys) L env) C' (upd (upd (rhoY ρ ys) x (.dat (d i))) y (.dat (e i))) elt (.dat (f i))) (fo : ∀ i, flat (f i) = true)
    (hxy : (rhoY ρ ys) x = none ∧ (rhoY ρ ys) y = none)
    (hs : ∀ x, foldedSetIterable iter env x = pure x) :
    Ev prog w A r h₀ env C ρ (.ListComp elt [⟨.Tuple [.Name x px, .Name y py] kk tp, iter, ifs, 0⟩] scope pos) (.dat (.list (((List.range n).filter p).map f))) := .mk fun s S => by
  rw [eval_ListComp]
  refine wpAny_comprehension_free rfl hs O.clos O.kind O.names (wpAny_mono (it.go s S) (fun xv s₁ h₁ => wpAny_mono h₁ (fun itv s₂ h₂ => ?_) fun _ _ f => f.elim) fun _ _ f => f.elim)
  obtain ⟨k₂, I, fp, wr, Pt, Sx, Mid, rfl, W, sx0, hal, halM, hwn, hwf, hfp, hP⟩ := h₂
  refine comp_run O S k₂ sx0 W.frame W.self hal hwn hwf fun L D s₄ hLD hL hD sx₄ hsub S₄ hzc R hR => ?_
  have hfpc : ∀ c : Array Value × Nat, ∀ b ∈ fp, b ∉ mu (compEnvC scope (clOf env ys) L env) [(D, lst c.1 c.2)] := fun c b hb z => by
    rcases List.mem_cons.mp z with z | z
    · exact Nat.lt_irrefl _ (Nat.lt_of_lt_of_le (hfp _ hb).2 (z ▸ hL))
    · rcases List.mem_append.mp z with z | z
      · obtain ⟨q, hq, rfl⟩ := List.mem_map.mp z
        exact (hfp _ hb).1 (List.mem_cons_of_mem _ (List.mem_append_left _ (List.mem_map.mpr ⟨q, O.sub hq, rfl⟩)))
      · exact Nat.lt_irrefl _ (Nat.lt_of_lt_of_le (hfp _ hb).2 (List.mem_singleton.mp z ▸ hD))
  have zD : ∀ p ∈ capZ env ys s₂.heap, p.1 ≠ D := fun p hp q => by
    obtain ⟨c, hc, rfl⟩ := List.mem_map.mp hp
    have := mem_mu_lt (S.keeps k₂) (List.mem_cons_of_mem _ (List.mem_append_left _ (List.mem_map.mpr ⟨c, O.sub hc, rfl⟩)))
    have q' : c.2 = D := q
    exact Nat.lt_irrefl _ (Nat.lt_of_lt_of_le (q' ▸ this) hD)
  refine codeAny_loop rfl (LoopAt s₂ (hideAll s₂.heap (wr ++ (clOf env ys).map (·.2))) (compEnvC scope (clOf env ys) L env) wr (fun c : Array Value × Nat => [(D, lst c.1 c.2)]) (fun _ => rhoY ρ ys)
    (fun i c => RdAll gNil c.1.toList (((List.range i).filter p).map f)) Sx (capZ env ys s₂.heap) n) (fun k s' J => ?_) (n + 1) ⟨0, (#[], 0), Nat.zero_le _, rfl, .nil, sx₄, S₄, fun p hp => (hzc p hp).1⟩
  show wpAny _ A ((compTurn (.ListComp elt [⟨.Tuple [.Name x px, .Name y py] kk tp, iter, ifs, 0⟩] scope pos) 0 (.ref I) (.ref D) (compEnvC scope (clOf env ys) L env)).onRaise (fun x => do noteFrame x (compEnvC scope (clOf env ys) L env); theTreesLotGoes x)) _ _ s'
  refine wpAny_noted ?_
  rw [compTurn_list]
  refine wpAny_bind (wpAny_standAt (wpAny_bind (wpAny_mono (loopP (xp := px) (yp := py) (tp := tp) (kk := kk) (d := d) (e := e) (E := fun _ _ => False)
    (BW := fun Q s₃ => wpAny (model prog w) A (forIn ifs true fun c r => if r = true then do let ok ← PySem.isTrue c (compEnvC scope (clOf env ys) L env) (eval c (compEnvC scope (clOf env ys) L env)); pure (ForInStep.yield ok) else pure (ForInStep.yield r))
      (fun ok s₄ => if ok = true then wpAny (model prog w) A (emitOf elt D (compEnvC scope (clOf env ys) L env)) (fun _ s₅ => Q s₅) (fun _ _ => False) s₄ else Q s₄) (fun _ _ => False) s₃)
    (fun Q Q' s h q => wpAny_mono q (fun ok s₄ z => by
      cases ok with
      | true => exact wpAny_mono z (fun _ s₅ => h s₅) fun _ _ f => f
      | false => exact h s₄ z) fun _ _ f => f) hh (F L) (lookup_relabel_local hx) (lookup_relabel_local hy) (fun p hp => (hzc p hp).2) W hal halM (fun _ _ => rfl) hfpc hP (ha L) (fun i c own h₁ s hi hI hg S₅ hz₅ => ?_) J) (fun rv s₁ h₁ => ?_) fun _ _ f => f.elim)))
  · have S₅' := S₅.rebase (g := h₀) (hsub.trans (hg.trans S₅.base))
    refine wpAny_mono ((tests s₂ L _ i hi).go s S₅') (fun ok s₆ h₆ => ?_) fun _ _ f => f
    obtain ⟨k₆, rfl⟩ := h₆
    have S₆ := S₅.keeps k₆
    have hw : ∀ y' a, rhoY ρ ys y' = some a → upd (upd (rhoY ρ ys) x (.dat (d i))) y (.dat (e i)) y' = some a := upd_keeps hxy.2 (upd_keeps hxy.1 keeps_self)
    have hr : (List.range (i + 1)).filter p = (List.range i).filter p ++ (if p i = true then [i] else []) := by
      rw [List.range_succ, List.filter_append]
      cases hp : p i <;> simp [hp]
    have hlen : c.1.size ≤ sizeLine := by
      have e1 := rdAll_size' hI
      have e2 := List.length_filter_le p (List.range i)
      simp only [List.length_map, List.length_range] at e1 e2
      omega
    cases hp : p i with
    | false =>
      rw [if_neg (by decide)]
      refine ⟨⟨c, ?_, S₆.weaken hw⟩, fun p hp => kp_sub k₆ _ _ (hz₅ p hp)⟩
      rw [hr, hp]; simpa using hI
    | true =>
      rw [if_pos rfl]
      have S₆' := S₆.rebase (g := h₀) (hsub.trans (hg.trans S₆.base))
      refine wpAny_mono (wp_emit (C₁ := own) (C₂ := []) (Z := capZ env ys s₂.heap) S₆ (.mk fun s' S' => (el s₂ L _ i hi hp).go s' (S'.rebase (hsub.trans (hg.trans S'.base)))) (fo i) hlen (fun p hp => ⟨kp_sub k₆ _ _ (hz₅ p hp), zD p hp⟩)) (fun _ s₇ h₇ => ?_) fun _ _ f => f
      obtain ⟨⟨u, k', hu, S₇⟩, hz₇⟩ := h₇
      refine ⟨⟨(c.1.push u, k'), ?_, S₇.weaken hw⟩, hz₇⟩
      rw [hr, hp, if_pos rfl, List.map_append, Array.toList_push]
      exact RdAll.append (.cons hu .nil) hI
  · cases rv with
    | none =>
      obtain ⟨⟨c, hI, S₅⟩, hz₅⟩ := h₁
      exact wpAny_pure (hR s₁ c.1 c.2 _ S₅ hI hz₅)
    | some v =>
      refine wpAny_bind (wpAny_mono h₁ (fun _ s₂ h₂ => wpAny_bind (wpAny_mono h₂ (fun _ s₃ h₃ => wpAny_bind (wpAny_mono h₃ (fun ok s₄ h₄ => ?_) fun _ _ f => f.elim)) fun _ _ f => f.elim)) fun _ _ f => f.elim)
      cases ok with
      | false => exact wpAny_pure ⟨rfl, h₄⟩
      | true => exact wpAny_bind (wpAny_mono h₄ (fun _ s₅ h₅ => wpAny_pure ⟨rfl, h₅⟩) fun _ _ f => f.elim)
end
end

section

section
variable {prog : Program} {w : World} {A : Around} {r : Shared} {h₀ g : Heap} {env : Env} {C : Own} {ρ : Rho} {s s₂ : Shared} {n : Nat} {σ : Type} {Cf : σ → Own} {ρf : σ → Rho} {Inv : Nat → σ → Prop} {I : Addr} {fp wr : List Addr} {P : Nat → Value → Prop} {Sx : Nat → Heap → Prop} {Z : Own}
/-- a loop's start -/
theorem loop_start {c₀ : σ} (S : St r h₀ env (Cf c₀) ρ s) (k₂ : Keeps s s₂) (sx0 : Sx 0 s₂.heap) (hal : ∀ i h, Sx i h → ∀ b ∈ wr, ∃ o, h.get? b = some o) (hwn : wr.Nodup) (hwf : ∀ b ∈ wr, s.heap.get? b = none)
    (hρ : ∀ y a, ρf c₀ y = some a → ρ y = some a) (h0 : Inv 0 c₀) (hz : ∀ p ∈ Z, s.heap.get? p.1 = some p.2) : ∃ g, Sub h₀ g ∧ LoopAt r g env wr Cf ρf Inv Sx Z n (n + 1) s₂ := by
  have S₂ := S.keeps k₂
  have hd : ∀ b ∈ wr, b ∉ mu env (Cf c₀) := fun b hb => mu_of_none S (hwf b hb)
  have hgs : Sub (hideAll s₂.heap (mu env (Cf c₀) ++ wr)) (vis env (ownAt wr s₂.heap ++ Cf c₀) s₂.heap) := hide_eq _ fun b => by rw [mem_mu_own, List.mem_append]
  have hsg : Sub (vis env (Cf c₀) s.heap) (hideAll s₂.heap (mu env (Cf c₀) ++ wr)) := fun b o e => by
    refine hideAll_get _ (kp_sub k₂ b o (of_hideAll _ e)) fun z => ?_
    rcases List.mem_append.mp z with z | z
    · exact hide_not e z
    · have q := of_hideAll _ e
      rw [hwf b z] at q; cases q
  refine ⟨_, S.base.trans hsg, 0, c₀, Nat.zero_le _, rfl, h0, sx0, ?_, fun p hp => kp_sub k₂ _ _ (hz p hp)⟩
  refine st_own (S₂.weaken hρ) hwn hd (hal 0 _ sx0) hgs fun y a e => ?_
  obtain ⟨m, hn, hv⟩ := S.ns
  obtain ⟨u, v, q⟩ := hv y a (hρ y a e)
  exact ⟨m, u, hn.keeps (kp_sub k₂), v.keeps (kp_sub k₂), Ab.mono (hsg.trans hgs) q⟩

theorem compTurn2_0 (elt t0 i0 t1 i1 : Expr) (scope : Scope) (pos : Pos) (it acc : Value) (env : Env) :
    compTurn (.ListComp elt [⟨t0, i0, [], 0⟩, ⟨t1, i1, [], 0⟩] scope pos) 0 it acc env = (do
      standAt i0.pos
      match ← pyNext it with
      | none => pure (.done .next)
      | some v =>
        letOwnedTupleGo t0 it v
        assign t0 env v
        let x ← eval i1 env
        standAt i1.pos
        let x ← foldedSetIterable i1 env x
        let _ ← runOwn (.compStart (.ListComp elt [⟨t0, i0, [], 0⟩, ⟨t1, i1, [], 0⟩] scope pos) 1 (← holding [x] (pyIter x)) acc env) env
        again (.compLoop (.ListComp elt [⟨t0, i0, [], 0⟩, ⟨t1, i1, [], 0⟩] scope pos) 0 it acc env)) := by rfl
theorem compTurn2_1 (elt t0 i0 t1 i1 : Expr) (scope : Scope) (pos : Pos) (it acc : Value) (env : Env) :
    compTurn (.ListComp elt [⟨t0, i0, [], 0⟩, ⟨t1, i1, [], 0⟩] scope pos) 1 it acc env = (do
      standAt i1.pos
      match ← pyNext it with
      | none => pure (.done .next)
      | some v =>
        letOwnedTupleGo t1 it v
        assign t1 env v
        (do let _ ← call (.builtin "list.append") [acc, ← eval elt env])
        again (.compLoop (.ListComp elt [⟨t0, i0, [], 0⟩, ⟨t1, i1, [], 0⟩] scope pos) 1 it acc env)) := by rfl
theorem compStart2_1 {elt t0 i0 t1 i1 : Expr} {scope : Scope} {pos : Pos} {it acc : Value} {R : Result → Shared → Prop}
    (h0 : codeAny (model prog w) A (.compLoop (.ListComp elt [⟨t0, i0, [], 0⟩, ⟨t1, i1, [], 0⟩] scope pos) 1 it acc env) R s)
    (h : wpAny (model prog w) A (pyIter it) (fun it' s' => codeAny (model prog w) A (.compLoop (.ListComp elt [⟨t0, i0, [], 0⟩, ⟨t1, i1, [], 0⟩] scope pos) 1 it' acc env) R s')
      (notedBy (model prog w) A env fun x s' => R (.error x) s') s) :
    codeAny (model prog w) A (.compStart (.ListComp elt [⟨t0, i0, [], 0⟩, ⟨t1, i1, [], 0⟩] scope pos) 1 it acc env) R s := by
  refine codeAny_of_tree ?_
  show wpAny _ _ ((compStart (.ListComp elt [⟨t0, i0, [], 0⟩, ⟨t1, i1, [], 0⟩] scope pos) 1 it acc env).onRaise (fun x => do noteFrame x env; standAt theWindowsPlace)) _ _ s
  refine wpAny_notedAt ?_
  unfold compStart
  show wpAny _ _ (ask >>= _) _ _ s
  refine wpAny_bind (wpAny_askSetting (wpAny_ite ?_))
  split
  · exact wpAny_bind (wpAny_pure (wpAny_pure (And.intro rfl h0)))
  · refine wpAny_bind (wpAny_rule ?_)
    show wpAny _ _ (standAt i1.pos >>= _) _ _ s
    exact wpAny_bind (wpAny_standAt (wpAny_bind (wpAny_mono h (fun it' s' h' => wpAny_pure (And.intro rfl h')) fun _ _ x => x)))

/-- two clauses, two names -/
theorem ev_comp2 {elt i0 i1 : Expr} {x y : Str} {px py : Pos} {scope : Scope} {pos : Pos} {ys : List Str} {d : Nat → PyData} {n2 : Nat → Nat} {e : Nat → Nat → PyData} {f : Nat → Nat → PyData} (hh : A.handled = none) (F : ∀ L, Fe (compEnvC scope (clOf env ys) L env))
    (it : It prog w A r h₀ env C ρ i0 n (fun i => .dat (d i))) (fd : ∀ i, flat (d i) = true) (O : CompSc env scope ys) (hx : scope.names.lookup x = some .local) (hy : scope.names.lookup y = some .local) (hxy : (rhoY ρ ys) x = none ∧ (rhoY ρ ys) y = none) (hxny : x ≠ y)
    (it2 : ∀ r' L C' i, i < n → It prog w A r' h₀ (compEnvC scope (clOf env ys) L env) C' (upd (rhoY ρ ys) x (.dat (d i))) i1 (n2 i) (fun j => .dat (e i j))) (fe : ∀ i j, flat (e i j) = true)
    (el : ∀ r' L C' i j, i < n → j < n2 i → Ev prog w A r' h₀ (compEnvC scope (clOf env ys) L env) C' (upd (upd (rhoY ρ ys) x (.dat (d i))) y (.dat (e i j))) elt (.dat (f i j))) (fo : ∀ i j, flat (f i j) = true)
    (hz : ((List.range n).flatMap fun i => (List.range (n2 i)).map (f i)).length ≤ sizeLine)
    (hs : ∀ x, foldedSetIterable i0 env x = pure x) (hs1 : ∀ L x, foldedSetIterable i1 (compEnvC scope (clOf env ys) L env) x = pure x) :
    Ev prog w A r h₀ env C ρ (.ListComp elt [⟨.Name x px, i0, [], 0⟩, ⟨.Name y py, i1, [], 0⟩] scope pos) (.dat (.list ((List.range n).flatMap fun i => (List.range (n2 i)).map (f i)))) := .mk fun s S => by
  rw [eval_ListComp]
  refine wpAny_comprehension_free rfl hs O.clos O.kind O.names (wpAny_mono (it.go s S) (fun xv s₁ h₁ => wpAny_mono h₁ (fun itv s₂ h₂ => ?_) fun _ _ f => f.elim) fun _ _ f => f.elim)
  obtain ⟨k₂, I, fp, wr, P, Sx, rfl, W, sx0, hal, hwn, hwf, hfp, hP⟩ := h₂
  refine comp_run O S k₂ sx0 W.frame W.self hal hwn hwf fun L D s₄ hLD hL hD sx₄ hsub S₄ hzc R hR => ?_
  have hfpc : ∀ c : Array Value × Nat, ∀ b ∈ fp, b ∉ mu (compEnvC scope (clOf env ys) L env) [(D, lst c.1 c.2)] := fun c b hb z => by
    rcases List.mem_cons.mp z with z | z
    · exact Nat.lt_irrefl _ (Nat.lt_of_lt_of_le (hfp _ hb).2 (z ▸ hL))
    · rcases List.mem_append.mp z with z | z
      · obtain ⟨q, hq, rfl⟩ := List.mem_map.mp z
        exact (hfp _ hb).1 (List.mem_cons_of_mem _ (List.mem_append_left _ (List.mem_map.mpr ⟨q, O.sub hq, rfl⟩)))
      · exact Nat.lt_irrefl _ (Nat.lt_of_lt_of_le (hfp _ hb).2 (List.mem_singleton.mp z ▸ hD))
  have zD : ∀ p ∈ capZ env ys s₂.heap, p.1 ≠ D := fun p hp q => by
    obtain ⟨c, hc, rfl⟩ := List.mem_map.mp hp
    have := mem_mu_lt (S.keeps k₂) (List.mem_cons_of_mem _ (List.mem_append_left _ (List.mem_map.mpr ⟨c, O.sub hc, rfl⟩)))
    have q' : c.2 = D := q
    exact Nat.lt_irrefl _ (Nat.lt_of_lt_of_le (q' ▸ this) hD)
  generalize hout : (fun i => (List.range (n2 i)).map (f i)) = out at *
  have hlen : ∀ i j, i < n → j ≤ n2 i → (((List.range i).flatMap out) ++ (List.range j).map (f i)).length ≤ sizeLine := fun i j hi hj => by
    have e1 : List.range n = List.range (i + 1) ++ (List.range (n - (i + 1))).map (i + 1 + ·) := by
      rw [← List.range_add]; congr 1; omega
    rw [e1, List.flatMap_append, List.range_succ, List.flatMap_append] at hz
    simp only [List.length_append, List.flatMap_cons, List.flatMap_nil, List.append_nil] at hz ⊢
    have e2 : (out i).length = n2 i := by rw [← hout]; simp
    simp only [List.length_map, List.length_range] at hz ⊢
    omega
  refine codeAny_loop rfl (LoopAt s₂ (hideAll s₂.heap (wr ++ (clOf env ys).map (·.2))) (compEnvC scope (clOf env ys) L env) wr (fun c : Array Value × Nat => [(D, lst c.1 c.2)]) (fun _ => rhoY ρ ys)
    (fun i c => RdAll gNil c.1.toList ((List.range i).flatMap out)) Sx (capZ env ys s₂.heap) n) (fun k s' J => ?_) (n + 1) ⟨0, (#[], 0), Nat.zero_le _, rfl, .nil, sx₄, S₄, fun p hp => (hzc p hp).1⟩
  show wpAny _ A ((compTurn (.ListComp elt [⟨.Name x px, i0, [], 0⟩, ⟨.Name y py, i1, [], 0⟩] scope pos) 0 (.ref I) (.ref D) (compEnvC scope (clOf env ys) L env)).onRaise (fun x => do noteFrame x (compEnvC scope (clOf env ys) L env); theTreesLotGoes x)) _ _ s'
  refine wpAny_noted ?_
  rw [compTurn2_0]
  refine wpAny_bind (wpAny_standAt (wpAny_bind (wpAny_mono (loopN (xp := px) (d := d) (E := fun _ _ => False)
    (BW := fun Q s₃ => wpAny (model prog w) A (eval i1 (compEnvC scope (clOf env ys) L env)) (fun xv s₄ => wpAny (model prog w) A (pyIter xv) (fun itv s₅ => codeAny (model prog w) A (.compStart (.ListComp elt [⟨.Name x px, i0, [], 0⟩, ⟨.Name y py, i1, [], 0⟩] scope pos) 1 itv (.ref D) (compEnvC scope (clOf env ys) L env)) (fun r s₆ => match r with | .ok _ => Q s₆ | .error _ => False) s₅) (fun _ _ => False) s₄) (fun _ _ => False) s₃)
    (fun Q Q' s h q => wpAny_mono q (fun xv s₄ z => wpAny_mono z (fun itv s₅ z => codeAny_mono z fun r s₆ z => by
      cases r with
      | ok _ => exact h s₆ z
      | error _ => exact z) fun _ _ f => f) fun _ _ f => f) (F L) (lookup_relabel_local hx) (fun p hp => (hzc p hp).2) W hal (fun _ _ => rfl) hfpc (fun i v hi hv => Rd.fl (hP i v hi hv) (fd i)) (fun i c own h₁ s hi hI hg S₅ hz₅ => ?_) J) (fun rv s₁ h₁ => ?_) fun _ _ f => f.elim)))
  · have hsub₅ : Sub h₀ (vis (compEnvC scope (clOf env ys) L env) (own ++ [(D, lst c.1 c.2)]) s.heap) := hsub.trans (hg.trans S₅.base)
    have S₅' := S₅.rebase (g := h₀) hsub₅
    refine wpAny_mono ((it2 s₂ L _ i hi).go s S₅') (fun xv s₆ h₆ => wpAny_mono h₆ (fun itv s₇ h₇ => ?_) fun _ _ f => f) fun _ _ f => f
    obtain ⟨k₇, I2, fp2, wr2, P2, Sx2, rfl, W2, sx2, hal2, hwn2, hwf2, hfp2, hP2⟩ := h₇
    have hw : ∀ y' a, rhoY ρ ys y' = some a → upd (rhoY ρ ys) x (.dat (d i)) y' = some a := upd_keeps hxy.1 keeps_self
    obtain ⟨g2, hg2, J2⟩ := loop_start (n := n2 i) (Z := capZ env ys s₂.heap) (Cf := fun c : Array Value × Nat => own ++ [(D, lst c.1 c.2)]) (ρf := fun _ => upd (rhoY ρ ys) x (.dat (d i)))
      (Inv := fun j c => RdAll gNil c.1.toList (((List.range i).flatMap out) ++ (List.range j).map (f i))) (c₀ := c) S₅ k₇ sx2 hal2 hwn2 hwf2 keeps_self (by simpa using hI) hz₅
    have zwr2 : ∀ p ∈ capZ env ys s₂.heap, p.1 ∉ wr2 ∧ p.1 ≠ L := fun p hp => ⟨fun q => (by
      have := hz₅ p hp
      rw [hwf2 _ q] at this; cases this), (hzc p hp).2.2⟩
    have run2 : codeAny (model prog w) A (.compLoop (.ListComp elt [⟨.Name x px, i0, [], 0⟩, ⟨.Name y py, i1, [], 0⟩] scope pos) 1 (.ref I2) (.ref D) (compEnvC scope (clOf env ys) L env))
        (fun r s₆ => match r with | .ok _ => (∃ c' : Array Value × Nat, RdAll gNil c'.1.toList ((List.range (i + 1)).flatMap out) ∧ St s₂ h₁ (compEnvC scope (clOf env ys) L env) (own ++ [(D, lst c'.1 c'.2)]) (rhoY ρ ys) s₆) ∧ ∀ p ∈ capZ env ys s₂.heap, s₆.heap.get? p.1 = some p.2 | .error _ => False) s₇ := by
      refine codeAny_loop rfl (LoopAt s₂ g2 (compEnvC scope (clOf env ys) L env) wr2 (fun c : Array Value × Nat => own ++ [(D, lst c.1 c.2)]) (fun _ => upd (rhoY ρ ys) x (.dat (d i)))
        (fun j c => RdAll gNil c.1.toList (((List.range i).flatMap out) ++ (List.range j).map (f i))) Sx2 (capZ env ys s₂.heap) (n2 i)) (fun k s' J => ?_) (n2 i + 1) J2
      show wpAny _ A ((compTurn (.ListComp elt [⟨.Name x px, i0, [], 0⟩, ⟨.Name y py, i1, [], 0⟩] scope pos) 1 (.ref I2) (.ref D) (compEnvC scope (clOf env ys) L env)).onRaise (fun x => do noteFrame x (compEnvC scope (clOf env ys) L env); theTreesLotGoes x)) _ _ s'
      refine wpAny_noted ?_
      rw [compTurn2_1]
      refine wpAny_bind (wpAny_standAt (wpAny_bind (wpAny_mono (loopN (xp := py) (d := e i) (E := fun _ _ => False)
        (BW := fun Q s₃ => wpAny (model prog w) A (emitOf elt D (compEnvC scope (clOf env ys) L env)) (fun _ s₅ => Q s₅) (fun _ _ => False) s₃)
        (fun Q Q' s h q => wpAny_mono q (fun _ s₅ => h s₅) fun _ _ f => f) (F L) (lookup_relabel_local hy) zwr2 W2 hal2 (fun c c' => by simp) (fun c' b hb => ?_) (fun j v hj hv => Rd.fl (hP2 j v hj hv) (fe i j)) (fun j c own2 h₂ s hj hI2 hg₂ S₈ hz₈ => ?_) J) (fun rv s₁ h₁ => ?_) fun _ _ f => f.elim)))
      · have := (hfp2 b hb).1
        rwa [mu_same (compEnvC scope (clOf env ys) L env) (C := own ++ [(D, lst c.1 c.2)]) (C' := own ++ [(D, lst c'.1 c'.2)]) (by simp)]
      · have hl : c.1.size ≤ sizeLine := by
          rw [rdAll_size' hI2]; exact hlen i j hi (by omega)
        have hsub₈ : Sub h₀ h₂ := hsub.trans (hg.trans (hg2.trans hg₂))
        rw [← List.append_assoc] at S₈
        refine wpAny_mono (wp_emit (C₁ := own2 ++ own) (C₂ := []) (Z := capZ env ys s₂.heap) S₈ (.mk fun s' S' => (el s₂ L _ i j hi hj).go s' (S'.rebase (hsub₈.trans S'.base))) (fo i j) hl (fun p hp => ⟨hz₈ p hp, zD p hp⟩)) (fun _ s₉ h₉ => ?_) fun _ _ f => f
        obtain ⟨⟨u, k', hu, S₉⟩, hz₉⟩ := h₉
        refine ⟨⟨(c.1.push u, k'), ?_, ?_⟩, hz₉⟩
        · rw [List.range_succ, List.map_append, ← List.append_assoc, Array.toList_push]
          exact RdAll.append (.cons hu .nil) hI2
        · rw [List.append_assoc] at S₉
          exact S₉.weaken (upd_keeps (by
            unfold upd
            rw [if_neg (fun q => hxny q.symm)]
            exact hxy.2) keeps_self)
      · cases rv with
        | none =>
          obtain ⟨⟨c', hI', S₉⟩, hz₉⟩ := h₁
          refine wpAny_pure ⟨⟨c', ?_, (S₉.rebase (hg2.trans S₉.base)).weaken hw⟩, hz₉⟩
          rw [List.range_succ, List.flatMap_append]
          simp only [List.flatMap_cons, List.flatMap_nil, List.append_nil]
          rw [← hout]; rw [← hout] at hI'; exact hI'
        | some v =>
          refine wpAny_bind (wpAny_of_eq (show letOwnedTupleGo (.Name y py) (.ref I2) v = pure () from rfl) ?_)
          exact wpAny_bind (wpAny_mono h₁ (fun _ s₂ h₂ => wpAny_bind (wpAny_mono h₂ (fun _ s₃ h₃ => wpAny_pure ⟨rfl, h₃⟩) fun _ _ f => f.elim)) fun _ _ f => f.elim)
    exact compStart2_1 run2 (W2.self 0 _ _ _ sx2 run2)
  · cases rv with
    | none =>
      obtain ⟨⟨c, hI, S₅⟩, hz₅⟩ := h₁
      exact wpAny_pure (hR s₁ c.1 c.2 _ S₅ hI hz₅)
    | some v =>
      refine wpAny_bind (wpAny_of_eq (show letOwnedTupleGo (.Name x px) (.ref I) v = pure () from rfl) ?_)
      refine wpAny_bind (wpAny_mono h₁ (fun _ s₂ h₂ => wpAny_bind (wpAny_mono h₂ (fun xv s₃ h₃ => wpAny_bind (wpAny_standAt (wpAny_bind ?_))) fun _ _ f => f.elim)) fun _ _ f => f.elim)
      rw [hs1 L xv]
      refine wpAny_pure (wpAny_bind (wpAny_holding (wpAny_mono h₃ (fun itv s₄ h₄ => wpAny_bind (wpAny_runOwn (h := none) (codeAny_mono h₄ fun r s₅ z => ?_))) fun _ _ f => f.elim)))
      cases r with
      | ok f => exact wpAny_pure ⟨rfl, z⟩
      | error e => exact z.elim
end
end

section

inductive KvRd (h : Heap) : List (Str × Value) → List (Str × PyData) → Prop
  | nil : KvRd h [] []
  | cons {k : Str} {v : Value} {d : PyData} {vs : List (Str × Value)} {ds : List (Str × PyData)} : Rd h v d → KvRd h vs ds → KvRd h ((k, v) :: vs) ((k, d) :: ds)
theorem KvRd.mono {h h' : Heap} (k : Sub h h') : ∀ {vs : List (Str × Value)} {ds : List (Str × PyData)}, KvRd h vs ds → KvRd h' vs ds
  | _, _, .nil => .nil
  | _, _, .cons a b => .cons (a.mono k) (KvRd.mono k b)
theorem KvRd.keys {h : Heap} : ∀ {vs : List (Str × Value)} {ds : List (Str × PyData)}, KvRd h vs ds → vs.map (·.1) = ds.map (·.1)
  | _, _, .nil => rfl
  | _, _, .cons a b => by simp [KvRd.keys b]
theorem KvRd.length {h : Heap} {vs : List (Str × Value)} {ds : List (Str × PyData)} (R : KvRd h vs ds) : vs.length = ds.length := by
  have := congrArg List.length R.keys; simpa using this
theorem KvRd.look {h : Heap} {x : Str} {d : PyData} : ∀ {vs : List (Str × Value)} {ds : List (Str × PyData)}, KvRd h vs ds → ds.lookup x = some d → ∃ v, valueAt vs x = some v ∧ Rd h v d
  | _, _, .nil, e => by simp at e
  | _, _, @KvRd.cons _ k v d' vs ds a b, e => by
    rw [List.lookup_cons] at e
    unfold valueAt
    rw [List.find?_cons]
    by_cases q : k = x
    · subst q
      simp only [beq_self_eq_true] at e
      cases e
      exact ⟨v, by simp, a⟩
    · have q' : (x == k) = false := by simpa using fun z => q z.symm
      rw [q'] at e
      obtain ⟨v, h1, h2⟩ := KvRd.look b e
      exact ⟨v, by simpa [q, valueAt] using h1, h2⟩
theorem KvRd.append {h : Heap} {ws : List (Str × Value)} {es : List (Str × PyData)} (y : KvRd h ws es) : ∀ {vs : List (Str × Value)} {ds : List (Str × PyData)}, KvRd h vs ds → KvRd h (vs ++ ws) (ds ++ es)
  | _, _, .nil => y
  | _, _, .cons a r => .cons a (KvRd.append y r)
/-- a dict of names, and what its values read as -/
noncomputable def DatD (prog : Program) (w : World) (h : Heap) (a : Addr) (ds : List (Str × PyData)) : Prop := (a == sysModules) = false ∧ ∃ vs, h.DictOf (strKind prog w) a vs ∧ KvRd h vs ds

section
variable {prog : Program} {w : World} {A : Around} {r : Shared} {h₀ : Heap} {env : Env} {C : Own} {ρ : Rho} {s : Shared} {K : Frag} {mg mb : Str → Option Value} {n : Nat}
theorem DatD.mono {h h' : Heap} {a : Addr} {ds : List (Str × PyData)} (k : Sub h h') (D : DatD prog w h a ds) : DatD prog w h' a ds :=
  let ⟨lo, vs, d, q⟩ := D
  ⟨lo, vs, d.at fun o e => k _ _ e, q.mono k⟩
/-- d[name] -/
theorem ev_dictItem {o i : Expr} {pos : Pos} {a : Addr} {k : Str} {d : PyData} {ds : List (Str × PyData)} (x : Ev prog w A r h₀ env C ρ o (.val (.ref a))) (y : Ev prog w A r h₀ env C ρ i (.dat (.str k))) (D : DatD prog w h₀ a ds) (hl : ds.lookup k = some d)
    (hs : ∀ o u, subscripted i false (.ref o) (.str k u) = operate [.ref o, .str k u] (getItem (.ref o) (.str k u))) : Ev prog w A r h₀ env C ρ (.Subscript o i pos) (.dat d) := .mk fun s S =>
  Subscript_ (ev_two x y S fun u v s' k' S' hu hv => by
    cases hu
    obtain ⟨t, rfl⟩ := Rd.getStr hv
    obtain ⟨lo, vs, hd, q⟩ := D
    obtain ⟨z, hz, rz⟩ := q.look hl
    have hd' : s'.heap.DictOf (strKind prog w) a vs := hd.at fun o e => base_s S' _ _ e
    exact tail_any hd'.typeIs PySem.slot_dict_getitem.lookup (wpAny_getItem_of (strKind_is prog w k t) hd'.mapOf hz ⟨kp_trans k' (kp_tok s' _), rz.mono S'.base⟩) (hs a t))
/-- for name in d -/
theorem it_dict {iter : Expr} {a : Addr} {ds : List (Str × PyData)} (hh : A.handled = none) (x : Ev prog w A r h₀ env C ρ iter (.val (.ref a))) (D : DatD prog w h₀ a ds) : It prog w A r h₀ env C ρ iter ds.length (fun i => .dat (.str ((ds.map (·.1)).getD i ("" : Str)))) := .mk fun s S =>
  x.use S fun u s₁ k₁ S₁ hu => by
    cases hu
    obtain ⟨lo, vs, hd, q⟩ := D
    have hd' : s₁.heap.DictOf (strKind prog w) a vs := hd.at fun o e => base_s S₁ _ _ e
    obtain ⟨ep, hda⟩ := hd'.dictAt
    have hlt := hda.lt_size
    have hmu : a ∉ mu env C := by
      obtain ⟨o, es, ep', e, _⟩ := hd
      exact hide_not (S₁.base _ _ e)
    have hl := q.length
    rw [← hl]
    refine wpAny_pyIter_dict lo hda ⟨kp_trans k₁ (kp_heap (Sub.push _ _)), s₁.heap.objs.size, [s₁.heap.objs.size, a], [s₁.heap.objs.size], _, _, rfl, Walks.dictKeys (knd := strKind prog w) hh s₁.heap.objs.size a (Nat.ne_of_lt hlt) vs ep, ⟨⟨_, Heap.get?_push_size _ rfl, rfl, rfl⟩, hda.push _⟩,
      fun i h sx b hb => ?_, by simp, fun b hb => ?_, fun b hb => ?_, fun i v hi hv => ?_⟩
    · obtain ⟨⟨o, ho, _⟩, _⟩ := sx
      rw [List.mem_singleton.mp hb]; exact ⟨o, ho⟩
    · rw [List.mem_singleton.mp hb]; exact none_of_keeps k₁
    · rw [Heap.size_push]
      rcases List.mem_cons.mp hb with rfl | hb
      · exact ⟨not_lt_mu S₁, Nat.lt_succ_self _⟩
      · rw [List.mem_singleton.mp hb]; exact ⟨hmu, Nat.lt_succ_of_lt hlt⟩
    · obtain ⟨k, z, hk, hkey⟩ := hv
      have e1 : (ds.map (·.1)).getD i ("" : Str) = k := by
        rw [← q.keys, List.getD_eq_getElem?_getD, List.getElem?_map, hk]; rfl
      rw [e1]
      have : ∃ t, v = .str k t := by
        have hkey' : v.isStrOf k = true := hkey
        cases v <;> simp [Value.isStrOf] at hkey'
        subst hkey'; exact ⟨_, rfl⟩
      obtain ⟨t, rfl⟩ := this
      exact Rd.str _ _

/-! a dict, written out -/
noncomputable def psOf : List (Option Expr) → List Expr → List (Expr × Expr)
  | some k :: ks, v :: vs => (k, v) :: psOf ks vs
  | _, _ => []
inductive PsRd : List (Value × Value) → List (Str × PyData) → Prop
  | nil : PsRd [] []
  | cons {k : Str} {t : Tok} {v : Value} {d : PyData} {vs : List (Value × Value)} {ds : List (Str × PyData)} : Rd gNil v d → PsRd vs ds → PsRd ((.str k t, v) :: vs) ((k, d) :: ds)
theorem PsRd.carries {prog : Program} {w : World} : ∀ {vs : List (Value × Value)} {ds : List (Str × PyData)}, PsRd vs ds → ∃ kv, Carries (strKind prog w) vs kv ∧ KvRd gNil kv ds
  | _, _, .nil => ⟨[], trivial, .nil⟩
  | _, _, @PsRd.cons k t v d vs ds a b =>
    let ⟨kv, c, q⟩ := PsRd.carries (prog := prog) (w := w) b
    ⟨(k, v) :: kv, ⟨strKind_is prog w k t, rfl, c⟩, .cons a q⟩
structure EvPs (prog : Program) (w : World) (A : Around) (r : Shared) (h₀ : Heap) (env : Env) (C : Own) (ρ : Rho) (pos : Pos) (ps : List (Expr × Expr)) (ds : List (Str × PyData)) : Prop where
  go : ∀ s, St r h₀ env C ρ s → wpAny (model prog w) A (evalPairs (ps.map fun p => (eval p.1 env, (do let x ← eval p.2 env; standAt pos; pure x)))) (fun vs s' => Keeps s s' ∧ PsRd vs ds) (fun _ _ => False) s
theorem evp_nil {pos : Pos} : EvPs prog w A r h₀ env C ρ pos [] [] := .mk fun s S => evalPairs_nil ⟨kp_refl s, .nil⟩
theorem evp_cons {pos : Pos} {k v : Expr} {x : Str} {d : PyData} {ps : List (Expr × Expr)} {ds : List (Str × PyData)} (a : Ev prog w A r h₀ env C ρ k (.dat (.str x))) (b : Ev prog w A r h₀ env C ρ v (.dat d)) (hf : flat d = true) (c : EvPs prog w A r h₀ env C ρ pos ps ds) :
    EvPs prog w A r h₀ env C ρ pos ((k, v) :: ps) ((x, d) :: ds) := .mk fun s S =>
  evalPairs_cons (a.use S fun u s₁ k₁ S₁ hu => wpAny_bind (b.use S₁ fun u' s₂ k₂ S₂ hu' => wpAny_bind (wpAny_standAt (wpAny_pure (wpAny_mono (c.go s₂ S₂) (fun vs s₃ h => by
    obtain ⟨t, rfl⟩ := hu.getStr
    exact ⟨kp_trans (kp_trans k₁ k₂) h.1, .cons (Rd.fl hu' hf) h.2⟩) fun _ _ f => f)))))
theorem wp_display {keys : List (Option Expr)} {values : List Expr} {pos : Pos} {ds : List (Str × PyData)} {Q : Value → Shared → Prop} {E : Value → Shared → Prop} (G : Gnd K mg mb h₀) (S : St r h₀ env C ρ s)
    (hshape : (evalEachOpt keys env).zip ((evalEach values env).map fun v => do let x ← v; standAt pos; pure x) = ((psOf keys values).map fun p => (eval p.1 env, (do let x ← eval p.2 env; standAt pos; pure x))).map fun p => (some p.1, p.2)) (h0 : psOf keys values ≠ []) (hlen : (psOf keys values).length ≤ 15)
    (y : ∀ C, EvPs prog w A r h₀ env C ρ pos (psOf keys values) ds) (hn : (ds.map (·.1)).Nodup)
    (k : ∀ s' a o vs, Keeps s s' → St r h₀ env ((a, o) :: C) ρ s' → ObjDict (strKind prog w) o vs → KvRd gNil vs ds → (a == sysModules) = false → Q (.ref a) s') : wpAny (model prog w) A (eval (.Dict keys values pos) env) Q E s := by
  refine wpAny_Dict_pairs (knd := strKind prog w) hshape (by simpa using h0) (by simpa using hlen) ?_
  have S₁ := st_new S dct0 rfl
  refine wpAny_mono ((y _).go _ S₁) (fun vs s₁ h => ?_) fun _ _ f => f.elim
  obtain ⟨k₁, R⟩ := h
  obtain ⟨kv, hc, hq⟩ := R.carries (prog := prog) (w := w)
  have S₂ := S₁.keeps k₁
  have e₂ := S₂.obj (s.heap.objs.size, dct0) (by simp)
  refine ⟨kv, hc, (ObjDict.new (strKind prog w)).of e₂, fun h' hd hs => ?_⟩
  obtain ⟨o, e, hO⟩ := ObjDict.to hd
  rw [merged_nil_of_nodup _ (by rw [hq.keys]; exact hn)] at hO
  refine k _ s.heap.objs.size o kv ?_ (st_set (pre := []) (tk := s₁.toks + vs.length) S₂ hs e) hO hq ?_
  · obtain ⟨h1, t1, e1, q1⟩ := k₁
    refine ⟨h', s₁.toks + vs.length, by rw [e1], fun b o' e' => hs.extBut b o' (Nat.ne_of_lt (Heap.lt_size e')) ?_⟩
    have := kp_sub (⟨h1, t1, e1, q1⟩ : Keeps _ _) b o' (Heap.get?_push_of_some _ e')
    exact this
  have h1 : mainGlobals < s.heap.objs.size := (gnd_s G S).g.lt
  have h2 : sysModules < mainGlobals := by decide
  exact beq_eq_false_iff_ne.mpr (Nat.ne_of_gt (Nat.lt_trans h2 h1))
/-- x = {..} -/
theorem ex_display {x : Str} {xp : Pos} {keys : List (Option Expr)} {values : List Expr} {pos pos' : Pos} {ds : List (Str × PyData)} {rest : List Stmt} {Q : Flow → Shared → Prop} (F : Fe env) (G : Gnd K mg mb h₀) (hx : Stores env x)
    (hshape : (evalEachOpt keys env).zip ((evalEach values env).map fun v => do let x ← v; standAt pos; pure x) = ((psOf keys values).map fun p => (eval p.1 env, (do let x ← eval p.2 env; standAt pos; pure x))).map fun p => (some p.1, p.2)) (h0 : psOf keys values ≠ []) (hlen : (psOf keys values).length ≤ 15)
    (y : ∀ C, EvPs prog w A r h₀ env C ρ pos (psOf keys values) ds) (hn : (ds.map (·.1)).Nodup) (hs : swapsWith (.Dict keys values pos) (some (.Name x xp)) pos'.line env = pure false)
    (k : ∀ a h₁, Sub h₀ h₁ → DatD prog w h₁ a ds → Ex prog w A r h₁ env C (upd ρ x (.val (.ref a))) rest Q) : Ex prog w A r h₀ env C ρ (.Assign [.Name x xp] (.Dict keys values pos) pos' :: rest) Q := .mk fun s S =>
  wpAny_execs_cons (wpAny_Assign_Name (wp_display G S hshape h0 hlen y hn fun s' a o vs _ S' hO hq lo =>
    st_store (a := .val (.ref a)) F S' hx rfl fun s₂ S₂ _ _ =>
      (ex_freeze (pre := []) (C₁ := [(a, o)]) (post := C) fun h₁ k₁ hf _ _ => k a h₁ k₁ ⟨lo, vs, hO.of (hf (a, o) (by simp)), hq.mono fun b o e => (gNil_get b o e).elim⟩).go s₂ S₂) hs)
/-- {..}[name], of texts -/
theorem ev_displayItem {keys : List (Option Expr)} {values : List Expr} {pos pos' : Pos} {i : Expr} {ds : List (Str × PyData)} {kx : Str} {d : PyData} (G : Gnd K mg mb h₀)
    (hshape : (evalEachOpt keys env).zip ((evalEach values env).map fun v => do let x ← v; standAt pos; pure x) = ((psOf keys values).map fun p => (eval p.1 env, (do let x ← eval p.2 env; standAt pos; pure x))).map fun p => (some p.1, p.2)) (h0 : psOf keys values ≠ []) (hlen : (psOf keys values).length ≤ 15)
    (y : ∀ C, EvPs prog w A r h₀ env C ρ pos (psOf keys values) ds) (hn : (ds.map (·.1)).Nodup) (z : ∀ C, Ev prog w A r h₀ env C ρ i (.dat (.str kx))) (hl : ds.lookup kx = some d) (hf : flat d = true)
    (hs : ∀ o u, subscripted i false (.ref o) (.str kx u) = operate [.ref o, .str kx u] (getItem (.ref o) (.str kx u))) : Ev prog w A r h₀ env C ρ (.Subscript (.Dict keys values pos) i pos') (.dat d) := .mk fun s S =>
  Subscript_ (wp_display G S hshape h0 hlen y hn fun s₁ a o vs k₁ S₁ hO hq lo => (z _).use S₁ fun v s₂ k₂ S₂ hv => by
    obtain ⟨t, rfl⟩ := Rd.getStr hv
    obtain ⟨zz, hz, rz⟩ := hq.look hl
    have hd' : s₂.heap.DictOf (strKind prog w) a vs := hO.of (S₂.obj (a, o) (by simp))
    exact tail_any hd'.typeIs PySem.slot_dict_getitem.lookup (wpAny_getItem_of (strKind_is prog w kx t) hd'.mapOf hz ⟨kp_trans (kp_trans k₁ k₂) (kp_tok s₂ _), Rd.nil rz⟩) (hs a t))
end
end

section
noncomputable def strL (l : List String) : List Str := l.map Str.ofString
noncomputable def baseS : Str := "applet caption html table td th marquee object template"
noncomputable def rowS (x : Str) : Nat → Str
  | 0 => baseS ++ x
  | 1 => "mi mo mn ms mtext annotation-xml"
  | 2 => "foreignObject desc title"
  | _ => ""
noncomputable def spS : Nat → Str
  | 0 => "html"
  | 1 => "math"
  | 2 => "svg"
  | _ => ""
noncomputable def endL (ws : Nat → List Str) : List Str := (List.range 3).flatMap fun i => (List.range (ws i).length).map fun j => spS i ++ "." ++ (ws i).getD j ""
noncomputable def baseW : List String := ["applet", "caption", "html", "table", "td", "th", "marquee", "object", "template"]
noncomputable def wsOf (l : List String) : Nat → List Str
  | 0 => strL (baseW ++ l)
  | 1 => strL ["mi", "mo", "mn", "ms", "mtext", "annotation-xml"]
  | 2 => strL ["foreignObject", "desc", "title"]
  | _ => []
theorem words0 : Txt.words (baseS ++ "") = strL (baseW ++ []) := by rw [KWd.words_scan]; kernel_rfl
theorem words1 : Txt.words (baseS ++ " ol ul") = strL (baseW ++ ["ol", "ul"]) := by rw [KWd.words_scan]; kernel_rfl
theorem words2 : Txt.words (baseS ++ " button") = strL (baseW ++ ["button"]) := by rw [KWd.words_scan]; kernel_rfl
theorem wordsM : Txt.words "mi mo mn ms mtext annotation-xml" = strL ["mi", "mo", "mn", "ms", "mtext", "annotation-xml"] := by rw [KWd.words_scan]; kernel_rfl
theorem wordsV : Txt.words "foreignObject desc title" = strL ["foreignObject", "desc", "title"] := by rw [KWd.words_scan]; kernel_rfl
structure RowOk (x : Str) (ws : Nat → List Str) : Prop where
  words : ∀ i, i < 3 → Txt.words (rowS x i) = ws i
  sz : ∀ i, i < 3 → (rowS x i).length ≤ 1000
  ok : ∀ i, i < 3 → ((ws i).all fun y => decide (y.length ≤ 100)) = true
  all : ((endL ws).all fun y => PyData.strOk y) = true
  len : (endL ws).length ≤ 100
theorem lt3 {P : Nat → Prop} (h0 : P 0) (h1 : P 1) (h2 : P 2) : ∀ i, i < 3 → P i
  | 0, _ => h0
  | 1, _ => h1
  | 2, _ => h2
  | i + 3, h => absurd h (by omega)
theorem rowOk0 : RowOk "" (wsOf []) := ⟨lt3 words0 wordsM wordsV, lt3 (by decide +kernel) (by decide +kernel) (by decide +kernel), lt3 (by decide +kernel) (by decide +kernel) (by decide +kernel), by decide +kernel, by decide +kernel⟩
theorem rowOk1 : RowOk " ol ul" (wsOf ["ol", "ul"]) := ⟨lt3 words1 wordsM wordsV, lt3 (by decide +kernel) (by decide +kernel) (by decide +kernel), lt3 (by decide +kernel) (by decide +kernel) (by decide +kernel), by decide +kernel, by decide +kernel⟩
theorem rowOk2 : RowOk " button" (wsOf ["button"]) := ⟨lt3 words2 wordsM wordsV, lt3 (by decide +kernel) (by decide +kernel) (by decide +kernel), lt3 (by decide +kernel) (by decide +kernel) (by decide +kernel), by decide +kernel, by decide +kernel⟩
noncomputable def extD : List (Str × PyData) := [("", .str ""), ("list item", .str " ol ul"), ("button", .str " button")]
section
variable {w : World} {A : Around} {h : Heap} {mg mb : Str → Option Value}
theorem out_eq (ws : Nat → List Str) : ((List.range 3).flatMap fun i => (List.range (ws i).length).map fun j => PyData.str (spS i ++ "." ++ (ws i).getD j "")) = sd (endL ws) := by
  simp only [endL, sd, List.map_flatMap, List.map_map]; rfl
theorem fn_endsX (G : Gnd (Kf w) mg mb h) (R : Room A 1) {word sort x : Str} {ws : Nat → List Str} (ow : PyData.strOk word = true) (os : PyData.strOk sort = true) (n1 : (sort == "select") = false) (n2 : (sort == "table") = false) (hx : extD.lookup sort = some (.str x)) (O : RowOk x ws) :
    Fn PP w A h (.ref 324) [.dat (.str word), .dat (.str sort)] (.dat (.bool (decide (word ∈ endL ws)))) := by
  refine fn_def (names := ["word", "sort"]) (as := [.dat (.str word), .dat (.str sort)]) (more := []) (at_Ends w) G R (fun s us _ hl => ?_) (fun _ => trivial) rfl (by decide) (by decide +kernel) (fun L => by kernel_rfl) fun s₀ L kh G R F => ?_
  · match us, hl with
    | [a, b], _ => exact BindsTo.of_eq (by kernel_rfl)
  refine ex_if (b := false) (Tt.eq (by walk_at "tt") (by rw [strE]; exact n1)) (fun c => nomatch c) (fun _ => ex_go (ex_if (b := false) (Tt.eq (by walk_at "tt") (by rw [strE]; exact n2)) (fun c => nomatch c) (fun _ => ex_go ?_)))
  refine ex_assign F (.inl (by rfl)) (by walk_at "ev") (by rfl) ?_
  have hxl : x.length ≤ 1000 := by
    have := O.sz 0 (by omega)
    rw [show rowS x 0 = baseS ++ x from rfl, lenA] at this
    omega
  refine ex_assign F (.inl (by rfl)) (ev_addS (by walk_at "ev") (ev_displayItem (ds := extD) (d := .str x) G (by rfl) (by simp [psOf]) (by simp [psOf]) (fun C => evp_cons (by walk_at "ev") (by walk_at "ev") rfl (evp_cons (by walk_at "ev") (by walk_at "ev") rfl (evp_cons (by walk_at "ev") (by walk_at "ev") rfl evp_nil))) (by decide +kernel) (fun C => by walk_at "ev") hx rfl (fun _ _ => by rfl)) (by
      have : sizeLine ≥ 2 ^ 16 := by decide
      have : (Str.ofString "applet caption html table td th marquee object template").length ≤ 1000 := by decide +kernel
      omega)) (by rfl) ?_
  refine ex_display (ds := [("html", .str (rowS x 0)), ("math", .str (rowS x 1)), ("svg", .str (rowS x 2))]) F G (.inr ⟨by rfl, by rfl⟩) (by rfl) (by simp [psOf]) (by simp [psOf]) (fun C => evp_cons (by walk_at "ev") (by walk_at "ev") rfl (evp_cons (by walk_at "ev") (by walk_at "ev") rfl (evp_cons (by walk_at "ev") (by walk_at "ev") rfl evp_nil))) (by simp only [List.map_cons, List.map_nil]; decide +kernel) (by rfl) fun a h₁ k₁ D => ?_
  have G₁ := G.mono k₁
  have hlay := sd_lay (l := endL ws) fun y hy => List.all_eq_true.mp O.all y hy
  have hsz : sizeLine ≥ 2 ^ 16 := by decide
  refine ex_retB2 k₁ (ev_cmpd (by walk_at "ev") (Ev.eq (ev_comp2 (ys := ["rows"]) (n := 3) (d := fun i => .str (spS i)) (n2 := fun i => (ws i).length) (e := fun i j => .str ((ws i).getD j "")) (f := fun i j => .str (spS i ++ "." ++ (ws i).getD j ""))
    R.h (fun L => ⟨by rfl, by rfl, by rfl⟩) ((it_dict R.h (by walk_at "ev") D).congr fun i hi => ?_) (fun i => rfl) ⟨by rfl, by rfl, by decide, by decide, by rfl, by decide⟩ (by rfl) (by rfl) ⟨by rfl, by rfl⟩ (by decide +kernel) (fun r' L' C' i hi => ?_) (fun _ _ => rfl) (fun r' L' C' i j hi hj => ?_) (fun _ _ => rfl) ?_ (fun _ => by rfl) (fun _ _ => by rfl)) (congrArg (fun l => Ab.dat (.list l)) (out_eq ws))) (cmp_in R hlay (by walk_at "lay") de_str) (by rfl)) (sd_any _ _) (fun _ _ x => x)
  · revert i; exact lt3 rfl rfl rfl
  · have e1 : ([("html", .str (rowS x 0)), ("math", .str (rowS x 1)), ("svg", .str (rowS x 2))] : List (Str × PyData)).lookup (spS i) = some (.str (rowS x i)) := by
      revert i; exact lt3 rfl rfl rfl
    show It _ _ _ _ _ _ _ _ _ (ws i).length (fun j => .dat (.str ((ws i).getD j "")))
    rw [← O.words i hi]
    exact it_strs R.h (ev_split0 (ev_dictItem (by walk_at "ev") (by walk_at "ev") D e1 (fun _ _ => by rfl)) (by have := O.sz i hi; omega) (by rfl) (by rfl))
  · have h1 : (spS i).length ≤ 10 := lt3 (P := fun i => (spS i).length ≤ 10) (by decide +kernel) (by decide +kernel) (by decide +kernel) i hi
    have h2 : ((ws i).getD j "").length ≤ 100 := by
      have := List.all_eq_true.mp (O.ok i hi) ((ws i).getD j "") (by rw [List.getD_eq_getElem?_getD, List.getElem?_eq_getElem hj]; exact List.getElem_mem hj)
      simpa using this
    refine ev_addS (ev_addS (by walk_at "ev") (by walk_at "ev") ?_) (by walk_at "ev") ?_
    · have : (Str.ofString ".").length = 1 := by decide +kernel
      omega
    · have : (Str.ofString ".").length = 1 := by decide +kernel
      rw [lenA]; omega
  · rw [out_eq, List.length_map]; have := O.len; omega
noncomputable def sorts : List Str := strL ["", "list item", "button", "table", "select"]
noncomputable def endsF (word sort : Str) : Bool :=
  if sort == "select" then !decide (word ∈ strL ["html.optgroup", "html.option"])
  else if sort == "table" then decide (word ∈ strL ["html.html", "html.table", "html.template"])
  else if sort == "" then decide (word ∈ endL (wsOf []))
  else if sort == "list item" then decide (word ∈ endL (wsOf ["ol", "ul"]))
  else decide (word ∈ endL (wsOf ["button"]))
theorem fn_endsSel (G : Gnd (Kf w) mg mb h) (R : Room A 1) {word : Str} (ow : PyData.strOk word = true) : Fn PP w A h (.ref 324) [.dat (.str word), .dat (.str "select")] (.dat (.bool (endsF word "select"))) := by
  refine fn_def (names := ["word", "sort"]) (as := [.dat (.str word), .dat (.str "select")]) (more := []) (at_Ends w) G R (fun s us _ hl => ?_) (fun _ => trivial) rfl (by decide) (by decide +kernel) (fun L => by kernel_rfl) fun s₀ L kh G R F => ?_
  · match us, hl with
    | [a, b], _ => exact BindsTo.of_eq (by kernel_rfl)
  refine ex_if (b := true) (Tt.eq (by walk_at "tt") (by rw [strE]; decide +kernel)) (fun _ => ?_) (fun c => nomatch c)
  walk_at "retB"
  exact congrArg (!·) (sd_any (strL ["html.optgroup", "html.option"]) word)
theorem fn_endsTab (G : Gnd (Kf w) mg mb h) (R : Room A 1) {word : Str} (ow : PyData.strOk word = true) : Fn PP w A h (.ref 324) [.dat (.str word), .dat (.str "table")] (.dat (.bool (endsF word "table"))) := by
  refine fn_def (names := ["word", "sort"]) (as := [.dat (.str word), .dat (.str "table")]) (more := []) (at_Ends w) G R (fun s us _ hl => ?_) (fun _ => trivial) rfl (by decide) (by decide +kernel) (fun L => by kernel_rfl) fun s₀ L kh G R F => ?_
  · match us, hl with
    | [a, b], _ => exact BindsTo.of_eq (by kernel_rfl)
  refine ex_if (b := false) (Tt.eq (by walk_at "tt") (by rw [strE]; decide +kernel)) (fun c => nomatch c) (fun _ => ex_go (ex_if (b := true) (Tt.eq (by walk_at "tt") (by rw [strE]; decide +kernel)) (fun _ => ?_) (fun c => nomatch c)))
  walk_at "retB"
  exact sd_any (strL ["html.html", "html.table", "html.template"]) word
theorem fn_ends (G : Gnd (Kf w) mg mb h) (R : Room A 1) {word sort : Str} (ow : PyData.strOk word = true) (hs : sort ∈ sorts) : Fn PP w A h (.ref 324) [.dat (.str word), .dat (.str sort)] (.dat (.bool (endsF word sort))) := by
  simp only [sorts, strL, List.map_cons, List.map_nil, List.mem_cons, List.not_mem_nil, or_false] at hs
  rcases hs with rfl | rfl | rfl | rfl | rfl
  · exact fn_endsX G R ow (by decide +kernel) (by decide +kernel) (by decide +kernel) rfl rowOk0
  · exact fn_endsX G R ow (by decide +kernel) (by decide +kernel) (by decide +kernel) rfl rowOk1
  · exact fn_endsX G R ow (by decide +kernel) (by decide +kernel) (by decide +kernel) rfl rowOk2
  · exact fn_endsTab G R ow
  · exact fn_endsSel G R ow
end
end

section

noncomputable def onNat {α : Type} (z : α) (f : Nat → α) : PyData → α
  | .int i => f i.toNat
  | _ => z
noncomputable def onStr {α : Type} (z : α) (f : Str → α) : PyData → α
  | .str x => f x
  | _ => z
theorem onNat_list (l : List Nat) (p : Nat → Bool) (f : Nat → PyData) : ((nd l).filter (onNat false p)).map (onNat .none f) = (l.filter p).map f := by
  have e1 : (onNat false p) ∘ (fun (k : Nat) => PyData.int (k : Int)) = p := funext fun a => by simp [Function.comp, onNat]
  have e2 : (onNat .none f) ∘ (fun (k : Nat) => PyData.int (k : Int)) = f := funext fun a => by simp [Function.comp, onNat]
  rw [nd, List.filter_map, List.map_map, e1, e2]
theorem onStr_list (l : List Str) (p : Str → Bool) (f : Str → PyData) : ((sd l).filter (onStr false p)).map (onStr .none f) = (l.filter p).map f := by
  have e1 : (onStr false p) ∘ PyData.str = p := funext fun a => rfl
  have e2 : (onStr .none f) ∘ PyData.str = f := funext fun a => rfl
  rw [sd, List.filter_map, List.map_map, e1, e2]
theorem filter_tt' {α : Type} (l : List α) : l.filter (fun _ => true) = l := by simp
section
variable {prog : Program} {w : World} {A : Around} {r : Shared} {h₀ : Heap} {env : Env} {C : Own} {ρ : Rho} {s : Shared} {n : Nat}
theorem compIn_nat {elt : Expr} {ifs : List Expr} {scope : Scope} {x : Str} {ys : List Str} {l : List Nat} {p : Nat → Bool} {f : Nat → PyData} (O : CompOk env scope x ys) (fo : ∀ k ∈ l, flat (f k) = true)
    (tests : ∀ r L k, k ∈ l → Ti prog w A r h₀ (compEnvC scope (clOf env ys) L env) [] (rhoC ρ x (.int (k : Int)) ys) ifs (p k))
    (el : ∀ r L k, k ∈ l → p k = true → Ev prog w A r h₀ (compEnvC scope (clOf env ys) L env) [] (rhoC ρ x (.int (k : Int)) ys) elt (.dat (f k))) :
    CompIn prog w A h₀ env ρ elt ifs scope x ys (nd l) (onNat false p) (onNat .none f) where
  ok := O
  fl := fun d hd => by obtain ⟨k, _, rfl⟩ := List.mem_map.mp hd; rfl
  fo := fun d hd _ => by obtain ⟨k, hk, rfl⟩ := List.mem_map.mp hd; simpa [onNat] using fo k hk
  tests := fun r L d hd => by obtain ⟨k, hk, rfl⟩ := List.mem_map.mp hd; simpa [onNat] using tests r L k hk
  elt := fun r L d hd hp => by obtain ⟨k, hk, rfl⟩ := List.mem_map.mp hd; simpa [onNat] using el r L k hk (by simpa [onNat] using hp)
theorem compIn_str {elt : Expr} {ifs : List Expr} {scope : Scope} {x : Str} {ys : List Str} {l : List Str} {p : Str → Bool} {f : Str → PyData} (O : CompOk env scope x ys) (fo : ∀ k ∈ l, flat (f k) = true)
    (tests : ∀ r L k, k ∈ l → Ti prog w A r h₀ (compEnvC scope (clOf env ys) L env) [] (rhoC ρ x (.str k) ys) ifs (p k))
    (el : ∀ r L k, k ∈ l → p k = true → Ev prog w A r h₀ (compEnvC scope (clOf env ys) L env) [] (rhoC ρ x (.str k) ys) elt (.dat (f k))) :
    CompIn prog w A h₀ env ρ elt ifs scope x ys (sd l) (onStr false p) (onStr .none f) where
  ok := O
  fl := fun d hd => by obtain ⟨k, _, rfl⟩ := List.mem_map.mp hd; rfl
  fo := fun d hd _ => by obtain ⟨k, hk, rfl⟩ := List.mem_map.mp hd; simpa [onStr] using fo k hk
  tests := fun r L d hd => by obtain ⟨k, hk, rfl⟩ := List.mem_map.mp hd; simpa [onStr] using tests r L k hk
  elt := fun r L d hd hp => by obtain ⟨k, hk, rfl⟩ := List.mem_map.mp hd; simpa [onStr] using el r L k hk (by simpa [onStr] using hp)
/-- [f(x) for x in nats if p(x)] -/
theorem ev_compN {elt iter : Expr} {x : Str} {px : Pos} {ifs : List Expr} {scope : Scope} {pos : Pos} (ys : List Str) {l : List Nat} (p : Nat → Bool) (f : Nat → PyData) (it : It prog w A r h₀ env C ρ iter l.length (fun i => .dat (.int ((l.getD i 0 : Nat) : Int)))) (O : CompOk env scope x ys) (fo : ∀ k ∈ l, flat (f k) = true)
    (tests : ∀ r L k, k ∈ l → Ti prog w A r h₀ (compEnvC scope (clOf env ys) L env) [] (rhoC ρ x (.int (k : Int)) ys) ifs (p k))
    (el : ∀ r L k, k ∈ l → p k = true → Ev prog w A r h₀ (compEnvC scope (clOf env ys) L env) [] (rhoC ρ x (.int (k : Int)) ys) elt (.dat (f k)))
    (hz : l.length ≤ sizeLine) (hs : ∀ x, foldedSetIterable iter env x = pure x) : Ev prog w A r h₀ env C ρ (.ListComp elt [⟨.Name x px, iter, ifs, 0⟩] scope pos) (.dat (.list ((l.filter p).map f))) := by
  rw [← onNat_list]
  refine ev_comp ?_ (compIn_nat O fo tests el) (by simpa [nd] using hz) hs
  rw [show (nd l).length = l.length by simp [nd]]
  exact it.congr fun i hi => by rw [nd_getD l hi]
theorem ev_compS {elt iter : Expr} {x : Str} {px : Pos} {ifs : List Expr} {scope : Scope} {pos : Pos} (ys : List Str) {l : List Str} (p : Str → Bool) (f : Str → PyData) (it : It prog w A r h₀ env C ρ iter l.length (fun i => .dat (.str (l.getD i "")))) (O : CompOk env scope x ys) (fo : ∀ k ∈ l, flat (f k) = true)
    (tests : ∀ r L k, k ∈ l → Ti prog w A r h₀ (compEnvC scope (clOf env ys) L env) [] (rhoC ρ x (.str k) ys) ifs (p k))
    (el : ∀ r L k, k ∈ l → p k = true → Ev prog w A r h₀ (compEnvC scope (clOf env ys) L env) [] (rhoC ρ x (.str k) ys) elt (.dat (f k)))
    (hz : l.length ≤ sizeLine) (hs : ∀ x, foldedSetIterable iter env x = pure x) : Ev prog w A r h₀ env C ρ (.ListComp elt [⟨.Name x px, iter, ifs, 0⟩] scope pos) (.dat (.list ((l.filter p).map f))) := by
  rw [← onStr_list]
  refine ev_comp ?_ (compIn_str O fo tests el) (by simpa [sd] using hz) hs
  rw [show (sd l).length = l.length by simp [sd]]
  exact it.congr fun i hi => by rw [sd_getD l hi]
/-- x = [..] -/
theorem ex_compN {elt iter : Expr} {x y : Str} {px py : Pos} {ifs : List Expr} {scope : Scope} {pos spos : Pos} (ys : List Str) {l : List Nat} (p : Nat → Bool) (f : Nat → PyData) {rest : List Stmt} {Q : Flow → Shared → Prop} (F : Fe env) (hy : Stores env y) (it : It prog w A r h₀ env C ρ iter l.length (fun i => .dat (.int ((l.getD i 0 : Nat) : Int)))) (O : CompOk env scope x ys) (fo : ∀ k ∈ l, flat (f k) = true)
    (tests : ∀ r L k, k ∈ l → Ti prog w A r h₀ (compEnvC scope (clOf env ys) L env) [] (rhoC ρ x (.int (k : Int)) ys) ifs (p k))
    (el : ∀ r L k, k ∈ l → p k = true → Ev prog w A r h₀ (compEnvC scope (clOf env ys) L env) [] (rhoC ρ x (.int (k : Int)) ys) elt (.dat (f k)))
    (hz : l.length ≤ sizeLine) (hsw : swapsWith (.ListComp elt [⟨.Name x px, iter, ifs, 0⟩] scope pos) (some (.Name y py)) spos.line env = pure true) (hs : ∀ x, foldedSetIterable iter env x = pure x)
    (k : Ex prog w A r h₀ env C (upd ρ y (.dat (.list ((l.filter p).map f)))) rest Q) :
    Ex prog w A r h₀ env C ρ (.Assign [.Name y py] (.ListComp elt [⟨.Name x px, iter, ifs, 0⟩] scope pos) spos :: rest) Q := by
  rw [← onNat_list] at k
  refine ex_comp F hy ?_ (compIn_nat O fo tests el) (by simpa [nd] using hz) hsw hs k
  rw [show (nd l).length = l.length by simp [nd]]
  exact it.congr fun i hi => by rw [nd_getD l hi]
theorem it_rangeN {id : Str} {p pos : Pos} {e : Expr} {K : Frag} {mg mb : Str → Option Value} {m : Nat} (hh : A.handled = none) (F : Fe env) (G : Gnd K mg mb h₀) (hx : env.kindOf "range" = some .globalImplicit) (hn : nsIn K mainGlobals "range" = some none)
    (hst : starEach [e] env = plainArgs [e] env) (x : Ev prog w A r h₀ env C ρ e (.dat (.int (m : Int)))) (hz : m < 2 ^ 62) :
    It prog w A r h₀ env C ρ (.Call (.Name "range" p) [e] [] pos) (List.range m).length (fun i => .dat (.int (((List.range m).getD i 0 : Nat) : Int))) := by
  rw [List.length_range]
  refine (it_range1 (id := id) hh F G hx hn hst x hz).congr fun i hi => ?_
  rw [List.getD_eq_getElem?_getD, List.getElem?_range hi]; rfl
/-- less is known -/
theorem Ex.weaken {ρ' : Rho} {ss : List Stmt} {Q : Flow → Shared → Prop} (x : Ex prog w A r h₀ env C ρ' ss Q) (h : ∀ y a, ρ' y = some a → ρ y = some a) : Ex prog w A r h₀ env C ρ ss Q := .mk fun s S => x.go s (S.weaken h)
theorem rho_le {names : List Str} {as : List Ab} (h : ∀ p ∈ names.zip as, ρ p.1 = some p.2) : ∀ y a, rhoOf names as y = some a → ρ y = some a := fun y a e => by
  unfold rhoOf at e
  have := mem_of_lookup e
  exact h _ this
noncomputable def JoinQ (r : Shared) (h₀ : Heap) (env : Env) (C : Own) (ρ' : Rho) (Q : Flow → Shared → Prop) : Flow → Shared → Prop
  | .next, s => St r h₀ env C ρ' s
  | .ret v, s => Q (.ret v) s
  | .brk, s => Q .brk s
  | .cont, s => Q .cont s
/-- an if whose ways meet -/
theorem ex_ifJ (ρ' : Rho) {t : Expr} {b : Bool} {body orelse rest : List Stmt} {pos : Pos} {Q : Flow → Shared → Prop} (h : Tt prog w A r h₀ env C ρ t b) (k₁ : b = true → Ex prog w A r h₀ env C ρ body (JoinQ r h₀ env C ρ' Q)) (k₂ : b = false → Ex prog w A r h₀ env C ρ orelse (JoinQ r h₀ env C ρ' Q))
    (k : Ex prog w A r h₀ env C ρ' rest Q) : Ex prog w A r h₀ env C ρ (.If t body orelse pos :: rest) Q := by
  have hj : ∀ f s, JoinQ r h₀ env C ρ' Q f s → Then prog w A env rest Q f s := fun f s q => by
    cases f with
    | next => exact k.go s q
    | ret v => exact q
    | brk => exact q
    | cont => exact q
  exact ex_if h (fun c => (k₁ c).mono hj) fun c => (k₂ c).mono hj
theorem ex_join {ρ' : Rho} {Q : Flow → Shared → Prop} (h : ∀ x a, ρ' x = some a → ρ x = some a) : Ex prog w A r h₀ env C ρ [] (JoinQ r h₀ env C ρ' Q) := ex_nil fun s S => S.weaken h
end
end

section
noncomputable def poolQ : List (String × String) := [("html", "html"), ("html", "applet"), ("html", "caption"), ("html", "th"), ("html", "marquee"), ("html", "table"), ("html", "object"), ("html", "td"), ("html", "option"), ("math", "mi"),
  ("html", "button"), ("math", "mo"), ("math", "mn"), ("math", "ms"), ("math", "mtext"), ("svg", "desc"), ("html", "template"), ("svg", "title"), ("svg", "foreignObject"),
  ("math", "annotation-xml"), ("html", "p"), ("html", "ol"), ("html", "ul"), ("html", "optgroup"), ("html", "li"),
  ("svg", "table"), ("math", "td"), ("svg", "applet"), ("math", "caption"), ("svg", "th"), ("math", "marquee"), ("svg", "object"), ("math", "template"), ("svg", "html"),
  ("svg", "option"), ("math", "optgroup"), ("svg", "button"), ("math", "ol"), ("svg", "ul"), ("html", "mi"), ("svg", "mo"), ("html", "mn"), ("svg", "ms"), ("html", "mtext"),
  ("html", "annotation-xml"), ("svg", "annotation-xml"), ("html", "desc"), ("math", "title"), ("html", "title"), ("html", "foreignObject"),
  ("math", "foreignObject"), ("svg", "foreignobject"), ("html", "select"), ("html", "div"), ("svg", "p"), ("math", "desc")]
noncomputable def poolP : List (Str × Str) := poolQ.map fun p => (Str.ofString p.1, Str.ofString p.2)
noncomputable def join2 (p : Str × Str) : Str := p.1 ++ "." ++ p.2
theorem poolL_eq : poolL = poolP.map join2 := by decide +kernel
noncomputable def pairOk (p : Str × Str) : Bool := (Txt.split (join2 p) "." == [p.1, p.2]) && PyData.strOk p.1 && PyData.strOk p.2 && PyData.strOk (join2 p) && decide ((join2 p).length ≤ 100) && (p.1 == "html" || p.1 == "math" || p.1 == "svg")
noncomputable def pairEnds (p : Str × Str) : Bool := sorts.all (fun s => stopsF p.1 p.2 s == endsF (join2 p) s)
theorem pool_ok : poolP.all pairOk = true := by decide +kernel
theorem pool_ends : poolP.all pairEnds = true := by decide +kernel
theorem pool_htm : poolP.all (fun p => PyData.strOk ("html." ++ p.2)) = true := by decide +kernel
end

section
/-- what the law has made -/
structure LawSt (sp nm : List Str) (ns : List Nat) (ws : List Str) : Prop where
  lenN : ns.length = 12
  lenW : ws.length = 12
  nodup : ns.Nodup
  pair : ∀ k, k < 12 → ∃ p ∈ poolP, sp[ns.getD k 0]? = some p.1 ∧ nm[ns.getD k 0]? = some p.2 ∧ ws.getD k "" = join2 p
  okS : ∀ x ∈ sp, PyData.strOk x = true
  okN : ∀ x ∈ nm, PyData.strOk x = true
  small : ∀ n ∈ ns, n < 2 ^ 15
structure RowS (row : List Nat) : Prop where
  nd : row.Nodup
  lt : ∀ k ∈ row, k < 5
  len : row.length ≤ 5
noncomputable def itsOf (ns row : List Nat) : List Nat := row.map fun k => ns.getD k 0
theorem getD_get {α : Type} {l : List α} {k : Nat} {z : α} (h : k < l.length) : l[k]? = some (l.getD k z) := by
  rw [List.getD_eq_getElem?_getD, List.getElem?_eq_getElem h]; rfl
theorem pairOk_split {p : Str × Str} (h : p ∈ poolP) : Txt.split (join2 p) "." = [p.1, p.2] ∧ PyData.strOk p.1 = true ∧ PyData.strOk p.2 = true ∧ PyData.strOk (join2 p) = true ∧ (join2 p).length ≤ 100 ∧ (p.1 = "html" ∨ p.1 = "math" ∨ p.1 = "svg") := by
  have := List.all_eq_true.mp pool_ok p h
  simp only [pairOk, Bool.and_eq_true, beq_iff_eq, decide_eq_true_eq, Bool.or_eq_true] at this
  obtain ⟨⟨⟨⟨⟨a, b⟩, c⟩, d⟩, e⟩, f⟩ := this
  exact ⟨a, b, c, d, e, f.elim (fun f => f.elim .inl fun g => .inr (.inl g)) fun g => .inr (.inr g)⟩
section
variable {sp nm ws : List Str} {ns row : List Nat}
structure At (sp nm ws : List Str) (ns : List Nat) (k : Nat) (S M W : Str) (N : Nat) : Prop where
  n : ns[k]? = some N
  w : ws[k]? = some W
  s : sp[N]? = some S
  m : nm[N]? = some M
  mem : (S, M) ∈ poolP
  eq : W = join2 (S, M)
  sm : N < 2 ^ 15
  nD : ns.getD k 0 = N
  wD : ws.getD k "" = W
  sD : sp.getD N "" = S
  mD : nm.getD N "" = M
theorem LawSt.at (Y : LawSt sp nm ns ws) {k : Nat} (h : k < 12) : ∃ S M W N, At sp nm ws ns k S M W N := by
  obtain ⟨p, hp, h1, h2, h3⟩ := Y.pair k h
  have e1 : ns[k]? = some (ns.getD k 0) := getD_get (by rw [Y.lenN]; exact h)
  refine ⟨p.1, p.2, ws.getD k "", ns.getD k 0, e1, getD_get (by rw [Y.lenW]; exact h), h1, h2, hp, h3, Y.small _ (List.mem_of_getElem? e1), rfl, rfl, ?_, ?_⟩
  · rw [List.getD_eq_getElem?_getD, h1]; rfl
  · rw [List.getD_eq_getElem?_getD, h2]; rfl
theorem LawSt.good (Y : LawSt sp nm ns ws) (R : RowS row) : Good sp nm (itsOf ns row) where
  few := ⟨by simp [itsOf]; have := R.len; omega, fun k hk => by
    obtain ⟨j, hj, rfl⟩ := List.mem_map.mp hk
    obtain ⟨S, M, W, N, a⟩ := Y.at (k := j) (by have := R.lt j hj; omega)
    have := a.sm
    show ns.getD j 0 < 2 ^ 60
    rw [a.nD]; omega⟩
  hv := fun k hk => by
    obtain ⟨j, hj, rfl⟩ := List.mem_map.mp hk
    obtain ⟨S, M, W, N, a⟩ := Y.at (k := j) (by have := R.lt j hj; omega)
    have h1 := (List.getElem?_eq_some_iff.mp a.s).1
    have h2 := (List.getElem?_eq_some_iff.mp a.m).1
    show ns.getD j 0 < _ ∧ ns.getD j 0 < _
    rw [a.nD]; exact ⟨h1, h2⟩
  oS := Y.okS
  oN := Y.okN
theorem LawSt.inj (Y : LawSt sp nm ns ws) {j k : Nat} (hj : j < 12) (hk : k < 12) (e : ns.getD j 0 = ns.getD k 0) : j = k := by
  have h1 : ns[j]? = some (ns.getD j 0) := getD_get (by rw [Y.lenN]; exact hj)
  have h2 : ns[k]? = some (ns.getD k 0) := getD_get (by rw [Y.lenN]; exact hk)
  rw [e, ← h2] at h1
  exact (List.getElem?_inj (by rw [Y.lenN]; exact hj) Y.nodup).mp h1
theorem LawSt.mem (Y : LawSt sp nm ns ws) (R : RowS row) {k : Nat} (hk : k < 12) : ns.getD k 0 ∈ itsOf ns row ↔ k ∈ row := by
  constructor
  · intro h
    obtain ⟨j, hj, e⟩ := List.mem_map.mp h
    exact Y.inj (by have := R.lt j hj; omega) hk e ▸ hj
  · exact fun h => List.mem_map.mpr ⟨k, h, rfl⟩
theorem idx_map {f : Nat → Nat} {row : List Nat} {k : Nat} (h : ∀ j ∈ row, f j = f k → j = k) : (row.map f).idxOf (f k) = row.idxOf k := by
  induction row with
  | nil => rfl
  | cons a l ih =>
    simp only [List.map_cons, List.idxOf_cons]
    by_cases e : a = k
    · subst e; simp
    · have e1 : (f a == f k) = false := by simpa using fun q => e (h a List.mem_cons_self q)
      have e2 : (a == k) = false := by simpa using e
      rw [e1, e2]; simp [ih fun j hj => h j (List.mem_cons_of_mem _ hj)]
theorem LawSt.place (Y : LawSt sp nm ns ws) (R : RowS row) {k : Nat} (hk : k < 12) : placeN (itsOf ns row) (ns.getD k 0) = placeN row k := by
  unfold placeN
  by_cases h : k ∈ row
  · rw [if_pos h, if_pos ((Y.mem R hk).mpr h)]
    rw [itsOf, idx_map (f := fun k => ns.getD k 0) fun j hj e => Y.inj (by have := R.lt j hj; omega) hk e]
  · rw [if_neg h, if_neg fun q => h ((Y.mem R hk).mp q)]
theorem str_cancel {a b c : Str} (h : a ++ b = a ++ c) : b = c := by
  have := congrArg (fun x : Str => x.cps.toList) h
  simp only [Str.cps_append, Array.toList_append] at this
  exact Str.ext' (Array.toList_inj.mp (List.append_cancel_left this))
theorem join_html {S M N : Str} (h : S = "html" ∨ S = "math" ∨ S = "svg") : (S ++ "." ++ M = "html." ++ N) ↔ (S = "html" ∧ M = N) := by
  constructor
  · intro e
    have e' := congrArg (fun x : Str => x.cps.toList.take 1) e
    rcases h with rfl | rfl | rfl
    · have : (Str.ofString "html" ++ Str.ofString ".") = Str.ofString "html." := by decide +kernel
      rw [this] at e
      exact ⟨rfl, str_cancel e⟩
    · simp only [Str.cps_append, Array.toList_append] at e'
      have h1 : (Str.ofString "math").cps.toList = [109, 97, 116, 104] := by decide +kernel
      have h2 : (Str.ofString "html.").cps.toList = [104, 116, 109, 108, 46] := by decide +kernel
      rw [h1, h2] at e'
      simp at e'
    · simp only [Str.cps_append, Array.toList_append] at e'
      have h1 : (Str.ofString "svg").cps.toList = [115, 118, 103] := by decide +kernel
      have h2 : (Str.ofString "html.").cps.toList = [104, 116, 109, 108, 46] := by decide +kernel
      rw [h1, h2] at e'
      simp at e'
  · rintro ⟨rfl, rfl⟩
    have : (Str.ofString "html" ++ Str.ofString ".") = Str.ofString "html." := by decide +kernel
    rw [this]
/-- an element of a name stands in the row -/
theorem LawSt.hasName (Y : LawSt sp nm ns ws) (R : RowS row) (N : Str) : ((itsOf ns row).any fun k => isH sp nm k N) = decide (("html." ++ N : Str) ∈ row.map fun k => ws.getD k "") := by
  rw [Bool.eq_iff_iff, decide_eq_true_eq, List.any_eq_true, itsOf]
  constructor
  · rintro ⟨x, hx, e⟩
    obtain ⟨j, hj, rfl⟩ := List.mem_map.mp hx
    obtain ⟨S, M, W, n, a⟩ := Y.at (k := j) (by have := R.lt j hj; omega)
    unfold isH at e
    rw [a.nD, a.sD, a.mD, Bool.and_eq_true, beq_iff_eq, beq_iff_eq] at e
    refine List.mem_map.mpr ⟨j, hj, ?_⟩
    rw [a.wD, a.eq]
    exact (join_html (pairOk_split a.mem).2.2.2.2.2).mpr e
  · intro h
    obtain ⟨j, hj, e⟩ := List.mem_map.mp h
    obtain ⟨S, M, W, n, a⟩ := Y.at (k := j) (by have := R.lt j hj; omega)
    refine ⟨_, List.mem_map.mpr ⟨j, hj, rfl⟩, ?_⟩
    unfold isH
    rw [a.nD, a.sD, a.mD, Bool.and_eq_true, beq_iff_eq, beq_iff_eq]
    rw [a.wD, a.eq] at e
    exact (join_html (pairOk_split a.mem).2.2.2.2.2).mp e
theorem nd_eqv (l : List Nat) : PyData.eqvAll (nd l) (nd l) = true := by
  induction l with
  | nil => simp [nd, PyData.eqvAll]
  | cons a l ih => simp only [nd, List.map_cons, PyData.eqvAll, intE, beq_self_eq_true, Bool.true_and] at *; exact ih
theorem Good.nameOk {its : List Nat} (Q : Good sp nm its) : PyData.strOk (nameN sp nm its) = true := by
  unfold nameN
  split
  · rename_i k hk
    split
    · exact (Q.at (List.mem_of_getLast? hk)).2.2.2.1
    · decide +kernel
  · decide +kernel
theorem Y_last (e : row ≠ []) : (itsOf ns row).getLast? = some (ns.getD (row.getLast e) 0) := by
  rw [itsOf, List.getLast?_map, List.getLast?_eq_some_getLast e]; rfl
theorem boolE (a b : Bool) : PyData.eqv (.bool a) (.bool b) = (a == b) := by simp [PyData.eqv]
theorem shaped4 (its : List Nat) (a b : Int) {x : Str} (h : PyData.strOk x = true) : SeqAt.shaped (.list [.list (nd its), .int a, .int b, .str x]) = true ∧ PyData.canLay0 (.list [.list (nd its), .int a, .int b, .str x]) = true := by
  have h1 := nd_lay its
  have h2 := nd_depth its
  constructor <;> simp [SeqAt.shaped, PyData.canLay0, PyData.canLayAll0, PyData.depth, PyData.depthAll, h1, h2, h]
theorem LawSt.shownOk (Y : LawSt sp nm ns ws) (R : RowS row) : ∀ x ∈ row.map (fun k => ws.getD k ""), PyData.strOk x = true := fun x hx => by
  obtain ⟨k, hk, rfl⟩ := List.mem_map.mp hx
  obtain ⟨S, M, W, N, a⟩ := Y.at (k := k) (by have := R.lt k hk; omega)
  rw [a.wD, a.eq]; exact (pairOk_split a.mem).2.2.2.1
theorem placeN_ge (row : List Nat) (k : Nat) : decide (placeN row k ≥ 0) = decide (k ∈ row) := by
  unfold placeN
  by_cases h : k ∈ row
  · rw [if_pos h, decide_eq_true h, decide_eq_true]; omega
  · rw [if_neg h, decide_eq_false h]; rfl
theorem RowS.few (R : RowS row) : Few row := ⟨by have := R.len; omega, fun k hk => by have := R.lt k hk; omega⟩
end
end

section
section
variable {w : World} {A : Around} {h : Heap} {mg mb : Str → Option Value} {st t : Addr} {sp nm ws : List Str} {ns row : List Nat}
set_option maxHeartbeats 1000000
theorem fn_seen (G : Gnd (Kf w) mg mb h) (R : Room A 3) (T : StackAt h st t (itsOf ns row)) (TT : TreeAt h t sp nm) (Y : LawSt sp nm ns ws) (Rw : RowS row) :
    Fn PP w A h (.ref 336) [.val (.ref st), .dat (.list (nd ns)), .dat (.list (sd ws)), .dat (.list (nd row))] (.dat (.bool true)) := by
  refine fn_def (names := ["stack", "nodes", "words", "row"]) (as := [.val (.ref st), .dat (.list (nd ns)), .dat (.list (sd ws)), .dat (.list (nd row))]) (more := []) (at_Seen w) G R (fun s us _ hl => ?_) (fun _ => trivial) rfl (by decide) (by decide +kernel) (fun L => by kernel_rfl) fun s₀ L kh G R F => ?_
  · match us, hl with
    | [a, b, c, d], _ => exact BindsTo.of_eq (by kernel_rfl)
  have hsz : sizeLine ≥ 2 ^ 16 := by decide
  have hrl := Rw.len
  refine ex_compN ["words"] (l := row) (fun _ => true) (fun k => .str (ws.getD k "")) F (.inl (by rfl)) (it_nats R.h (by walk_at "ev")) ⟨by rfl, by rfl, by decide, by decide, by rfl, by decide, by rfl⟩ (fun _ _ => rfl) (fun r L k hk => ti_nil) (fun r L k hk _ => ?_) (by omega) (by rfl) (fun _ => by rfl) ?_
  · obtain ⟨S, M, W, N, a⟩ := Y.at (k := k) (by have := Rw.lt k hk; omega)
    have a1 := a.w
    rw [a.wD]
    exact ev_itemS' (by walk_at "ev") (by walk_at "ev") (by have := Rw.lt k hk; omega) a1 (fun _ _ => by rfl)
  rw [filter_tt', show row.map (fun k => PyData.str (ws.getD k "")) = sd (row.map fun k => ws.getD k "") by simp [sd]]
  refine ex_unpack2 (lst := false) (d := .int (-1)) (d' := .str "") R.h F (.inl (by rfl)) (.inl (by rfl)) (by walk_at "ev") (by rfl) (by rfl) (by rfl) ?_
  have Q := Y.good Rw
  have few := Q.few
  have hmany := fn_many G (R.less (by decide)) (T.mono kh) (by have := few.1; omega)
  have hcur := fn_current G (R.less (by decide)) (T.mono kh) (by have := few.1; omega)
  have hname := fn_name G R (T.mono kh) (TT.mono kh) (by have := few.1; omega) (fun k hk => ⟨(Q.hv k hk).1, (Q.hv k hk).2, few.2 k hk⟩) Q.oS Q.oN
  have oname := Q.nameOk
  have T' := T.mono kh
  obtain ⟨a, I, rd⟩ := T.mono kh
  refine ex_ifJ (rhoOf ["stack", "nodes", "words", "row", "shown", "top", "name"] [.val (.ref st), .dat (.list (nd ns)), .dat (.list (sd ws)), .dat (.list (nd row)), .dat (.list (sd (row.map fun k => ws.getD k ""))), .dat (.int (lastN (itsOf ns row))), .dat (.str (nameN sp nm (itsOf ns row)))])
    (b := !(row == [])) (Tt.eq (tt_cmpd (by walk_at "ev") (by walk_at "ev") (cmp_ne R ?_ (by decide +kernel)) (by rfl)) ?_) (fun c => ?_) (fun c => ?_) ?_
  · simp [SeqAt.shaped, PyData.canLay0, nd_lay, PyData.depth, nd_depth]
  · cases row <;> simp [PyData.eqv, PyData.eqvAll]
  · have hne : row ≠ [] := by simpa using c
    have hp := List.length_pos_iff.mpr hne
    have hk := Rw.lt _ (List.getLast_mem hne)
    obtain ⟨S, M, W, N, aa⟩ := Y.at (k := row.getLast hne) (by omega)
    have a1 := aa.n
    have hlast := Y_last (ns := ns) hne
    refine ex_assign F (.inl (by rfl)) (ev_itemN' (k := row.getLast hne) (by walk_at "ev") (ev_itemN (k := -1) (ds := nd row) (by walk_at "ev") (by walk_at "ev") (by omega) (by simp [nd]; omega) (by omega) ?_ (fun _ _ => by rfl)) (by omega) a1 (fun _ _ => by rfl)) (by rfl) ?_
    · have e1 : (nd row)[(nd row).length - 1]? = some (.int ((row.getLast hne : Nat) : Int)) := nd_last (List.getLast?_eq_some_getLast hne)
      rw [show ((-1 : Int) + ((nd row).length : Int)).toNat = (nd row).length - 1 by omega]; exact e1
    have sp1 := (pairOk_split aa.mem).1
    have sp2 := (pairOk_split aa.mem).2.1
    have sp3 := (pairOk_split aa.mem).2.2.2.2.1
    have hl : lastN (itsOf ns row) = N := by rw [lastN_some hlast, aa.nD]
    have hnm : nameN sp nm (itsOf ns row) = if S == "html" then M else "" := by
      unfold nameN; rw [hlast]; dsimp only; rw [aa.nD, aa.sD, aa.mD]
    refine ex_unpack2 (lst := true) (d := .str S) (d' := .str M) R.h F (.inl (by rfl)) (.inl (by rfl)) (Ev.eq (ev_split1 (x := W) (y := ".") (ev_itemN (k := -1) (ds := sd (row.map fun k => ws.getD k "")) (by walk_at "ev") (by walk_at "ev") (by omega) (by simp [sd]; omega) (by omega) ?_ (fun _ _ => by rfl)) (by walk_at "ev") ?_ (by decide +kernel) (by rfl) (by rfl)) ?_) (by rfl) (by rfl) (by rfl) ?_
    · rw [show ((-1 : Int) + ((sd (row.map fun k => ws.getD k "")).length : Int)).toNat = row.length - 1 by simp [sd]; omega]
      rw [sd, List.map_map, List.getElem?_map, ← List.getLast?_eq_getElem?, List.getLast?_eq_some_getLast hne]
      exact congrArg some (congrArg PyData.str aa.wD)
    · rw [aa.eq]; omega
    · rw [aa.eq, sp1]; rfl
    refine ex_assign F (.inl (by rfl)) (ev_if (c := S == "html") (a := .dat (.str (nameN sp nm (itsOf ns row)))) (Tt.eq (by walk_at "tt") (strE _ _)) (fun c => Ev.eq (a := .dat (.str M)) (by walk_at "ev") (by rw [hnm, if_pos c])) (fun c => Ev.eq (a := .dat (.str "")) (by walk_at "ev") (by rw [hnm, if_neg (by rw [c]; decide)]))) (by rfl) ?_
    rw [hl]
    refine ex_join (rho_le ?_)
    intro p hp
    simp only [List.zip_cons_cons, List.zip_nil_right, List.mem_cons, List.not_mem_nil, or_false] at hp
    rcases hp with rfl | rfl | rfl | rfl | rfl | rfl | rfl <;> rfl
  · have : row = [] := by simpa using c
    subst this
    refine ex_join (rho_le ?_)
    intro p hp
    simp only [List.zip_cons_cons, List.zip_nil_right, List.mem_cons, List.not_mem_nil, or_false] at hp
    rcases hp with rfl | rfl | rfl | rfl | rfl | rfl | rfl <;> rfl
  have hits : (row.filter fun _ => true).map (fun k => PyData.int ((ns.getD k 0 : Nat) : Int)) = nd (itsOf ns row) := by
    rw [filter_tt', itsOf, nd, List.map_map]; rfl
  have hlen : row.length = (itsOf ns row).length := by simp [itsOf]
  have hsh := shaped4 (itsOf ns row) (itsOf ns row).length (lastN (itsOf ns row)) oname
  refine ex_if (b := false) (Tt.eq (tt_cmpd (ev_list (evd_cons (by walk_at "ev") (evd_cons (by walk_at "ev") (evd_cons (by walk_at "ev") (evd_cons (by walk_at "ev") evd_nil)))) (by rfl) (by show 4 ≤ sizeLine; decide))
    (Ev.eq (b := .dat (.list [.list (nd (itsOf ns row)), .int (itsOf ns row).length, .int (lastN (itsOf ns row)), .str (nameN sp nm (itsOf ns row))])) (ev_list (evd_cons (ev_compN ["nodes"] (l := row) (fun _ => true) (fun k => .int ((ns.getD k 0 : Nat) : Int)) (it_nats R.h (by walk_at "ev")) ⟨by rfl, by rfl, by decide, by decide, by rfl, by decide, by rfl⟩ (fun _ _ => rfl) (fun r L k hk => ti_nil) (fun r L k hk _ => ?_) (by omega) (fun _ => by rfl))
      (evd_cons (ev_len F G (by rfl) (ns_len w) (by rfl) (by walk_at "ev") (by simp [nd]; omega)) (evd_cons (by walk_at "ev") (evd_cons (by walk_at "ev") evd_nil)))) (by rfl) (by show 4 ≤ sizeLine; decide)) (by rw [hits]; simp [nd, itsOf]))
    (cmp_ne R hsh.1 hsh.1) (by rfl)) (by rw [SeqAt.eqv_refl _ hsh.2]; rfl)) (fun c => nomatch c) (fun _ => ex_go ?_)
  · obtain ⟨S, M, W, N, aa⟩ := Y.at (k := k) (by have := Rw.lt k hk; omega)
    have a1 := aa.n
    rw [aa.nD]
    exact ev_itemN' (by walk_at "ev") (by walk_at "ev") (by have := Rw.lt k hk; omega) a1 (fun _ _ => by rfl)
  refine ex_search (n := 6) (fun _ => false) _ F (.inl (by rfl)) (it_range1 (id := "range") R.h F G (by rfl) (ns_range w) (by rfl) (by walk_at "ev") (by decide)) keeps_self (fun i own h₁ hi hj kb => ?_) (fun hn => by walk_at "retB"; rfl) (fun _ => by rfl)
  have G₁ := G.mono kb
  have I₁ := I.mono kb
  have T₁ := T'.mono kb
  have TT₁ := (TT.mono kh).mono kb
  obtain ⟨S, M, W, N, aa⟩ := Y.at (k := i) (by omega)
  have a1 := aa.n
  have a2 := aa.w
  obtain ⟨sp1, sp2, sp3, sp4, sp5, sp6⟩ := pairOk_split aa.mem
  have hhas := fn_has (k := N) G₁ (R.less (m := 1) (by decide)) T₁
  have hplace := fn_place (k := N) G₁ (R.less (m := 1) (by decide)) T₁ few
  have hhn := fn_hasName (name := M) G₁ (R.less (m := 2) (by decide)) T₁ TT₁ Q sp3
  have hlr := nd_lay row
  have hN : N ∈ itsOf ns row ↔ i ∈ row := aa.nD ▸ Y.mem Rw (k := i) (by omega)
  have hpl : placeN (itsOf ns row) N = placeN row i := aa.nD ▸ Y.place Rw (k := i) (by omega)
  refine ex_assign F (.inl (by rfl)) (ev_if (c := decide (i ∈ row)) (a := .dat (.int (placeN row i))) (Tt.eq (tt_cmpd (by walk_at "ev") (by walk_at "ev") (cmp_in R hlr rfl de_int) (by rfl)) (nd_any row i)) (fun c => ?_) (fun c => ?_)) (by rfl) ?_
  · have hk := of_decide_eq_true c
    refine Ev.eq (ev_index (ns := row.map Int.ofNat) (k := (i : Int)) (Ev.eq (a := .dat (.list (nd row))) (by walk_at "ev") (by rw [nd_as])) (by walk_at "ev") (List.mem_map.mpr ⟨_, hk, rfl⟩) (layable_nd Rw.few) (by rfl) (by rfl)) ?_
    rw [idx_nd, placeN, if_pos hk]
  · refine Ev.eq (a := .dat (.int (-1))) (by walk_at "ev") ?_
    rw [placeN, if_neg (of_decide_eq_false c)]
  refine ex_if (b := false) (Tt.eq (tt_bool (ta_or (tt_cmpd (by walk_at "ev") (by walk_at "ev") (cmp_ne R rfl rfl) (by rfl)) fun _ => ta_or (tt_cmpd (by walk_at "ev") (by walk_at "ev") (cmp_ne R rfl rfl) (by rfl)) fun _ => ta_orN)) ?_) (fun c => nomatch c) (fun _ => ex_go ?_)
  · rw [boolE, intE, placeN_ge, hpl]; simp [hN]
  refine ex_assign F (.inl (by rfl)) (ev_itemS' (ds := [S, M]) (k := 1) (Ev.eq (ev_split1 (x := W) (y := ".") (by walk_at "ev") (by walk_at "ev") (by rw [aa.eq]; omega) (by decide +kernel) (by rfl) (by rfl)) (by rw [aa.eq, sp1])) (Ev.eq ev_int rfl) (by decide) rfl (fun _ _ => by rfl)) (by rfl) ?_
  have hls := sd_lay (Y.shownOk Rw)
  refine ex_if (b := false) (Tt.eq (tt_cmpd (by walk_at "ev") (ev_cmpd (ev_addS (by walk_at "ev") (by walk_at "ev") ?_) (by walk_at "ev") (cmp_in R hls ?_ de_str) (by rfl)) (cmp_ne R rfl rfl) (by rfl)) ?_) (fun c => nomatch c) (fun _ => ex_go ?_)
  · have : (Str.ofString "html.").length = 5 := by decide +kernel
    have h2 := sp5
    simp only [join2, lenA] at h2
    omega
  · exact List.all_eq_true.mp pool_htm _ aa.mem
  · rw [sd_any, boolE, Y.hasName Rw]; simp
  · exact ex_turn rfl (upd_keeps (by rfl) (upd_keeps (by rfl) (upd_keeps (by rfl) keeps_self)))
end
end

section
/-! the highest place, of the reversed list -/
noncomputable def hiR (P : Nat → Bool) : List Nat → Int
  | [] => -1
  | x :: r => if P x then (r.length : Int) else hiR P r
theorem hiR_lt (P : Nat → Bool) : ∀ l, hiR P l < l.length ∧ -1 ≤ hiR P l
  | [] => ⟨by simp [hiR], by simp [hiR]⟩
  | x :: r => by
    have := hiR_lt P r
    unfold hiR
    simp only [List.length_cons]
    split <;> omega
theorem scope_hi (f s : Nat → Bool) : ∀ l, scopeF f s l = (decide (hiR f l ≥ 0) && decide (hiR f l ≥ hiR s l))
  | [] => by simp [scopeF, hiR]
  | x :: r => by
    have hf := hiR_lt f r
    have hs := hiR_lt s r
    rw [scopeF, hiR, hiR]
    by_cases c : f x = true
    · rw [if_pos c, if_pos c]
      symm
      rw [Bool.and_eq_true, decide_eq_true_eq, decide_eq_true_eq]
      refine ⟨by omega, ?_⟩
      split <;> omega
    · rw [if_neg c, if_neg c]
      by_cases c' : s x = true
      · rw [if_pos c', if_pos c']
        symm
        rw [Bool.and_eq_false_iff]
        right
        rw [decide_eq_false_iff_not]
        omega
      · rw [if_neg c', if_neg c']
        exact scope_hi f s r
theorem hiR_congr {P P' : Nat → Bool} : ∀ {l : List Nat}, (∀ x ∈ l, P x = P' x) → hiR P l = hiR P' l
  | [], _ => rfl
  | x :: r, h => by
    rw [hiR, hiR, h x List.mem_cons_self, hiR_congr fun y hy => h y (List.mem_cons_of_mem _ hy)]
theorem hiR_map {P : Nat → Bool} {g : Nat → Nat} : ∀ {l : List Nat}, hiR P (l.map g) = hiR (fun x => P (g x)) l
  | [] => rfl
  | x :: r => by rw [List.map_cons, hiR, hiR, hiR_map, List.length_map]
/-- it is the largest place -/
theorem hiR_spec (P : Nat → Bool) : ∀ l : List Nat, (hiR P l = -1 ∨ ∃ i, i < l.length ∧ P (l.reverse.getD i 0) = true ∧ hiR P l = (i : Int)) ∧ ∀ i, i < l.length → P (l.reverse.getD i 0) = true → (i : Int) ≤ hiR P l
  | [] => ⟨.inl rfl, fun i hi => by simp at hi⟩
  | x :: r => by
    obtain ⟨h1, h2⟩ := hiR_spec P r
    have e1 : ∀ i, i < r.length → (x :: r).reverse.getD i 0 = r.reverse.getD i 0 := fun i hi => by
      rw [List.reverse_cons, List.getD_eq_getElem?_getD, List.getD_eq_getElem?_getD, List.getElem?_append_left (by simpa using hi)]
    have e2 : (x :: r).reverse.getD r.length 0 = x := by
      rw [List.reverse_cons, List.getD_eq_getElem?_getD, List.getElem?_append_right (by simp)]; simp
    have lt := hiR_lt P r
    constructor
    · by_cases c : P x = true
      · right
        exact ⟨r.length, by simp, by rw [e2]; exact c, by rw [hiR, if_pos c]⟩
      · rw [hiR, if_neg c]
        rcases h1 with h | ⟨i, hi, hp, he⟩
        · exact .inl h
        · exact .inr ⟨i, by simp; omega, by rw [e1 i hi]; exact hp, he⟩
    · intro i hi hp
      rw [hiR]
      by_cases q : i < r.length
      · rw [e1 i q] at hp
        have := h2 i q hp
        split <;> omega
      · have : i = r.length := by simp at hi; omega
        subst this
        rw [e2] at hp
        rw [if_pos hp]; exact Int.le_refl _
noncomputable def placesOf (P : Nat → Bool) (row : List Nat) : List Int := ((List.range row.length).filter fun i => P (row.getD i 0)).map Int.ofNat
theorem hi_mem (P : Nat → Bool) (row : List Nat) : hiR P row.reverse ∈ -1 :: placesOf P row := by
  rcases (hiR_spec P row.reverse).1 with h | ⟨i, hi, hp, he⟩
  · rw [h]; exact List.mem_cons_self
  · rw [he]
    rw [List.reverse_reverse] at hp
    exact List.mem_cons_of_mem _ (List.mem_map.mpr ⟨i, List.mem_filter.mpr ⟨List.mem_range.mpr (by simpa using hi), hp⟩, rfl⟩)
theorem hi_le (P : Nat → Bool) (row : List Nat) : ∀ n ∈ -1 :: placesOf P row, n ≤ hiR P row.reverse := by
  intro n hn
  rcases List.mem_cons.mp hn with rfl | hn
  · exact (hiR_lt P row.reverse).2
  · obtain ⟨i, hi, rfl⟩ := List.mem_map.mp hn
    obtain ⟨h1, h2⟩ := List.mem_filter.mp hi
    exact (hiR_spec P row.reverse).2 i (by simpa using h1) (by rw [List.reverse_reverse]; exact h2)
theorem hi_place {row : List Nat} (nd : row.Nodup) (k : Nat) : hiR (fun j => j == k) row.reverse = placeN row k := by
  unfold placeN
  rcases (hiR_spec (fun j => j == k) row.reverse).1 with h | ⟨i, hi, hp, he⟩
  · rw [h, if_neg]
    intro hk
    have h3 := (hiR_spec (fun j => j == k) row.reverse).2 (row.idxOf k) (by simpa using List.idxOf_lt_length_of_mem hk) (by
      rw [List.reverse_reverse, List.getD_eq_getElem?_getD, List.getElem?_eq_getElem (List.idxOf_lt_length_of_mem hk), List.getElem_idxOf]; simp)
    omega
  · rw [he]
    rw [List.reverse_reverse] at hp
    have hi' : i < row.length := by simpa using hi
    rw [List.getD_eq_getElem?_getD, List.getElem?_eq_getElem hi'] at hp
    have e : row[i] = k := by simpa using hp
    have hk : k ∈ row := e ▸ List.getElem_mem hi'
    rw [if_pos hk]
    have : row.idxOf k = i := by rw [← e]; exact List.Nodup.idxOf_getElem nd i hi'
    rw [this]
section
variable {sp nm ws : List Str} {ns row : List Nat}
theorem pairEnds_at {p : Str × Str} (h : p ∈ poolP) {sort : Str} (hs : sort ∈ sorts) : stopsF p.1 p.2 sort = endsF (join2 p) sort := by
  have := List.all_eq_true.mp pool_ends p h
  have := List.all_eq_true.mp this sort hs
  simpa using this
noncomputable def endsAt (ws : List Str) (sort : Str) (k : Nat) : Bool := endsF (ws.getD k "") sort
theorem LawSt.stop (Y : LawSt sp nm ns ws) {k : Nat} (hk : k < 12) {sort : Str} (hs : sort ∈ sorts) : stopAt sp nm sort (ns.getD k 0) = endsAt ws sort k := by
  obtain ⟨S, M, W, N, a⟩ := Y.at hk
  unfold stopAt endsAt
  rw [a.nD, a.sD, a.mD, a.wD, a.eq]
  exact pairEnds_at a.mem hs
theorem LawSt.scope (Y : LawSt sp nm ns ws) (R : RowS row) {sort : Str} (hs : sort ∈ sorts) (f f' : Nat → Bool) (hf : ∀ k ∈ row, f (ns.getD k 0) = f' k) : scopeF f (stopAt sp nm sort) (itsOf ns row).reverse = (decide (hiR f' row.reverse ≥ 0) && decide (hiR f' row.reverse ≥ hiR (endsAt ws sort) row.reverse)) := by
  rw [scope_hi, itsOf, ← List.map_reverse, hiR_map, hiR_map]
  have e1 : hiR (fun x => f (ns.getD x 0)) row.reverse = hiR f' row.reverse := hiR_congr fun x hx => hf x (by simpa using hx)
  have e2 : hiR (fun x => stopAt sp nm sort (ns.getD x 0)) row.reverse = hiR (endsAt ws sort) row.reverse := hiR_congr fun x hx => Y.stop (by have := R.lt x (by simpa using hx); omega) hs
  rw [e1, e2]
theorem LawSt.scopeNode (Y : LawSt sp nm ns ws) (R : RowS row) {sort : Str} (hs : sort ∈ sorts) {k : Nat} (hk : k < 12) : scopeF (fun j => j == ns.getD k 0) (stopAt sp nm sort) (itsOf ns row).reverse = (decide (k ∈ row) && decide (placeN row k ≥ hiR (endsAt ws sort) row.reverse)) := by
  rw [Y.scope R hs _ (fun j => j == k) (fun j hj => ?_), hi_place R.nd, placeN_ge]
  rw [Bool.eq_iff_iff, beq_iff_eq, beq_iff_eq]
  exact ⟨fun e => Y.inj (by have := R.lt j hj; omega) hk e, fun e => by rw [e]⟩
noncomputable def soughtOf (wanted : List Str) : List Str := wanted.map fun n => "html." ++ n
noncomputable def foundAt (ws wanted : List Str) (k : Nat) : Bool := decide (ws.getD k "" ∈ soughtOf wanted)
theorem LawSt.want (Y : LawSt sp nm ns ws) (wanted : List Str) {k : Nat} (hk : k < 12) : wantAt sp nm wanted (ns.getD k 0) = foundAt ws wanted k := by
  obtain ⟨S, M, W, N, a⟩ := Y.at hk
  unfold wantAt foundAt soughtOf
  rw [a.nD, a.sD, a.mD, a.wD, a.eq, Bool.eq_iff_iff, Bool.and_eq_true, beq_iff_eq, decide_eq_true_eq, decide_eq_true_eq]
  have hp := (pairOk_split a.mem).2.2.2.2.2
  constructor
  · rintro ⟨rfl, h⟩
    exact List.mem_map.mpr ⟨M, h, ((join_html hp).mpr ⟨rfl, rfl⟩).symm⟩
  · intro h
    obtain ⟨x, hx, e⟩ := List.mem_map.mp h
    obtain ⟨e1, e2⟩ := (join_html hp).mp e.symm
    exact ⟨e1, by have e3 : M = x := e2
                  rw [e3]; exact hx⟩
theorem LawSt.scopeName (Y : LawSt sp nm ns ws) (R : RowS row) {sort : Str} (hs : sort ∈ sorts) (wanted : List Str) : scopeF (wantAt sp nm wanted) (stopAt sp nm sort) (itsOf ns row).reverse = (decide (hiR (foundAt ws wanted) row.reverse ≥ 0) && decide (hiR (foundAt ws wanted) row.reverse ≥ hiR (endsAt ws sort) row.reverse)) :=
  Y.scope R hs _ _ fun k hk => Y.want wanted (by have := R.lt k hk; omega)
end
end

section
noncomputable def endsD (ws : List Str) : List (Str × PyData) := sorts.map fun s => (s, .list (bd (ws.map fun x => endsF x s)))
theorem endsD_keys (ws : List Str) : (endsD ws).map (·.1) = sorts := by
  unfold endsD; rw [List.map_map]; exact (List.map_congr_left fun _ _ => rfl).trans (List.map_id _)
theorem endsD_look (ws : List Str) {s : Str} (h : s ∈ sorts) : (endsD ws).lookup s = some (.list (bd (ws.map fun x => endsF x s))) := by
  unfold endsD
  generalize sorts = l at h
  induction l with
  | nil => cases h
  | cons a l ih =>
    rw [List.map_cons, List.lookup_cons]
    by_cases e : s = a
    · subst e; simp
    · have : (s == a) = false := by simpa using e
      rw [this]
      exact ih (List.mem_of_ne_of_mem e h)
theorem sorts_ok {s : Str} (h : s ∈ sorts) : PyData.strOk s = true := by
  have : sorts.all (fun s => PyData.strOk s) = true := by decide +kernel
  exact List.all_eq_true.mp this s h
section
variable {w : World} {A : Around} {h : Heap} {mg mb : Str → Option Value} {st t ea : Addr} {sp nm ws : List Str} {ns row : List Nat}
theorem at_142 (w : World) : (Kf w).lookup 142 = some ⟨.type "tuple", none, .seq #[.str "" 345] 0, #[]⟩ := by kernel_rfl
theorem at_134 (w : World) : (Kf w).lookup 134 = some ⟨.type "tuple", none, .seq #[.str "" 332] 0, #[]⟩ := by kernel_rfl
theorem fn_nodeIn3 {its : List Nat} (G : Gnd (Kf w) mg mb h) (R : Room A 2) (T : StackAt h st t its) (TT : TreeAt h t sp nm) (Q : Good sp nm its) {k : Nat} {sort : Str} (os : PyData.strOk sort = true) :
    Fn PP w A h (.ref 149) [.val (.ref st), .dat (.int (k : Int)), .dat (.str sort)] (.dat (.bool (scopeF (fun j => j == k) (stopAt sp nm sort) its.reverse))) :=
  fn_nodeIn (more := []) G R T TT Q os rfl (fun _ => trivial) fun s us k hl => by
    match us, hl with
    | [a, b, c], _ => exact binds_K (G.mono k).X (by kernel_rfl) (at_142 w) rfl rfl rfl
theorem fn_nodeIn2 {its : List Nat} (G : Gnd (Kf w) mg mb h) (R : Room A 2) (T : StackAt h st t its) (TT : TreeAt h t sp nm) (Q : Good sp nm its) {k : Nat} :
    Fn PP w A h (.ref 149) [.val (.ref st), .dat (.int (k : Int))] (.dat (.bool (scopeF (fun j => j == k) (stopAt sp nm "") its.reverse))) :=
  fn_nodeIn (more := [.str "" 345]) G R T TT Q (sort := "") (by decide +kernel) rfl (fun _ => ⟨Rd.str _ _, trivial⟩) fun s us k hl => by
    match us, hl with
    | [a, b], _ => exact binds_K (G.mono k).X (by kernel_rfl) (at_142 w) rfl rfl rfl
theorem fn_inScope3 {its : List Nat} (G : Gnd (Kf w) mg mb h) (R : Room A 2) (T : StackAt h st t its) (TT : TreeAt h t sp nm) (Q : Good sp nm its) {wanted : List Str} {sort : Str} (os : PyData.strOk sort = true) (ow : ∀ x ∈ wanted, PyData.strOk x = true) :
    Fn PP w A h (.ref 141) [.val (.ref st), .dat (.tuple (sd wanted)), .dat (.str sort)] (.dat (.bool (scopeF (wantAt sp nm wanted) (stopAt sp nm sort) its.reverse))) :=
  fn_inScope (more := []) G R T TT Q os ow rfl (fun _ => trivial) fun s us k hl => by
    match us, hl with
    | [a, b, c], _ => exact binds_K (G.mono k).X (by kernel_rfl) (at_134 w) rfl rfl rfl
theorem fn_inScope2 {its : List Nat} (G : Gnd (Kf w) mg mb h) (R : Room A 2) (T : StackAt h st t its) (TT : TreeAt h t sp nm) (Q : Good sp nm its) {wanted : List Str} (ow : ∀ x ∈ wanted, PyData.strOk x = true) :
    Fn PP w A h (.ref 141) [.val (.ref st), .dat (.tuple (sd wanted))] (.dat (.bool (scopeF (wantAt sp nm wanted) (stopAt sp nm "") its.reverse))) :=
  fn_inScope (more := [.str "" 332]) G R T TT Q (sort := "") (by decide +kernel) ow rfl (fun _ => ⟨Rd.str _ _, trivial⟩) fun s us k hl => by
    match us, hl with
    | [a, b], _ => exact binds_K (G.mono k).X (by kernel_rfl) (at_134 w) rfl rfl rfl
theorem fn_hi (G : Gnd (Kf w) mg mb h) (R : Room A 1) (P : Nat → Bool) (hr : row.length ≤ 5) : Fn PP w A h (.ref 331) [.dat (.list ((placesOf P row).map .int))] (.dat (.int (hiR P row.reverse))) :=
  fn_highest G R (by
    unfold placesOf
    have := List.length_filter_le (fun i => P (row.getD i 0)) (List.range row.length)
    simp only [List.length_map, List.length_range] at *
    omega) (hi_mem P row) (hi_le P row)
theorem places_data (P : Nat → Bool) (row : List Nat) : (((List.range row.length).filter fun i => P (row.getD i 0)).map fun (i : Nat) => PyData.int (i : Int)) = (placesOf P row).map .int := by
  unfold placesOf; rw [List.map_map]; rfl
set_option maxHeartbeats 1000000
theorem fn_scoped (G : Gnd (Kf w) mg mb h) (R : Room A 3) (T : StackAt h st t (itsOf ns row)) (TT : TreeAt h t sp nm) (D : DatD PP w h ea (endsD ws)) (Y : LawSt sp nm ns ws) (Rw : RowS row) {turn : Nat} (ht : turn < 6) :
    Fn PP w A h (.ref 341) [.val (.ref st), .dat (.list (nd ns)), .dat (.list (sd ws)), .val (.ref ea), .dat (.list (nd row)), .dat (.int (turn : Int))] (.dat (.bool true)) := by
  refine fn_def (names := ["stack", "nodes", "words", "ends", "row", "turn"]) (as := [.val (.ref st), .dat (.list (nd ns)), .dat (.list (sd ws)), .val (.ref ea), .dat (.list (nd row)), .dat (.int (turn : Int))]) (more := []) (at_Scoped w) G R (fun s us _ hl => ?_) (fun _ => trivial) rfl (by decide) (by decide +kernel) (fun L => by kernel_rfl) fun s₀ L kh G R F => ?_
  · match us, hl with
    | [a, b, c, d, e, f], _ => exact BindsTo.of_eq (by kernel_rfl)
  have hsz : sizeLine ≥ 2 ^ 16 := by decide
  have hrl := Rw.len
  have T₀ := T.mono kh
  have TT₀ := TT.mono kh
  have D₀ := D.mono kh
  have Q := Y.good Rw
  refine ex_compN ["words", "turn"] (l := List.range 3) (fun _ => true) (fun n => .str (nm.getD (ns.getD ((turn + 4 + n) % 6) 0) "")) F (.inl (by rfl)) (it_rangeN (id := "range") R.h F G (by rfl) (ns_range w) (by rfl) (by walk_at "ev") (by decide)) ⟨by rfl, by rfl, by decide, by decide, by rfl, by decide, by rfl⟩ (fun _ _ => rfl) (fun r L k hk => ti_nil) (fun r L n hn _ => ?_) (by simp; omega) (by rfl) (fun _ => by rfl) ?_
  · obtain ⟨S, M, W, N, a⟩ := Y.at (k := (turn + 4 + n) % 6) (by omega)
    have a1 := a.w
    obtain ⟨sp1, sp2, sp3, sp4, sp5, sp6⟩ := pairOk_split a.mem
    rw [a.nD, a.mD]
    refine ev_itemS' (ds := [S, M]) (k := 1) (Ev.eq (ev_split1 (x := W) (y := ".") (ev_itemS' (k := (turn + 4 + n) % 6) (by walk_at "ev") (Ev.eq (ev_mod (ev_add (ev_add (by walk_at "ev") (by walk_at "ev")) (by walk_at "ev")) (by walk_at "ev") (by decide)) ?_) (by omega) a1 (fun _ _ => by rfl)) (by walk_at "ev") (by rw [a.eq]; omega) (by decide +kernel) (by rfl) (by rfl)) (by rw [a.eq, sp1])) (Ev.eq ev_int rfl) (by decide) rfl (fun _ _ => by rfl)
    rw [Int.fmod_eq_emod_of_nonneg _ (by omega)]; rfl
  generalize hM : (fun n => nm.getD (ns.getD ((turn + 4 + n) % 6) 0) "") = Mk
  have oM : ∀ n, PyData.strOk (Mk n) = true ∧ (Mk n).length ≤ 100 ∧ PyData.strOk ("html." ++ Mk n) = true := fun n => by
    obtain ⟨S, M, W, N, a⟩ := Y.at (k := (turn + 4 + n) % 6) (by omega)
    obtain ⟨sp1, sp2, sp3, sp4, sp5, sp6⟩ := pairOk_split a.mem
    subst hM
    show PyData.strOk (nm.getD (ns.getD ((turn + 4 + n) % 6) 0) "") = true ∧ _ ∧ PyData.strOk ("html." ++ nm.getD (ns.getD ((turn + 4 + n) % 6) 0) "") = true
    rw [a.nD, a.mD]
    refine ⟨sp3, ?_, List.all_eq_true.mp pool_htm _ a.mem⟩
    simp only [join2, lenA] at sp5
    show (nm.getD (ns.getD ((turn + 4 + n) % 6) 0) "").length ≤ 100
    rw [a.nD, a.mD]; omega
  rw [show ((List.range 3).filter (fun _ => true)).map (fun n => PyData.str (nm.getD (ns.getD ((turn + 4 + n) % 6) 0) "")) = sd [Mk 0, Mk 1, Mk 2] by subst hM; rfl]
  have hlr := nd_lay row
  refine ex_search (fun _ => false) _ F (.inr ⟨by rfl, by rfl⟩) (it_dict R.h (by walk_at "ev") D₀) keeps_self (fun i own h₁ hi hj kb => ?_) (fun hn => ?_) (fun _ => by rfl)
  · have G₁ := G.mono kb
    have T₁ := T₀.mono kb
    have TT₁ := TT₀.mono kb
    have D₁ := D₀.mono kb
    rw [endsD_keys]
    have hs : sorts.getD i "" ∈ sorts := by
      have : i < sorts.length := by simpa [endsD] using hi
      rw [List.getD_eq_getElem?_getD, List.getElem?_eq_getElem this]; exact List.getElem_mem this
    generalize sorts.getD i "" = sort at hs
    have os := sorts_ok hs
    have hhi := fn_hi G₁ (R.less (m := 1) (by decide)) (endsAt ws sort) hrl
    refine ex_assign F (.inl (by rfl)) (ev_callG F G₁ (by rfl) (ns_highest w) (by decide +kernel) (kp_highest w) (by rfl) (evl_cons (Ev.eq (ev_compP (ys := ["sort", "ends"]) (n := row.length) (d := fun i => .int (i : Int)) (e := fun i => .int ((row.getD i 0 : Nat) : Int)) (f := fun i => .int (i : Int)) (p := fun i => endsAt ws sort (row.getD i 0))
      R.h (fun L => ⟨by rfl, by rfl, by rfl⟩) (itP_enum R.h F G₁ (by rfl) (ns_enumerate w) (by rfl) (by walk_at "ev")) ⟨by rfl, by rfl, by decide, by decide, by rfl, by decide⟩ (by rfl) (by rfl) (fun _ => by rfl) (by omega) (fun r' L C' i hi => ti_one (tt_val ?_ (by rfl))) (fun r' L C' i hi _ => by walk_at "ev") (fun _ => rfl) ⟨by rfl, by rfl⟩ (fun _ => by rfl)) (by rw [places_data])) evl_nil) hhi) (by rfl) ?_
    · have hk : row.getD i 0 < 5 := Rw.lt _ (getD_mem hi)
      refine ev_item (k := ((row.getD i 0 : Nat) : Int)) (ds := bd (ws.map fun x => endsF x sort)) (ev_dictItem (by walk_at "ev") (by walk_at "ev") D₁ (endsD_look ws hs) (fun _ _ => by rfl)) (by walk_at "ev") (by omega) (by omega) ?_ (fun _ _ => by rfl)
      obtain ⟨S, M, W, N, a⟩ := Y.at (k := row.getD i 0) (by omega)
      simp only [Int.toNat_natCast, bd, List.getElem?_map, a.w, Option.map_some]
      unfold endsAt; rw [a.wD]
    refine ex_search (n := 6) (fun _ => false) _ F (.inl (by rfl)) (it_range1 (id := "range") R.h F G₁ (by rfl) (ns_range w) (by rfl) (by walk_at "ev") (by decide)) keeps_self (fun i own h₂ hi hj kb₂ => ?_) (fun hn => ?_) (fun _ => by rfl)
    · have G₂ := G₁.mono kb₂
      obtain ⟨S, M, W, N, aa⟩ := Y.at (k := i) (by omega)
      have a1 := aa.n
      have hnode := fn_nodeIn3 (k := N) G₂ R (T₁.mono kb₂) (TT₁.mono kb₂) Q os
      have hsc := Y.scopeNode Rw hs (k := i) (by omega)
      rw [aa.nD] at hsc
      rw [hsc] at hnode
      refine ex_if (b := false) (Tt.eq (tt_cmpd (by walk_at "ev") (Ev.eq (b := .dat (.bool (decide (i ∈ row) && decide (placeN row i ≥ hiR (endsAt ws sort) row.reverse)))) (ev_and (Ev.eq (ev_cmpd (by walk_at "ev") (by walk_at "ev") (cmp_in R hlr rfl de_int) (by rfl)) (congrArg (fun b => Ab.dat (.bool b)) (nd_any row i))) fun c => ev_one (ev_cmpd ?_ (by walk_at "ev") cmp_ge (by rfl))) rfl) (cmp_ne R rfl rfl) (by rfl)) ?_) (fun c => nomatch c) (fun _ => ex_go (ex_turn rfl (upd_keeps (by rfl) keeps_self)))
      · have hk := of_decide_eq_true c
        refine Ev.eq (ev_index (ns := row.map Int.ofNat) (k := (i : Int)) (Ev.eq (a := .dat (.list (nd row))) (by walk_at "ev") (by rw [nd_as])) (by walk_at "ev") (List.mem_map.mpr ⟨_, hk, rfl⟩) (layable_nd Rw.few) (by rfl) (by rfl)) ?_
        rw [idx_nd, placeN, if_pos hk]
      · rw [boolE]; simp
    · refine ex_search (n := 2) (fun _ => false) _ F (.inl (by rfl)) ((it_list R.h (ev_list (ds := [.tuple (sd [Mk 0]), .tuple (sd [Mk 1, Mk 2])]) (evd_cons (ev_tuple (ds := [.str (Mk 0)]) (evd_cons (ev_itemS' (ds := [Mk 0, Mk 1, Mk 2]) (k := 0) (by walk_at "ev") (Ev.eq ev_int rfl) (by decide) rfl (fun _ _ => by rfl)) evd_nil) (by rfl) (by show 1 ≤ sizeLine; decide))
        (evd_cons (ev_tuple (ds := [.str (Mk 1), .str (Mk 2)]) (evd_cons (ev_itemS' (ds := [Mk 0, Mk 1, Mk 2]) (k := 1) (by walk_at "ev") (Ev.eq ev_int rfl) (by decide) rfl (fun _ _ => by rfl)) (evd_cons (ev_itemS' (ds := [Mk 0, Mk 1, Mk 2]) (k := 2) (by walk_at "ev") (Ev.eq ev_int rfl) (by decide) rfl (fun _ _ => by rfl)) evd_nil)) (by rfl) (by show 2 ≤ sizeLine; decide)) evd_nil)) (by rfl) (by show 2 ≤ sizeLine; decide)))) keeps_self (fun i own h₂ hi hj kb₂ => ?_) (fun hn => ex_turn rfl (upd_keeps (by rfl) (upd_keeps (by rfl) keeps_self))) (fun _ => by rfl)
      have hwn : ∃ wn : List Str, ([.tuple (sd [Mk 0]), .tuple (sd [Mk 1, Mk 2])] : List PyData).getD i .none = .tuple (sd wn) ∧ wn.length ≤ 2 ∧ ∀ x ∈ wn, ∃ n, x = Mk n := by
        match i, hi with
        | 0, _ => exact ⟨[Mk 0], rfl, by simp, fun x hx => ⟨0, by simpa using hx⟩⟩
        | 1, _ => exact ⟨[Mk 1, Mk 2], rfl, by simp, fun x hx => by
            simp only [List.mem_cons, List.not_mem_nil, or_false] at hx
            rcases hx with rfl | rfl
            · exact ⟨1, rfl⟩
            · exact ⟨2, rfl⟩⟩
      obtain ⟨wn, hw, hwl, hwm⟩ := hwn
      rw [hw]
      have ow : ∀ x ∈ wn, PyData.strOk x = true := fun x hx => by obtain ⟨n, rfl⟩ := hwm x hx; exact (oM n).1
      have oso : ∀ x ∈ soughtOf wn, PyData.strOk x = true := fun x hx => by
        obtain ⟨y, hy, rfl⟩ := List.mem_map.mp hx
        obtain ⟨n, rfl⟩ := hwm y hy; exact (oM n).2.2
      have hls := sd_lay oso
      have G₂ := G₁.mono kb₂
      have hin3 := fn_inScope3 (wanted := wn) G₂ R (T₁.mono kb₂) (TT₁.mono kb₂) Q os ow
      have hin2 := fn_inScope2 (wanted := wn) G₂ R (T₁.mono kb₂) (TT₁.mono kb₂) Q ow
      rw [Y.scopeName Rw hs wn] at hin3
      rw [Y.scopeName Rw (sort := "") (by decide +kernel) wn] at hin2
      have hhi2 := fn_hi G₂ (R.less (m := 1) (by decide)) (foundAt ws wn) hrl
      refine ex_assign F (.inr ⟨by rfl, by rfl⟩) (Ev.eq (b := .dat (.list (sd (soughtOf wn)))) (ev_compS [] (l := wn) (fun _ => true) (fun x => .str ("html." ++ x)) (it_strsT R.h (by walk_at "ev")) ⟨by rfl, by rfl, by decide, by decide, by rfl, by decide, by rfl⟩ (fun _ _ => rfl) (fun r L k hk => ti_nil) (fun r L k hk _ => ev_addS (by walk_at "ev") (by walk_at "ev") ?_) (by omega) (fun _ => by rfl)) (by rw [filter_tt', soughtOf, sd, List.map_map]; rfl)) (by rfl) ?_
      · obtain ⟨n, rfl⟩ := hwm k hk
        have := (oM n).2.1
        have h5 : (Str.ofString "html.").length = 5 := by decide +kernel
        omega
      refine ex_assign F (.inl (by rfl)) (ev_callG F G₂ (by rfl) (ns_highest w) (by decide +kernel) (kp_highest w) (by rfl) (evl_cons (Ev.eq (ev_compP (ys := ["words", "sought"]) (n := row.length) (d := fun i => .int (i : Int)) (e := fun i => .int ((row.getD i 0 : Nat) : Int)) (f := fun i => .int (i : Int)) (p := fun i => foundAt ws wn (row.getD i 0))
        R.h (fun L => ⟨by rfl, by rfl, by rfl⟩) (itP_enum R.h F G₂ (by rfl) (ns_enumerate w) (by rfl) (by walk_at "ev")) ⟨by rfl, by rfl, by decide, by decide, by rfl, by decide⟩ (by rfl) (by rfl) (fun _ => by rfl) (by omega) (fun r' L C' i hi => ti_one ?_) (fun r' L C' i hi _ => by walk_at "ev") (fun _ => rfl) ⟨by rfl, by rfl⟩ (fun _ => by rfl)) (by rw [places_data])) evl_nil) hhi2) (by rfl) ?_
      · have hk : row.getD i 0 < 5 := Rw.lt _ (getD_mem hi)
        obtain ⟨S, M, W, N, a⟩ := Y.at (k := row.getD i 0) (by omega)
        have a2 := a.w
        have oW : PyData.strOk W = true := by rw [a.eq]; exact (pairOk_split a.mem).2.2.2.1
        refine Tt.eq (tt_cmpd (by walk_at "ev") (by walk_at "ev") (cmp_in R hls (cl_str oW) de_str) (by rfl)) ?_
        rw [sd_any]; unfold foundAt; rw [a.wD]
      refine ex_assign F (.inl (by rfl)) (Ev.eq (b := .dat (.bool (decide (hiR (foundAt ws wn) row.reverse ≥ 0) && decide (hiR (foundAt ws wn) row.reverse ≥ hiR (endsAt ws sort) row.reverse)))) (ev_and (ev_cmpd (by walk_at "ev") (by walk_at "ev") cmp_ge (by rfl)) fun _ => ev_one (ev_cmpd (by walk_at "ev") (by walk_at "ev") cmp_ge (by rfl))) rfl) (by rfl) ?_
      refine ex_if (b := false) (Tt.eq (tt_bool (ta_or (tt_cmpd (by walk_at "ev") (by walk_at "ev") (cmp_ne R rfl rfl) (by rfl)) fun _ => ta_or (tt_bool (ta_and (tt_cmpd (by walk_at "ev") (by walk_at "ev") (cmp_eq R (sh_str os) (by decide +kernel)) (by rfl)) fun _ => ta_and (tt_cmpd (by walk_at "ev") (by walk_at "ev") (cmp_ne R rfl rfl) (by rfl)) fun _ => ta_andN)) fun _ => ta_orN)) ?_) (fun c => nomatch c) (fun _ => ex_go (ex_turn rfl (upd_keeps (by rfl) (upd_keeps (by rfl) (upd_keeps (by rfl) (upd_keeps (by rfl) keeps_self))))))
      rw [boolE, boolE, strE]
      by_cases e : sort = ""
      · subst e; simp
      · have : (sort == ("" : Str)) = false := by simpa using e
        rw [this]; simp
  · obtain ⟨S, M, W, N, aa⟩ := Y.at (k := turn) (by omega)
    have a1 := aa.n
    have hn3 := fn_nodeIn3 (k := N) (sort := "") G R T₀ TT₀ Q (by decide +kernel)
    have hn2 := fn_nodeIn2 (k := N) G R T₀ TT₀ Q
    refine ex_retB2 Sub.refl (ev_cmpd (by walk_at "ev") (by walk_at "ev") (cmp_eq R rfl rfl) (by rfl)) ?_ (fun _ _ x => x)
    rw [boolE]; simp
end
end

section

section
variable {prog : Program} {w : World} {A : Around} {r : Shared} {h₀ : Heap} {env : Env} {C : Own} {ρ : Rho} {s : Shared} {K : Frag} {mg mb : Str → Option Value} {n : Nat}
/-- a turn's end, where what holds may speak of the heap -/
noncomputable def TurnH {σ : Type} (r : Shared) (h₁ : Heap) (env : Env) (own : Own) (Cf : σ → Own) (ρf : σ → Rho) (I : σ → Heap → Prop) (Q : Flow → Shared → Prop) : Flow → Shared → Prop
  | .ret v, s => Q (.ret v) s
  | .brk, _ => False
  | _, s => ∃ c, I c (vis env (own ++ Cf c) s.heap) ∧ St r h₁ env (own ++ Cf c) (ρf c) s
theorem ex_forH {σ : Type} (Cf : σ → Own) (ρf : σ → Rho) (Inv : Nat → σ → Heap → Prop) (c₀ : σ) {iter : Expr} {item : Nat → Ab} {x : Str} {xp pos : Pos} {body rest : List Stmt} {Q : Flow → Shared → Prop}
    (F : Fe env) (hx : Stores env x) (adr : ∀ c c', (Cf c).map (·.1) = (Cf c').map (·.1)) (it : It prog w A r h₀ env (Cf c₀) ρ iter n item) (hρ : ∀ y a, ρf c₀ y = some a → ρ y = some a) (mono : ∀ i c h h', Sub h h' → Inv i c h → Inv i c h') (h0 : Inv 0 c₀ h₀)
    (turn : ∀ i c own h₁, i < n → Inv i c h₁ → Sub h₀ h₁ → Ex prog w A r h₁ env (own ++ Cf c) (upd (ρf c) x (item i)) body (TurnH r h₁ env own Cf ρf (Inv (i + 1)) Q))
    (done : ∀ c h₁, Sub h₀ h₁ → Inv n c h₁ → Ex prog w A r h₁ env (Cf c) (ρf c) rest Q)
    (hs : ∀ v, foldedSetIterable iter env v = pure v) : Ex prog w A r h₀ env (Cf c₀) ρ (.For (.Name x xp) iter body [] pos :: rest) Q := ex_then (ss := []) fun s S => by
  refine wpAny_For (wpAny_mono (it.go s S) (fun xv s₁ h₁ => wpAny_mono h₁ (fun itv s₂ h₂ => ?_) fun _ _ f => f.elim) fun _ _ f => f.elim) hs
  obtain ⟨k₂, I, fp, wr, P, Sx, rfl, W, sx0, hal, hwn, hwf, hfp, hP⟩ := h₂
  have S₂ := S.keeps k₂
  have hd : ∀ b ∈ wr, b ∉ mu env (Cf c₀) := fun b hb => mu_of_none S (hwf b hb)
  have hmu : ∀ c b, b ∈ mu env (Cf c) ↔ b ∈ mu env (Cf c₀) := fun c b => by unfold mu; rw [adr c c₀]
  generalize hgd : hideAll s₂.heap (mu env (Cf c₀) ++ wr) = g at hP
  have hgs : Sub g (vis env (ownAt wr s₂.heap ++ Cf c₀) s₂.heap) := by
    subst hgd
    exact hide_eq _ fun b => by rw [mem_mu_own, List.mem_append]
  have hsg : Sub (vis env (Cf c₀) s.heap) g := fun b o e => by
    subst hgd
    refine hideAll_get _ (kp_sub k₂ b o (of_hideAll _ e)) fun z => ?_
    rcases List.mem_append.mp z with z | z
    · exact hide_not e z
    · have q := of_hideAll _ e
      rw [hwf b z] at q; cases q
  have hbg : Sub h₀ g := S.base.trans hsg
  have S₀ : St r g env (ownAt wr s₂.heap ++ Cf c₀) (ρf c₀) s₂ := by
    refine st_own (S₂.weaken hρ) hwn hd (hal 0 _ sx0) hgs fun y a e => ?_
    obtain ⟨m, hn, hv⟩ := S.ns
    obtain ⟨u, v, q⟩ := hv y a (hρ y a e)
    exact ⟨m, u, hn.keeps (kp_sub k₂), v.keeps (kp_sub k₂), Ab.mono (hsg.trans hgs) q⟩
  refine codeAny_forLoop (R := fun r s' => match r with | .ok f => Then prog w A env rest Q f s' | .error e => cameBackBy (model prog w) A env (fun _ _ => False) e s')
    (fun k s' => ∃ i c, i ≤ n ∧ k = n + 1 - i ∧ Inv i c (vis env (ownAt wr s'.heap ++ Cf c) s'.heap) ∧ Sx i s'.heap ∧ St r g env (ownAt wr s'.heap ++ Cf c) (ρf c) s' ∧ ∃ h tk, s' = { s₂ with heap := h, toks := tk }) ?_ (n + 1)
    ⟨0, c₀, Nat.zero_le _, rfl, mono _ _ _ _ (hbg.trans hgs) h0, sx0, S₀, s₂.heap, s₂.toks, rfl⟩
  rintro k s' ⟨i, c, hin, rfl, hI, sx, S', hh, tk, rfl⟩
  have hdc : ∀ b ∈ wr, b ∉ mu env (Cf c) := fun b hb hm => hd b hb ((hmu c b).mp hm)
  by_cases hlt : i < n
  · refine W.item i _ _ _ hlt sx fun v h₁ tk₁ hPv sx₁ hk₁ => ?_
    have S₁ : St r (vis env (ownAt wr hh ++ Cf c) hh) env (ownAt wr h₁ ++ Cf c) (ρf c) { s₂ with heap := h₁, toks := tk₁ } := st_next (s := { s₂ with heap := hh, toks := tk }) (s' := { s₂ with heap := h₁, toks := tk₁ }) (S'.rebase Sub.refl) ⟨_, _, rfl⟩ hdc (hal _ _ sx₁) hk₁
    refine wpAny_assign_Name (st_store (a := item i) F S₁ hx (Ab.mono (S'.base.trans S₁.base) (hP i v hlt hPv)) fun s₃ S₃ hv₃ hk₃ => ?_)
    have sx₃ : Sx (i + 1) s₃.heap := W.frame _ _ _ sx₁ fun b hb o e => hk₃ b o (fun z => (hfp b hb).1 ((hmu c b).mp (by
        rcases List.mem_cons.mp z with z | z
        · exact z ▸ List.mem_cons_self
        · exact List.mem_cons_of_mem _ (List.mem_append_left _ z)))) e
    refine wpAny_mono ((turn i c (ownAt wr h₁) (vis env (ownAt wr h₁ ++ Cf c) s₃.heap) hlt (mono _ _ _ _ S₃.base hI) (hbg.trans (S'.base.trans S₃.base))).go s₃ (S₃.rebase Sub.refl)) (fun f s₄ h₄ => ?_) fun _ _ f => f.elim
    have fin : ∀ c', Inv (i + 1) c' (vis env (ownAt wr h₁ ++ Cf c') s₄.heap) → St r (vis env (ownAt wr h₁ ++ Cf c) s₃.heap) env (ownAt wr h₁ ++ Cf c') (ρf c') s₄ → ∃ m, m < n + 1 - i ∧ ∃ i c, i ≤ n ∧ m = n + 1 - i ∧ Inv i c (vis env (ownAt wr s₄.heap ++ Cf c) s₄.heap) ∧ Sx i s₄.heap ∧ St r g env (ownAt wr s₄.heap ++ Cf c) (ρf c) s₄ ∧ ∃ h tk, s₄ = { s₂ with heap := h, toks := tk } := by
      intro c' hI' S₄
      have keepF : ∀ b ∈ fp, ∀ o, s₃.heap.get? b = some o → s₄.heap.get? b = some o := fun b hb o e => by
        by_cases hw : b ∈ wr
        · have hm : (b, (h₁.get? b).getD default) ∈ ownAt wr h₁ := List.mem_map.mpr ⟨b, hw, rfl⟩
          have e₄ := S₄.obj _ (List.mem_append_left _ hm)
          have e₃ := S₃.obj _ (List.mem_append_left _ hm)
          rw [e] at e₃
          exact e₄.trans e₃.symm
        · have : (vis env (ownAt wr h₁ ++ Cf c) s₃.heap).get? b = some o := hideAll_get _ e fun z => by
            rcases mem_mu_own.mp z with z | z
            · exact (hfp b hb).1 ((hmu c b).mp z)
            · exact hw z
          exact base_s S₄ b o this
      have sx₄ : Sx (i + 1) s₄.heap := W.frame _ _ _ sx₃ keepF
      have own₄ : ownAt wr s₄.heap = ownAt wr h₁ := by
        unfold ownAt
        refine List.map_congr_left fun b hb => ?_
        have hm : (b, (h₁.get? b).getD default) ∈ ownAt wr h₁ := List.mem_map.mpr ⟨b, hb, rfl⟩
        have e₄' : s₄.heap.get? b = some ((h₁.get? b).getD default) := S₄.obj _ (List.mem_append_left _ hm)
        rw [e₄']; rfl
      refine ⟨n + 1 - (i + 1), by omega, i + 1, c', hlt, rfl, own₄ ▸ hI', sx₄, ?_, ?_⟩
      · rw [own₄]
        exact S₄.rebase (S'.base.trans (S₃.base.trans S₄.base))
      · obtain ⟨h4, t4, e4⟩ := S₄.same
        obtain ⟨h2, t2, e2⟩ := S₂.same
        exact ⟨h4, t4, by rw [e4, e2]⟩
    cases f with
    | ret v => exact h₄
    | brk => exact h₄.elim
    | next => obtain ⟨c', a, b⟩ := h₄; exact fin c' a b
    | cont => obtain ⟨c', a, b⟩ := h₄; exact fin c' a b
  · have e : i = n := by omega
    subst e
    refine W.done _ _ _ sx fun h' tk' hk' => wpAny_execs_nil ?_
    have S'' : St r (vis env (ownAt wr hh ++ Cf c) hh) env (Cf c) (ρf c) { s₂ with heap := h', toks := tk' } := st_done (s := { s₂ with heap := hh, toks := tk }) (s' := { s₂ with heap := h', toks := tk' }) (S'.rebase Sub.refl) Sub.refl ⟨_, _, rfl⟩ hdc hk'
    exact (done c _ (hbg.trans S'.base) hI).go _ S''
theorem ex_turnH {σ : Type} {Cf : σ → Own} {ρf : σ → Rho} {I : σ → Heap → Prop} {own : Own} {Q : Flow → Shared → Prop} (c : σ) (hC : C = own ++ Cf c) (mono : ∀ h h', Sub h h' → I c h → I c h') {h₁ : Heap} (hI : I c h₀) (hb : Sub h₁ h₀) (h : ∀ x a, ρf c x = some a → ρ x = some a) : Ex prog w A r h₀ env C ρ [] (TurnH r h₁ env own Cf ρf I Q) := ex_nil fun s S => by
  subst hC
  exact ⟨c, mono _ _ S.base hI, (S.weaken h).rebase (hb.trans S.base)⟩

/-- own objects differ -/
theorem ex_nodup {ss : List Stmt} {Q : Flow → Shared → Prop} (k : (C.map (·.1)).Nodup → Ex prog w A r h₀ env C ρ ss Q) : Ex prog w A r h₀ env C ρ ss Q := .mk fun s S => (k (own_nodup S)).go s S
theorem own_fn {C : Own} (nd : (C.map (·.1)).Nodup) : ∃ f : Addr → Obj, C = (C.map (·.1)).map fun a => (a, f a) := by
  refine ⟨fun a => ((C.find? fun p => p.1 == a).map (·.2)).getD default, ?_⟩
  rw [List.map_map]
  symm
  refine (List.map_congr_left fun p hp => ?_).trans (List.map_id _)
  have : C.find? (fun q => q.1 == p.1) = some p := by
    induction C with
    | nil => cases hp
    | cons q C ih =>
      rw [List.map_cons] at nd
      obtain ⟨h1, h2⟩ := List.nodup_cons.mp nd
      rw [List.find?_cons]
      rcases List.mem_cons.mp hp with rfl | hp
      · simp
      · have : (q.1 == p.1) = false := by
          simp only [beq_eq_false_iff_ne, ne_eq]
          intro e
          exact h1 (e ▸ List.mem_map.mpr ⟨p, hp, rfl⟩)
        rw [this]
        exact ih h2 hp
  simp [Function.comp, this]
/-- what a name holds is read -/
theorem ex_read {x : Str} {v : Value} {d : PyData} {ss : List Stmt} {Q : Flow → Shared → Prop} (hx : ρ x = some (.val v)) (hd : Rd h₀ v d) (k : Ex prog w A r h₀ env C (upd ρ x (.dat d)) ss Q) : Ex prog w A r h₀ env C ρ ss Q := .mk fun s S => by
  refine k.go s ⟨S.same, S.base, ?_, S.cell, S.obj, S.apart⟩
  obtain ⟨m, hn, hv⟩ := S.ns
  refine ⟨m, hn, fun y a hy => ?_⟩
  unfold upd at hy
  by_cases e : y = x
  · rw [if_pos e] at hy; cases hy
    subst e
    obtain ⟨u, q, a⟩ := hv y _ hx
    cases a
    exact ⟨v, q, hd.mono S.base⟩
  · rw [if_neg e] at hy
    exact hv y a hy
theorem ex_base {ss : List Stmt} {Q : Flow → Shared → Prop} {e : Expr} {v : Value} (k : Ex prog w A r h₀ env C ρ ss Q) : Ex prog w A r h₀ env C ρ ss Q := k

/-- own[i] = value -/
theorem ex_setitemO (i : Nat) {κ : Type} [DecidableEq κ] {knd : KeyKind prog w κ} {d : Addr} {o e idx : Expr} {spos pos : Pos} {key : κ} {kd : PyData} {dv : PyData} {od : Obj} {kvs : List (κ × Value)} {rest : List Stmt} {Q : Flow → Shared → Prop} (y : Ev prog w A r h₀ env C ρ e (.dat dv))
    (ho : Ev prog w A r h₀ env C ρ o (.val (.ref d))) (hi : Ev prog w A r h₀ env C ρ idx (.dat kd)) (hk : ∀ u, Rd gNil u kd → knd.is key u = true) (hf : flat kd = true)
    (hC : C[i]? = some (d, od)) (hD : ObjDict knd od kvs) (hz : kvs.length ≤ sizeLine)
    (hs : swapsWith e (some (.Subscript o idx spos)) pos.line env = pure false)
    (k : ∀ od' u h₁, Sub h₀ h₁ → Rd h₁ u dv → ObjDict knd od' (stored kvs key u) → Ex prog w A r h₁ env (C.set i (d, od')) ρ rest Q) :
    Ex prog w A r h₀ env C ρ (.Assign [.Subscript o idx spos] e pos :: rest) Q := .mk fun s S =>
  wpAny_execs_cons (wpAny_Assign_Subscript (y.use S fun u s₁ k₁ S₁ hu => ho.use S₁ fun ov s₂ k₂ S₂ e2 => hi.use S₂ fun iv s₃ k₃ S₃ e3 => by
    cases e2
    have l₃ := S₃.obj _ (List.mem_of_getElem? hC)
    refine wpAny_setItem_pairs (hsz := hz) (hk iv (Rd.fl e3 hf)) (hD.of l₃) fun h' hD' hsb => ?_
    obtain ⟨od', e', hO'⟩ := ObjDict.to hD'
    have e1 := own_at hC od'
    have S₄ : St r (vis env C s₁.heap) env C ρ s₃ := S₃.rebase (vis_mono (kp_sub (kp_trans k₂ k₃)))
    rw [e1.1] at S₄
    have := st_set (tk := s₃.toks + 1) S₄ hsb e'
    refine (k od' u (vis env C s₁.heap) S₁.base hu hO').go _ ?_
    rw [e1.2]
    rw [← e1.1] at this
    exact this) hs)
/-- own[name] -/
theorem ev_dictItemO {o i : Expr} {pos : Pos} {a : Addr} {k : Str} {d : PyData} {od : Obj} {kvs : List (Str × Value)} {v : Value} (x : Ev prog w A r h₀ env C ρ o (.val (.ref a))) (y : Ev prog w A r h₀ env C ρ i (.dat (.str k))) (hC : (a, od) ∈ C) (D : ObjDict (strKind prog w) od kvs) (hv : valueAt kvs k = some v) (hd : Rd h₀ v d)
    (hs : ∀ o u, subscripted i false (.ref o) (.str k u) = operate [.ref o, .str k u] (getItem (.ref o) (.str k u))) : Ev prog w A r h₀ env C ρ (.Subscript o i pos) (.dat d) := .mk fun s S =>
  Subscript_ (ev_two x y S fun u u' s' k' S' hu hu' => by
    cases hu
    obtain ⟨t, rfl⟩ := Rd.getStr hu'
    have hd' : s'.heap.DictOf (strKind prog w) a kvs := D.of (S'.obj _ hC)
    exact tail_any hd'.typeIs PySem.slot_dict_getitem.lookup (wpAny_getItem_of (strKind_is prog w k t) hd'.mapOf hv ⟨kp_trans k' (kp_tok s' _), hd.mono S'.base⟩) (hs a t))
theorem ev_divS {l rr : Expr} {pos : Pos} {a b : Int} (x : Ev prog w A r h₀ env C ρ l (.dat (.int a))) (y : Ev prog w A r h₀ env C ρ rr (.dat (.int b))) (hb : b ≠ 0) (hs : b.natAbs < 1073741824) : Ev prog w A r h₀ env C ρ (.BinOp l .FloorDiv rr pos) (.dat (.int (a.fdiv b))) :=
  ev_bin x y fun u v s S hu hv => by
    obtain ⟨t, rfl⟩ := Rd.getInt hu; obtain ⟨t', rfl⟩ := Rd.getInt hv
    exact floordiv_int hb ⟨kp_tok s _, Rd.int _ _⟩ (Or.inl (PyProof.noPylong_small hs))
/-- an if whose ways meet in one of several states -/
noncomputable def JoinT {τ : Type} (r : Shared) (h₀ : Heap) (env : Env) (Cj : τ → Own) (ρj : τ → Rho) (J : τ → Prop) (Q : Flow → Shared → Prop) : Flow → Shared → Prop
  | .next, s => ∃ x, J x ∧ St r h₀ env (Cj x) (ρj x) s
  | .ret v, s => Q (.ret v) s
  | .brk, s => Q .brk s
  | .cont, s => Q .cont s
theorem ex_joinT {τ : Type} {Cj : τ → Own} {ρj : τ → Rho} {J : τ → Prop} {Q : Flow → Shared → Prop} (x : τ) (hJ : J x) (hC : C = Cj x) (h : ∀ y a, ρj x y = some a → ρ y = some a) : Ex prog w A r h₀ env C ρ [] (JoinT r h₀ env Cj ρj J Q) := ex_nil fun s S => by
  subst hC; exact ⟨x, hJ, S.weaken h⟩
theorem join_then {τ : Type} {Cj : τ → Own} {ρj : τ → Rho} {J : τ → Prop} {rest : List Stmt} {Q : Flow → Shared → Prop} (k : ∀ x, J x → Ex prog w A r h₀ env (Cj x) (ρj x) rest Q) : ∀ f s, JoinT r h₀ env Cj ρj J Q f s → Then prog w A env rest Q f s := fun f s q => by
  cases f with
  | next => obtain ⟨x, hJ, S⟩ := q; exact (k x hJ).go s S
  | ret v => exact q
  | brk => exact q
  | cont => exact q
theorem ex_ifT {τ : Type} (Cj : τ → Own) (ρj : τ → Rho) (J : τ → Prop) {t : Expr} {b : Bool} {body orelse rest : List Stmt} {pos : Pos} {Q : Flow → Shared → Prop} (h : Tt prog w A r h₀ env C ρ t b) (k₁ : b = true → Ex prog w A r h₀ env C ρ body (JoinT r h₀ env Cj ρj J Q)) (k₂ : b = false → Ex prog w A r h₀ env C ρ orelse (JoinT r h₀ env Cj ρj J Q))
    (k : ∀ x, J x → Ex prog w A r h₀ env (Cj x) (ρj x) rest Q) : Ex prog w A r h₀ env C ρ (.If t body orelse pos :: rest) Q :=
  ex_if h (fun c => (k₁ c).mono (join_then k)) fun c => (k₂ c).mono (join_then k)
theorem ex_ownDictG {x : Str} {xp lp pos : Pos} {rest : List Stmt} {Q : Flow → Shared → Prop} (F : Fe env) (G : Gnd K mg mb h₀) (hx : Stores env x)
    (hs : swapsWith (.Dict [] [] lp) (some (.Name x xp)) pos.line env = pure false)
    (k : ∀ a, (a == sysModules) = false → Ex prog w A r h₀ env ((a, dct0) :: C) (upd ρ x (.val (.ref a))) rest Q) : Ex prog w A r h₀ env C ρ (.Assign [.Name x xp] (.Dict [] [] lp) pos :: rest) Q := .mk fun s S =>
  wpAny_execs_cons (wpAny_Assign_Name (by
    rw [eval_Dict_empty]
    refine wpAny_bind (wpAny_standAt ?_)
    refine wpAny_newObj_type ?_
    have h1 : mainGlobals < s.heap.objs.size := (gnd_s G S).g.lt
    have h2 : sysModules < mainGlobals := by decide
    exact st_store (a := .val (.ref s.heap.objs.size)) F (st_new S dct0 rfl) hx rfl fun s' S' _ _ => (k _ (beq_eq_false_iff_ne.mpr (Nat.ne_of_gt (Nat.lt_trans h2 h1)))).go s' S') hs)
theorem ex_freezeAll {ss : List Stmt} {Q : Flow → Shared → Prop} (k : ∀ h₁, Sub h₀ h₁ → (∀ p ∈ C, h₁.get? p.1 = some p.2) → Ex prog w A r h₁ env [] ρ ss Q) : Ex prog w A r h₀ env C ρ ss Q := by
  have := ex_freeze (prog := prog) (w := w) (A := A) (r := r) (h₀ := h₀) (env := env) (ρ := ρ) (pre := []) (C₁ := C) (post := []) (ss := ss) (Q := Q) fun h₁ a b _ _ => k h₁ a b
  simpa using this
theorem ex_ifW {τ : Type} {ρ₀ : Rho} (x : Str) {a₀ : Ab} (Cj : τ → Own) (vj : τ → Ab) (J : τ → Prop) {t : Expr} {b : Bool} {body orelse rest : List Stmt} {pos : Pos} {Q : Flow → Shared → Prop} (h : Tt prog w A r h₀ env C (upd ρ₀ x a₀) t b) (k₁ : b = true → Ex prog w A r h₀ env C (upd ρ₀ x a₀) body (JoinT r h₀ env Cj (fun t => upd ρ₀ x (vj t)) J Q)) (k₂ : b = false → Ex prog w A r h₀ env C (upd ρ₀ x a₀) orelse (JoinT r h₀ env Cj (fun t => upd ρ₀ x (vj t)) J Q))
    (k : ∀ t, J t → Ex prog w A r h₀ env (Cj t) (upd ρ₀ x (vj t)) rest Q) : Ex prog w A r h₀ env C (upd ρ₀ x a₀) (.If t body orelse pos :: rest) Q := ex_ifT Cj (fun t => upd ρ₀ x (vj t)) J h k₁ k₂ k
end
end

section
structure Built (ws : List Str) (i : Nat) (sp nm : List Str) (nodes : List Nat) : Prop where
  len : nodes.length = i
  eq : sp.length = nm.length
  le : sp.length ≤ 1 + 2 * i
  lt : ∀ n ∈ nodes, n < sp.length
  nd : nodes.Nodup
  pair : ∀ k, k < i → ∃ p ∈ poolP, sp[nodes.getD k 0]? = some p.1 ∧ nm[nodes.getD k 0]? = some p.2 ∧ ws.getD k "" = join2 p
  okS : ∀ x ∈ sp, PyData.strOk x = true
  okN : ∀ x ∈ nm, PyData.strOk x = true
theorem built0 (ws : List Str) : Built ws 0 [""] [""] [] := ⟨rfl, rfl, by simp, by simp, by simp, fun k hk => by omega, fun x hx => by
  rw [List.mem_singleton.mp hx]; decide +kernel, fun x hx => by
  rw [List.mem_singleton.mp hx]; decide +kernel⟩
theorem ext_len (S M : Str) : (extS S M).length = (extN S M).length ∧ 1 ≤ (extS S M).length ∧ (extS S M).length ≤ 2 ∧ (extS S M)[0]? = some S ∧ (extN S M)[0]? = some M := by
  unfold extS extN
  cases tmpl S M <;> simp
theorem built_step {ws : List Str} {i : Nat} {sp nm : List Str} {nodes : List Nat} (B : Built ws i sp nm nodes) {S M : Str} (hp : (S, M) ∈ poolP) (hw : ws.getD i "" = join2 (S, M)) : Built ws (i + 1) (sp ++ extS S M) (nm ++ extN S M) (nodes ++ [sp.length]) := by
  obtain ⟨e1, e2, e3, e4, e5⟩ := ext_len S M
  obtain ⟨sp1, sp2, sp3, sp4, sp5, sp6⟩ := pairOk_split hp
  refine ⟨by simp [B.len], by simp [B.eq, e1], by simp; have := B.le; omega, fun n hn => ?_, ?_, fun k hk => ?_, fun x hx => ?_, fun x hx => ?_⟩
  · rw [List.length_append]
    rcases List.mem_append.mp hn with h | h
    · have := B.lt n h; omega
    · rw [List.mem_singleton.mp h]; omega
  · refine List.nodup_append.mpr ⟨B.nd, by simp, fun a ha b hb e => ?_⟩
    have := B.lt a ha
    rw [e, List.mem_singleton.mp hb] at this
    exact Nat.lt_irrefl _ this
  · by_cases h : k < i
    · obtain ⟨p, q, h1, h2, h3⟩ := B.pair k h
      have e : (nodes ++ [sp.length]).getD k 0 = nodes.getD k 0 := by
        rw [List.getD_eq_getElem?_getD, List.getD_eq_getElem?_getD, List.getElem?_append_left (by rw [B.len]; exact h)]
      rw [e]
      refine ⟨p, q, ?_, ?_, h3⟩
      · rw [List.getElem?_append_left (List.getElem?_eq_some_iff.mp h1).1]; exact h1
      · rw [List.getElem?_append_left (List.getElem?_eq_some_iff.mp h2).1]; exact h2
    · have hk' : k = i := by omega
      subst hk'
      have e : (nodes ++ [sp.length]).getD k 0 = sp.length := by
        rw [List.getD_eq_getElem?_getD, List.getElem?_append_right (by rw [B.len]; omega), B.len]; simp
      rw [e]
      refine ⟨(S, M), hp, ?_, ?_, hw⟩
      · rw [List.getElem?_append_right (by omega)]; simpa using e4
      · rw [List.getElem?_append_right (by rw [B.eq]; omega), B.eq]; simpa using e5
  · rcases List.mem_append.mp hx with h | h
    · exact B.okS x h
    · unfold extS at h
      cases hq : tmpl S M
      · simp only [hq, Bool.false_eq_true, if_false, List.mem_singleton] at h; subst h; exact sp2
      · simp only [hq, if_true, List.mem_cons, List.not_mem_nil, or_false] at h
        rcases h with rfl | rfl
        · exact sp2
        · decide +kernel
  · rcases List.mem_append.mp hx with h | h
    · exact B.okN x h
    · unfold extN at h
      cases hq : tmpl S M
      · simp only [hq, Bool.false_eq_true, if_false, List.mem_singleton] at h; subst h; exact sp3
      · simp only [hq, if_true, List.mem_cons, List.not_mem_nil, or_false] at h
        rcases h with rfl | rfl
        · exact sp3
        · decide +kernel
theorem Built.law {ws sp nm : List Str} {nodes : List Nat} (B : Built ws 12 sp nm nodes) (h : ws.length = 12) : LawSt sp nm nodes ws where
  lenN := B.len
  lenW := h
  nodup := B.nd
  pair := B.pair
  okS := B.okS
  okN := B.okN
  small := fun n hn => by have := B.lt n hn; have := B.le; omega
/-- the law's words -/
noncomputable def idxOf' (ns : List Int) (k : Nat) : Nat := ((digitN ns k + 5 * (k : Int)) % 56).toNat
noncomputable def wordsOfL (ns : List Int) : List Str := (List.range 12).map fun k => poolL.getD (idxOf' ns k) ""
theorem idx_lt (ns : List Int) (k : Nat) : idxOf' ns k < 56 := by
  unfold idxOf'
  have h1 := Int.emod_nonneg (digitN ns k + 5 * (k : Int)) (b := 56) (by omega)
  have h2 := Int.emod_lt_of_pos (digitN ns k + 5 * (k : Int)) (b := 56) (by omega)
  omega
theorem pool_len : poolL.length = 56 := by decide +kernel
theorem pool_at {i : Nat} (h : i < 56) : ∃ p ∈ poolP, poolL[i]? = some (join2 p) ∧ poolL.getD i "" = join2 p := by
  have hl : i < poolL.length := by rw [pool_len]; exact h
  have hP : i < poolP.length := by rw [poolL_eq, List.length_map] at hl; exact hl
  have e : poolL[i]? = some (join2 (poolP[i])) := by rw [poolL_eq, List.getElem?_map, List.getElem?_eq_getElem hP]; rfl
  exact ⟨poolP[i], List.getElem_mem hP, e, by rw [List.getD_eq_getElem?_getD, e]; rfl⟩
theorem wordsOfL_len (ns : List Int) : (wordsOfL ns).length = 12 := by simp [wordsOfL]
theorem wordsOfL_at (ns : List Int) {k : Nat} (h : k < 12) : ∃ p ∈ poolP, (wordsOfL ns)[k]? = some (join2 p) ∧ (wordsOfL ns).getD k "" = join2 p := by
  obtain ⟨p, hp, h1, h2⟩ := pool_at (idx_lt ns k)
  have e : (wordsOfL ns)[k]? = some (join2 p) := by
    unfold wordsOfL
    rw [List.getElem?_map, List.getElem?_range h]
    exact congrArg some h2
  exact ⟨p, hp, e, by rw [List.getD_eq_getElem?_getD, e]; rfl⟩
theorem lt5 {P : Nat → Prop} (h0 : P 0) (h1 : P 1) (h2 : P 2) (h3 : P 3) (h4 : P 4) : ∀ i, i < 5 → P i
  | 0, _ => h0
  | 1, _ => h1
  | 2, _ => h2
  | 3, _ => h3
  | 4, _ => h4
  | i + 5, h => absurd h (by omega)
theorem ends_take (ws : List Str) : ∀ i, i < 5 → (endsD ws).take (i + 1) = (endsD ws).take i ++ [(sorts.getD i "", .list (bd (ws.map fun x => endsF x (sorts.getD i ""))))] :=
  lt5 rfl rfl rfl rfl rfl
theorem ends_not (ws : List Str) (i : Nat) (h : i < 5) : sorts.getD i "" ∉ ((endsD ws).take i).map (·.1) := by
  rw [List.map_take, endsD_keys]
  revert i
  exact lt5 (by decide +kernel) (by decide +kernel) (by decide +kernel) (by decide +kernel) (by decide +kernel)
theorem look_snoc {α : Type} {x : Str} {a : α} : ∀ {l : List (Str × α)}, x ∉ l.map (·.1) → (l ++ [(x, a)]).lookup x = some a
  | [], _ => by simp
  | p :: l, h => by
    simp only [List.map_cons, List.mem_cons, not_or] at h
    have : (x == p.1) = false := by simpa using h.1
    rw [List.cons_append, List.lookup_cons, this]
    exact look_snoc h.2
theorem stored_new {α : Type} [DecidableEq α] {kv : List (α × Value)} {k : α} {u : Value} (h : k ∉ kv.map (·.1)) : stored kv k u = kv ++ [(k, u)] := by
  unfold stored
  rw [if_neg]
  intro q
  obtain ⟨p, hp, e⟩ := List.any_eq_true.mp q
  exact h (List.mem_map.mpr ⟨p, hp, by simpa using e⟩)
theorem sorts_mem {i : Nat} (h : i < 5) : sorts.getD i "" ∈ sorts := by
  have : i < sorts.length := h
  rw [List.getD_eq_getElem?_getD, List.getElem?_eq_getElem this]; exact List.getElem_mem this
theorem LawSt.stops {sp nm ws : List Str} {ns : List Nat} (Y : LawSt sp nm ns ws) {sort : Str} (hs : sort ∈ sorts) : ns.map (fun n => stopAt sp nm sort n) = ws.map fun x => endsF x sort := by
  apply List.ext_getElem?
  intro k
  rw [List.getElem?_map, List.getElem?_map]
  by_cases hk : k < 12
  · obtain ⟨S, M, W, N, a⟩ := Y.at hk
    have := Y.stop hk hs
    rw [a.nD] at this
    unfold endsAt at this
    rw [a.wD] at this
    rw [a.n, a.w]; exact congrArg some this
  · rw [List.getElem?_eq_none (by rw [Y.lenN]; omega), List.getElem?_eq_none (by rw [Y.lenW]; omega)]; rfl
theorem LawSt.wOk {sp nm ws : List Str} {ns : List Nat} (Y : LawSt sp nm ns ws) {x : Str} (h : x ∈ ws) : PyData.strOk x = true := by
  obtain ⟨k, hk, rfl⟩ := List.getElem_of_mem h
  rw [Y.lenW] at hk
  obtain ⟨S, M, W, N, a⟩ := Y.at hk
  have e := a.w
  rw [List.getElem?_eq_getElem (by rw [Y.lenW]; exact hk)] at e
  rw [Option.some.inj e, a.eq]; exact (pairOk_split a.mem).2.2.2.1
theorem LawSt.nAt {sp nm ws : List Str} {ns : List Nat} (Y : LawSt sp nm ns ws) {n : Nat} (h : n ∈ ns) : sp[n]? = some (sp.getD n "") ∧ nm[n]? = some (nm.getD n "") ∧ PyData.strOk (sp.getD n "") = true ∧ PyData.strOk (nm.getD n "") = true ∧ n < 2 ^ 15 := by
  obtain ⟨k, hk, rfl⟩ := List.getElem_of_mem h
  rw [Y.lenN] at hk
  obtain ⟨S, M, W, N, a⟩ := Y.at hk
  have e := a.n
  rw [List.getElem?_eq_getElem (by rw [Y.lenN]; exact hk)] at e
  rw [Option.some.inj e, a.sD, a.mD]
  exact ⟨a.s, a.m, (pairOk_split a.mem).2.1, (pairOk_split a.mem).2.2.1, a.sm⟩
theorem bd_shaped (l : List Bool) : SeqAt.shaped (.list (bd l)) = true ∧ PyData.canLay0 (.list (bd l)) = true := by
  have h1 : PyData.canLayAll0 (bd l) = true := by
    induction l with
    | nil => rfl
    | cons a l ih => simpa [bd, PyData.canLayAll0, PyData.canLay0] using ih
  have h2 : PyData.depthAll (bd l) = 0 := by
    clear h1
    induction l with
    | nil => simp [bd, PyData.depthAll]
    | cons a l ih => simp only [bd, List.map_cons, PyData.depthAll, PyData.depth] at *; rw [ih]; rfl
  constructor <;> simp [SeqAt.shaped, PyData.canLay0, PyData.depth, h1, h2]
theorem upd_last {ρ₀ ρ : Rho} {x : Str} {b : Ab} (h : ∀ y a, y ≠ x → ρ₀ y = some a → ρ y = some a) : ∀ y a, upd ρ₀ x b y = some a → upd ρ x b y = some a := fun y a e => by
  unfold upd at *
  by_cases q : y = x
  · rw [if_pos q] at *; exact e
  · rw [if_neg q] at *; exact h y a q e
theorem but_upd {ρ₀ ρ : Rho} {x z : Str} {b : Ab} (hz : ρ₀ z = none) (h : ∀ y a, y ≠ x → ρ₀ y = some a → ρ y = some a) : ∀ y a, y ≠ x → ρ₀ y = some a → upd ρ z b y = some a := fun y a hy e => by
  unfold upd
  by_cases q : y = z
  · rw [q, hz] at e; cases e
  · rw [if_neg q]; exact h y a hy e
theorem but_same {ρ₀ ρ : Rho} {x : Str} {b : Ab} (h : ∀ y a, y ≠ x → ρ₀ y = some a → ρ y = some a) : ∀ y a, y ≠ x → ρ₀ y = some a → upd ρ x b y = some a := fun y a hy e => by
  unfold upd
  rw [if_neg hy]; exact h y a hy e
theorem but_self {ρ₀ : Rho} {x : Str} : ∀ y a, y ≠ x → ρ₀ y = some a → ρ₀ y = some a := fun _ _ _ e => e
structure RowB (i : Nat) (row : List Nat) : Prop where
  len : row.length = i
  nd : row.Nodup
  lt : ∀ k ∈ row, k < i
theorem rowB0 : RowB 0 [] := ⟨rfl, by simp, by simp⟩
theorem rowB_put {i p : Nat} {row : List Nat} (B : RowB i row) : RowB (i + 1) (row.take p ++ i :: row.drop p) := by
  have hni : i ∉ row := fun h => Nat.lt_irrefl _ (B.lt i h)
  have hperm : (row.take p ++ i :: row.drop p).Perm (i :: row) := by
    refine List.perm_middle.trans ?_
    rw [List.take_append_drop]
  refine ⟨by rw [hperm.length_eq]; simp [B.len], (hperm.nodup_iff).mpr (List.nodup_cons.mpr ⟨hni, B.nd⟩), fun k hk => ?_⟩
  have := hperm.mem_iff.mp hk
  rcases List.mem_cons.mp this with rfl | h
  · omega
  · have := B.lt k h; omega
theorem rowB_push {i : Nat} {row : List Nat} (B : RowB i row) : RowB (i + 1) (row ++ [i]) := by
  have := rowB_put (p := row.length) B
  rwa [List.take_length, List.drop_length] at this
theorem its_put (ns row : List Nat) (i p : Nat) : itsOf ns (row.take p ++ i :: row.drop p) = (itsOf ns row).take p ++ ns.getD i 0 :: (itsOf ns row).drop p := by
  simp [itsOf, List.map_take, List.map_drop]
theorem its_push (ns row : List Nat) (i : Nat) : itsOf ns (row ++ [i]) = itsOf ns row ++ [ns.getD i 0] := by simp [itsOf]
theorem nd_put (row : List Nat) (i p : Nat) : (nd row).take p ++ [.int (i : Int)] ++ (nd row).drop p = nd (row.take p ++ i :: row.drop p) := by
  simp [nd, List.map_take, List.map_drop]
theorem mS_eq (t a : Addr) : ∀ n : Str, List.lookup n [(("tree" : Str), Value.ref t), (("items" : Str), .ref a)] = mS t a n := fun n => by
  unfold mS
  rw [List.lookup_cons, List.lookup_cons]
  by_cases h : n = "tree"
  · subst h; simp
  · have : (n == ("tree" : Str)) = false := by simpa using h
    rw [this, if_neg h]
    by_cases h' : n = "items"
    · subst h'; simp
    · have : (n == ("items" : Str)) = false := by simpa using h'
      rw [this, if_neg h']; rfl
noncomputable def filt (wh : Nat) (row : List Nat) : List Nat := row.filter fun k => !(k == wh)
theorem filt_mem {wh k : Nat} {row : List Nat} : k ∈ filt wh row ↔ k ∈ row ∧ k ≠ wh := by
  unfold filt; rw [List.mem_filter]; simp
theorem filt_rowS {wh : Nat} {row : List Nat} (R : RowS row) : RowS (filt wh row) := ⟨R.nd.filter _, fun k hk => R.lt k (filt_mem.mp hk).1, by
  have := List.length_filter_le (fun k => !(k == wh)) row
  have := R.len
  unfold filt; omega⟩
theorem filt_erase {wh : Nat} {row : List Nat} (nd : row.Nodup) : filt wh row = row.erase wh := by
  rw [nd.erase_eq_filter]; rfl
theorem filt_len {wh : Nat} {row : List Nat} (nd : row.Nodup) (h : wh ∈ row) : (filt wh row).length = row.length - 1 := by
  rw [filt_erase nd, List.length_erase_of_mem h]
section
variable {sp nm ws : List Str} {ns row : List Nat}
theorem its_nodup (Y : LawSt sp nm ns ws) (R : RowS row) : (itsOf ns row).Nodup := by
  unfold itsOf
  exact nodup_map R.nd fun a ha b hb e => Y.inj (by have := R.lt a ha; omega) (by have := R.lt b hb; omega) e
theorem its_erase (Y : LawSt sp nm ns ws) (R : RowS row) {wh : Nat} (h : wh ∈ row) : (itsOf ns row).erase (ns.getD wh 0) = itsOf ns (filt wh row) := by
  rw [(its_nodup Y R).erase_eq_filter]
  unfold itsOf filt
  rw [List.filter_map]
  congr 1
  apply List.filter_congr
  intro k hk
  show (ns.getD k 0 != ns.getD wh 0) = !(k == wh)
  rw [Bool.eq_iff_iff]
  simp only [bne_iff_ne, ne_eq, Bool.not_eq_true', beq_eq_false_iff_ne]
  exact ⟨fun e q => e (by rw [q]), fun e q => e (Y.inj (by have := R.lt k hk; omega) (by have := R.lt wh h; omega) q)⟩
theorem dropLast_filt (nd : row.Nodup) (hne : row ≠ []) : row.dropLast = filt (row.getLast hne) row := by
  have e := List.dropLast_concat_getLast hne
  have nd' := nd
  rw [← e] at nd'
  obtain ⟨h1, h2, h3⟩ := List.nodup_append.mp nd'
  generalize row.getLast hne = l at *
  generalize row.dropLast = d at *
  subst e
  unfold filt
  rw [List.filter_append]
  have e1 : d.filter (fun k => !(k == l)) = d := List.filter_eq_self.mpr fun k hk => by
    have := h3 k hk l (by simp)
    simpa using this
  rw [e1]; simp
theorem its_dropLast (R : RowS row) (hne : row ≠ []) : (itsOf ns row).dropLast = itsOf ns (filt (row.getLast hne) row) := by
  rw [← dropLast_filt R.nd hne]
  unfold itsOf
  rw [List.map_dropLast]
theorem its_not (Y : LawSt sp nm ns ws) (R : RowS row) {wh : Nat} (h : wh ∈ row) : ns.getD wh 0 ∉ itsOf ns (filt wh row) := fun q => by
  have := (Y.mem (filt_rowS (wh := wh) R) (k := wh) (by have := R.lt wh h; omega)).mp q
  exact (filt_mem.mp this).2 rfl
theorem RowB.rowS (B : RowB 5 row) : RowS row := ⟨B.nd, B.lt, by rw [B.len]; omega⟩
theorem rowS_nil : RowS [] := ⟨by simp, by simp, by simp⟩
end
end

section
noncomputable def adrs (ad : TAd) : List Addr := [ad.ct, ad.ch, ad.pa, ad.tx, ad.at_, ad.nm, ad.sp, ad.ki]
local macro_rules | `(tactic| walk_at "cls") => `(tactic| first | exact free_kinds _ | exact free_attrs _ | exact free_texts _ | exact free_parents _ | exact free_children _ | exact free_contents _ | exact meth_TAdd _ | exact meth_TElement _)
noncomputable def fdLaw : FuncData := fdOf (tops 19) "law" .none mLaw 345
theorem at_Law (w : World) : DefAt (Kf w) 346 fdLaw (bodyOf (tops 19)) := ⟨⟨.type "function", none, #[], by kernel_rfl⟩, by kernel_rfl, by kernel_rfl, by kernel_rfl, by kernel_rfl, by kernel_rfl, by kernel_rfl, by kernel_rfl, by kernel_rfl⟩
section
variable {w : World} {A : Around} {h : Heap} {mg mb : Str → Option Value}
set_option maxHeartbeats 2000000
theorem fn_law (G : Gnd (Kf w) mg mb h) (R : Room A 5) {ns : List Int} (hz : ns.length < 2 ^ 30) : Fn PP w A h (.ref 346) [.dat (.list (ns.map .int))] (.dat (.bool true)) := by
  refine fn_def (names := ["script"]) (as := [.dat (.list (ns.map .int))]) (more := []) (at_Law w) G R (fun s us _ hl => ?_) (fun _ => trivial) rfl (by decide) (by decide +kernel) (fun L => by kernel_rfl) fun s₀ L kh G R F => ?_
  · match us, hl with
    | [a], _ => exact BindsTo.of_eq (by kernel_rfl)
  have hsz : sizeLine ≥ 2 ^ 16 := by decide
  have hpool := fn_pool G (R.less (m := 1) (by decide))
  refine ex_assign F (.inr ⟨by rfl, by rfl⟩) (by walk_at "ev") (by rfl) ?_
  refine ex_make F G (.inr ⟨by rfl, by rfl⟩) (by rfl) (ns_Tree w) (by decide +kernel) (kp_T w) (by rfl) evl_nil (fun s S => fc_tree (gnd_s G S) (R.less (by decide))) (by rfl) fun ta Cn hCn => ?_
  obtain ⟨ad, dx, es, kk, C', rfl, E, TC⟩ := hCn
  refine ex_freeze (pre := []) (C₁ := [(ta, instObj 294 dx), (dx, dictOf es kk)]) (post := C' ++ []) fun h₁ k₁ hf _ _ => ?_
  have I : Inst h₁ ta 294 (mT ad) := inst_of (hf (ta, instObj 294 dx) (by simp)) (hf (dx, dictOf es kk) (by simp)) E
  have G₁ := G.mono k₁
  clear hf E
  rw [List.nil_append, List.append_nil]
  -- the words
  refine ex_compN ["script", "pool"] (l := List.range 12) (fun _ => true) (fun k => .str (poolL.getD (idxOf' ns k) "")) F (.inl (by rfl)) (it_rangeN (id := "range") R.h F G₁ (by rfl) (ns_range w) (by rfl) (by walk_at "ev") (by decide)) ⟨by rfl, by rfl, by decide, by decide, by rfl, by decide, by rfl⟩ (fun _ _ => rfl) (fun r L k hk => ti_nil) (fun r L k hk _ => ?_) (by simp; omega) (by rfl) (fun _ => by rfl) ?_
  · obtain ⟨p, hp, e1, e2⟩ := pool_at (idx_lt ns k)
    have hdig := fn_digit (A := A.deeper (callEnvC fdLaw _ 346)) G₁ (R.less (m := 1) (by decide)) hz k
    have hk12 : k < 12 := List.mem_range.mp hk
    rw [e2]
    refine ev_itemS' (ds := poolL) (k := idxOf' ns k) (by walk_at "ev") (Ev.eq (ev_mod (ev_add (by walk_at "ev") (ev_mul (by walk_at "ev") (by walk_at "ev") (IntMulOk.of_left (by decide +kernel)))) (ev_len ⟨by rfl, by rfl, by rfl⟩ G₁ (by rfl) (ns_len w) (by rfl) (by walk_at "ev") (by rw [List.length_map, pool_len]; decide)) (by rw [List.length_map, pool_len]; decide)) ?_) (by have := idx_lt ns k; omega) e1 (fun _ _ => by rfl)
    rw [List.length_map, pool_len, Int.fmod_eq_emod_of_nonneg _ (by omega)]
    unfold idxOf'
    have := Int.emod_nonneg (digitN ns k + 5 * (k : Int)) (b := 56) (by omega)
    have e : (((digitN ns k + 5 * (k : Int)) % 56).toNat : Int) = (digitN ns k + 5 * (k : Int)) % 56 := Int.toNat_of_nonneg this
    rw [e]; rfl
  rw [show ((List.range 12).filter (fun _ => true)).map (fun k => PyData.str (poolL.getD (idxOf' ns k) "")) = sd (wordsOfL ns) by rw [filter_tt', sd, wordsOfL, List.map_map]; rfl]
  refine ex_ownList F (.inl (by rfl)) (by rfl) (by rfl) fun na => ?_
  refine ex_nodup fun hnd => ?_
  obtain ⟨c0, hc0⟩ := own_fn hnd
  rw [List.map_cons, TC.adr] at hc0
  have hadr : ∀ c : Addr → Obj, (adrs ad).map (fun a => (a, c a)) = [(ad.ct, c ad.ct), (ad.ch, c ad.ch), (ad.pa, c ad.pa), (ad.tx, c ad.tx), (ad.at_, c ad.at_), (ad.nm, c ad.nm), (ad.sp, c ad.sp), (ad.ki, c ad.ki)] := fun c => rfl
  obtain ⟨hc1, hc2⟩ := List.cons.inj hc0
  have TC0 : TreeC w ad 1 0 [""] [""] ((adrs ad).map fun a => (a, c0 a)) := by
    have : C' = (adrs ad).map fun a => (a, c0 a) := hc2
    exact this ▸ TC
  have hn0 : c0 na = lst #[] 0 := (Prod.mk.inj hc1).2.symm
  rw [show (na, lst #[] 0) :: C' = (na, c0 na) :: (adrs ad).map (fun a => (a, c0 a)) from hc0]
  clear hc0 hc1 hc2 hnd TC
  refine ex_for (σ := Addr → Obj) (fun c => (na, c na) :: (adrs ad).map fun a => (a, c a)) (fun _ => _) (fun i c => ∃ sp nm nodes vs k, Built (wordsOfL ns) i sp nm nodes ∧ TreeC w ad sp.length i sp nm ((adrs ad).map fun a => (a, c a)) ∧ c na = lst vs k ∧ RdAll gNil vs.toList (nd nodes)) c0
    F (.inl (by rfl)) (fun c c' => by simp) (it_strs R.h (by walk_at "ev")) keeps_self ⟨_, _, _, _, _, built0 _, TC0, hn0, .nil⟩ (fun i c own h₂ hi hI kb => ?_) (fun c hI => ?_) (fun _ => by rfl)
  · obtain ⟨sp, nm, nodes, vs, k, B, T, hna, hrd⟩ := hI
    have hi' : i < 12 := by rw [wordsOfL_len] at hi; exact hi
    obtain ⟨p, hp, e1, e2⟩ := wordsOfL_at ns hi'
    obtain ⟨sp1, sp2, sp3, sp4, sp5, sp6⟩ := pairOk_split hp
    have G₂ := G₁.mono kb
    have I₂ := I.mono kb
    rw [e2]
    refine ex_unpack2 (lst := true) (d := .str p.1) (d' := .str p.2) R.h F (.inl (by rfl)) (.inl (by rfl)) (Ev.eq (ev_split1 (x := join2 p) (y := ".") (by walk_at "ev") (by walk_at "ev") (by omega) (by decide +kernel) (by rfl) (by rfl)) (by rw [sp1]; rfl)) (by rfl) (by rfl) (by rfl) ?_
    have hel := fm_element (S := p.1) (M := p.2) G₂ (R.less (m := 2) (by decide)) I₂ T (by have := B.le; omega) (by omega) rfl B.eq.symm sp2 sp3
    have hat : (own ++ (na, c na) :: (adrs ad).map fun a => (a, c a))[own.length]? = some (na, lst vs k) := by
      rw [List.getElem?_append_right (Nat.le_refl _), Nat.sub_self, List.getElem?_cons_zero, hna]
    have hvs : vs.size = i := by rw [rdAll_size' hrd]; simp [nd, B.len]
    refine ex_appendM own.length (vs := vs) (k := k) (fun C' d hP => ?_) (by walk_at "ev") (mt_meth0 (own ++ [(na, c na)]) [] (C₁ := (adrs ad).map fun a => (a, c a)) (by simp) G₂ (by walk_at "ev") I₂ (meth_TElement w) (by rfl) (by rfl) (by walk_at "evl") hel (by rfl)) hat (by omega) (by rfl) (by rfl) (by rfl) (by rfl) fun C' d u k' hP hu => ex_nil fun s S => ?_
    · obtain ⟨C₂, rfl, _⟩ := hP
      rw [List.append_assoc, List.getElem?_append_right (Nat.le_refl _), Nat.sub_self]
      show some (na, c na) = _
      rw [hna]
    · obtain ⟨C₂, rfl, rfl, T₂⟩ := hP
      have eC : ((own ++ [(na, c na)]) ++ (C₂ ++ [])).set own.length (na, lst (vs.push u) k') = own ++ (na, lst (vs.push u) k') :: C₂ := by
        rw [List.append_nil, List.append_assoc, List.set_append_right _ _ (Nat.le_refl _), Nat.sub_self]; rfl
      rw [eC] at S
      have nd₂ := own_nodup S
      rw [List.map_append] at nd₂
      obtain ⟨c', hc'⟩ := own_fn (List.nodup_append.mp nd₂).2.1
      rw [List.map_cons, T₂.adr] at hc'
      obtain ⟨q1, q2⟩ := List.cons.inj hc'
      refine ⟨c', ⟨_, _, _, vs.push u, k', built_step B hp e2, ?_, (Prod.mk.inj q1).2.symm, ?_⟩, ?_⟩
      · rw [List.length_append]
        have : C₂ = (adrs ad).map fun a => (a, c' a) := q2
        exact this ▸ T₂
      · rw [nd_snoc]; exact rdAll_snoc hrd hu
      · show St _ _ _ (own ++ ((na, c' na) :: (adrs ad).map fun a => (a, c' a))) _ _
        rw [show (na, c' na) :: (adrs ad).map (fun a => (a, c' a)) = (na, lst (vs.push u) k') :: C₂ from hc'.symm]
        exact S.weaken (upd_keeps (by rfl) (upd_keeps (by rfl) (upd_keeps (by rfl) keeps_self)))
  · obtain ⟨sp, nm, nodes, vs, k, B, T, hna, hrd⟩ := hI
    rw [wordsOfL_len] at B T
    have Y := B.law (wordsOfL_len ns)
    refine ex_freezeAll fun h₂ k₂ hf => ?_
    have G₂ := G₁.mono k₂
    have hRn : Rd h₂ (.ref na) (.list (nd nodes)) := .list (by have := hf (na, c na) List.mem_cons_self; rw [hna] at this; exact this) (hrd.mono fun a o e => (gNil_get a o e).elim)
    have TT : TreeAt h₂ ta sp nm := by
      obtain ⟨oc, v1, k1, v2, k2, v3, k3, v4, k4, v5, k5, v6, k6, v7, k7, kvs, hE, _, _, _, _, _, r5, r6, _⟩ := T
      have m5 : (ad.nm, lst v5 k5) ∈ (adrs ad).map (fun a => (a, c a)) := by rw [hE]; simp
      have m6 : (ad.sp, lst v6 k6) ∈ (adrs ad).map (fun a => (a, c a)) := by rw [hE]; simp
      have f5 := hf _ (List.mem_cons_of_mem _ m5)
      have f6 := hf _ (List.mem_cons_of_mem _ m6)
      exact ⟨mT ad, ad.sp, ad.nm, I.mono k₂, rfl, .list f6 (r6.mono fun a o e => (gNil_get a o e).elim), rfl, .list f5 (r5.mono fun a o e => (gNil_get a o e).elim), rfl⟩
    clear hf T hrd hna hadr TC0 hn0
    refine ex_read (x := "nodes") (v := .ref na) (d := .list (nd nodes)) (by rfl) hRn ?_
    refine ex_ownDictG F G₂ (.inl (by rfl)) (by rfl) fun ea lo => ?_
    generalize hws : wordsOfL ns = ws at *
    refine ex_forH (σ := Obj) (fun o => [(ea, o)]) (fun _ => _) (fun i o hp => ∃ kv, ObjDict (strKind PP w) o kv ∧ KvRd hp kv ((endsD ws).take i)) dct0 F (.inr ⟨by rfl, by rfl⟩) (fun _ _ => rfl) (it_strsT (l := sorts) R.h (Ev.eq (by walk_at "ev") rfl)) keeps_self
      (fun i c h h' k ⟨kv, a, b⟩ => ⟨kv, a, b.mono k⟩) ⟨[], ObjDict.new _, .nil⟩ (fun i o own h₃ hi hI kb₃ => ?_) (fun o h₃ kb₃ hI => ?_) (fun _ => by rfl)
    · obtain ⟨kv, hD, hkv⟩ := hI
      have hi5 : i < 5 := hi
      have hs := sorts_mem hi5
      have het := ends_take ws i hi5
      have hnot := ends_not ws i hi5
      generalize sorts.getD i "" = sort at hs het hnot
      have os := sorts_ok hs
      have G₃ := G₂.mono kb₃
      have hlen5 : kv.length ≤ 5 := by rw [hkv.length, List.length_take]; omega
      refine ex_setitemO own.length (knd := strKind PP w) (d := ea) (key := sort) (kd := .str sort) (dv := .list (bd (ws.map fun x => endsF x sort))) (od := o) (kvs := kv) (Ev.eq (ev_compS ["sort"] (l := ws) (fun _ => true) (fun x => .bool (endsF x sort)) (it_strs R.h (by walk_at "ev")) ⟨by rfl, by rfl, by decide, by decide, by rfl, by decide, by rfl⟩ (fun _ _ => rfl) (fun r L k hk => ti_nil) (fun r L x hx _ => ?_) (by rw [Y.lenW]; omega) (fun _ => by rfl)) (by rw [filter_tt', bd, List.map_map]; rfl))
        (by walk_at "ev") (by walk_at "ev") (fun u hu => by obtain ⟨t, rfl⟩ := hu.getStr; exact strKind_is PP w sort t) rfl (by rw [List.getElem?_append_right (Nat.le_refl _), Nat.sub_self]; rfl) hD (by omega) (by rfl) fun od' u h₄ kb₄ hu hO => ?_
      · have hend := fn_ends (A := A.deeper (callEnvC fdLaw _ 346)) G₃ (R.less (m := 1) (by decide)) (Y.wOk hx) hs
        walk_at "ev"
      · rw [List.set_append_right _ _ (Nat.le_refl _), Nat.sub_self]
        show Ex _ _ _ _ _ _ (own ++ [(ea, od')]) _ _ _
        have hkeys : sort ∉ kv.map (·.1) := by rw [hkv.keys]; exact hnot
        rw [stored_new hkeys] at hO
        have hkv' : KvRd h₄ (kv ++ [(sort, u)]) ((endsD ws).take (i + 1)) := by
          rw [het]; exact KvRd.append (.cons hu .nil) (hkv.mono kb₄)
        have hlook : ((endsD ws).take (i + 1)).lookup sort = some (.list (bd (ws.map fun x => endsF x sort))) := by rw [het]; exact look_snoc hnot
        obtain ⟨v, hv, rv⟩ := hkv'.look hlook
        have G₄ := G₃.mono kb₄
        have TT₄ := TT.mono ((kb₃).trans kb₄)
        have hsh := bd_shaped (ws.map fun x => endsF x sort)
        refine ex_if (b := false) (Tt.eq (tt_cmpd (Ev.eq (b := .dat (.list (bd (ws.map fun x => endsF x sort)))) (ev_compN ["tree", "sort"] (l := nodes) (fun _ => true) (fun n => .bool (stopAt sp nm sort n)) (it_nats R.h (by walk_at "ev")) ⟨by rfl, by rfl, by decide, by decide, by rfl, by decide, by rfl⟩ (fun _ _ => rfl) (fun r L k hk => ti_nil) (fun r L n hn _ => ?_) (by rw [Y.lenN]; omega) (fun _ => by rfl)) (by rw [filter_tt', ← Y.stops hs, bd, List.map_map]; rfl))
          (ev_dictItemO (by walk_at "ev") (by walk_at "ev") (by simp) hO hv rv (fun _ _ => by rfl)) (cmp_ne R hsh.1 hsh.1) (by rfl)) (by rw [SeqAt.eqv_refl _ hsh.2]; rfl)) (fun c => nomatch c) (fun _ => ex_go ?_)
        · obtain ⟨g1, g2, g3, g4, g5⟩ := Y.nAt hn
          have hstop := fn_stops (A := A.deeper (callEnvC fdLaw _ 346)) G₄ (R.less (m := 1) (by decide)) TT₄ g1 g2 g3 g4 os (by omega)
          walk_at "ev"
        · refine ex_turnH (Cf := fun o => [(ea, o)]) (I := fun o hp => ∃ kv, ObjDict (strKind PP w) o kv ∧ KvRd hp kv ((endsD ws).take (i + 1))) od' rfl ?_ ?_ kb₄ ?_
          · exact fun h h' k ⟨kv, a, b⟩ => ⟨kv, a, b.mono k⟩
          · exact ⟨_, hO, hkv'⟩
          · exact upd_keeps (by rfl) keeps_self
    · obtain ⟨kv, hD, hkv⟩ := hI
      have G₃ := G₂.mono kb₃
      have TT₃ := TT.mono kb₃
      rw [show sorts.length = (endsD ws).length by simp [endsD], List.take_length] at hkv
      refine ex_freezeAll fun h₄ kb₄ hf => ?_
      have DE : DatD PP w h₄ ea (endsD ws) := ⟨lo, kv, hD.of (hf (ea, o) (by simp)), hkv.mono kb₄⟩
      have G₄ := G₃.mono kb₄
      have TT₄ := TT₃.mono kb₄
      clear hf hkv hD
      refine ex_make F G₄ (.inl (by rfl)) (by rfl) (ns_OpenStack w) (by decide +kernel) (kp_S w) (by rfl) (evl_cons (by walk_at "ev") evl_nil) (fun s S => fc_stack (gnd_s G₄ S) (R.less (by decide))) (by rfl) fun sa Cn hCn => ?_
      obtain ⟨a, dx', es', kk', rfl, E'⟩ := hCn
      refine ex_freeze (pre := [(a, lst #[] 0)]) (C₁ := [(sa, instObj 122 dx'), (dx', dictOf es' kk')]) (post := []) fun h₅ kb₅ hf _ _ => ?_
      have IS : Inst h₅ sa 122 (mS ta a) := (inst_of (hf (sa, instObj 122 dx') (by simp)) (hf (dx', dictOf es' kk') (by simp)) E').congr (mS_eq ta a)
      have G₅ := G₄.mono kb₅
      have TT₅ := TT₄.mono kb₅
      have DE₅ := DE.mono kb₅
      clear hf E'
      show Ex _ _ _ _ _ _ [(a, lst #[] 0)] _ _ _
      refine ex_assign F (.inl (by rfl)) (Ev.eq (b := .dat (.list (nd []))) (ev_list evd_nil (by rfl) (by decide)) rfl) (by rfl) ?_
      refine ex_for (n := 5) (σ := (Array Value × Nat) × List Nat) (fun c => [(a, lst c.1.1 c.1.2)]) (fun c => upd _ "row" (.dat (.list (nd c.2)))) (fun i c => RdAll gNil c.1.1.toList (nd (itsOf nodes c.2)) ∧ RowB i c.2) ((#[], 0), [])
        F (.inl (by rfl)) (fun _ _ => rfl) (it_range1 (id := "range") R.h F G₅ (by rfl) (ns_range w) (by rfl) (by walk_at "ev") (by decide)) keeps_self ⟨.nil, rowB0⟩ (fun i c own h₆ hi hI kb₆ => ?_) (fun c hI => ?_) (fun _ => by rfl)
      · obtain ⟨⟨vs, k⟩, row⟩ := c
        obtain ⟨hrd, RB⟩ := hI
        dsimp only at hrd RB
        have G₆ := G₅.mono kb₆
        have IS₆ := IS.mono kb₆
        have hdig : Fn PP w (A.deeper (callEnvC fdLaw L 346)) h₆ (.ref 312) [.dat (.list (ns.map .int)), .dat (.int (12 + (i : Int)))] (.dat (.int (digitN ns (12 + i)))) := by
          have := fn_digit (A := A.deeper (callEnvC fdLaw L 346)) G₆ (R.less (m := 1) (by decide)) hz (12 + i)
          simpa using this
        have hni : nodes[i]? = some (nodes.getD i 0) := getD_get (by rw [Y.lenN]; omega)
        have hil : (itsOf nodes row).length = i := by simp [itsOf, RB.len]
        refine ex_assign F (.inl (by rfl)) (by walk_at "ev") (by rfl) ?_
        generalize digitN ns (12 + i) = D
        refine ex_if (tt_cmpd (ev_mod (by walk_at "ev") (by walk_at "ev") (by decide)) (by walk_at "ev") (cmp_eq R rfl rfl) (by rfl)) (fun c => ?_) (fun c => ?_)
        · obtain ⟨p, hp, ep⟩ : ∃ p : Nat, p ≤ i ∧ (D.fdiv 3).fmod ((i : Int) + 1) = (p : Int) := by
            rw [Int.fmod_eq_emod_of_nonneg _ (by omega)]
            have h1 := Int.emod_nonneg (D.fdiv 3) (b := (i : Int) + 1) (by omega)
            have h2 := Int.emod_lt_of_pos (D.fdiv 3) (b := (i : Int) + 1) (by omega)
            exact ⟨((D.fdiv 3) % ((i : Int) + 1)).toNat, by omega, by omega⟩
          refine ex_assign F (.inl (by rfl)) (Ev.eq (b := .dat (.int (p : Int))) (ev_mod (ev_divS (by walk_at "ev") (by walk_at "ev") (by decide) (by decide)) (ev_add (by walk_at "ev") (by walk_at "ev")) (by omega)) (by rw [ep])) (by rfl) ?_
          have hput := fm_putAt (k := nodes.getD i 0) (p := p) G₆ (R.less (m := 1) (by decide)) IS₆ ⟨vs, k, rfl, hrd⟩ (by omega) (by omega)
          refine ex_exprM (mt_meth0 own [] (C₁ := [(a, lst vs k)]) (by simp) G₆ (by walk_at "ev") IS₆ (meth_SPutAt w) (by rfl) (by rfl) (by walk_at "evl") hput (by rfl)) (by rfl) (by rfl) fun C' d hP => ?_
          obtain ⟨C₂, rfl, rfl, vs', k', rfl, hrd'⟩ := hP
          refine ex_assign F (.inl (by rfl)) (Ev.eq (b := .dat (.list (nd (row.take p ++ i :: row.drop p)))) (ev_addL (ev_addL (ev_upto (ds := nd row) (k := p) (by walk_at "ev") (by walk_at "ev") (by simp [nd, RB.len]; omega) (fun _ _ => by rfl)) (ev_list (ds := [.int (i : Int)]) (evd_cons (by walk_at "ev") evd_nil) (by rfl) (by show 1 ≤ sizeLine; decide)) ?_) (ev_from (ds := nd row) (k := p) (by walk_at "ev") (by walk_at "ev") (by simp [nd, RB.len]; omega) (fun _ _ => by rfl)) ?_) (by rw [nd_put])) (by rfl) ?_
          · simp [nd, RB.len]; omega
          · simp [nd, RB.len]; omega
          refine ex_goE (ex_nil fun s S => ⟨((vs', k'), row.take p ++ i :: row.drop p), ⟨by rw [its_put]; exact hrd', rowB_put RB⟩, ?_⟩)
          simp only [List.append_nil] at S
          exact S.weaken (upd_last (but_upd (by rfl) (but_upd (by rfl) (but_upd (by rfl) (but_same but_self)))))
        · have hpush := fm_push (k := nodes.getD i 0) G₆ (R.less (m := 1) (by decide)) IS₆ ⟨vs, k, rfl, hrd⟩ (by omega)
          refine ex_exprM (mt_meth0 own [] (C₁ := [(a, lst vs k)]) (by simp) G₆ (by walk_at "ev") IS₆ (meth_SPush w) (by rfl) (by rfl) (by walk_at "evl") hpush (by rfl)) (by rfl) (by rfl) fun C' d hP => ?_
          obtain ⟨C₂, rfl, rfl, vs', k', rfl, hrd'⟩ := hP
          refine ex_assign F (.inl (by rfl)) (Ev.eq (b := .dat (.list (nd (row ++ [i])))) (ev_addL (ds := nd row) (es := [.int (i : Int)]) (by walk_at "ev") (ev_list (evd_cons (by walk_at "ev") evd_nil) (by rfl) (by show 1 ≤ sizeLine; decide)) (by simp [nd, RB.len]; omega)) (by rw [nd_snoc])) (by rfl) ?_
          refine ex_goE (ex_nil fun s S => ⟨((vs', k'), row ++ [i]), ⟨by rw [its_push]; exact hrd', rowB_push RB⟩, ?_⟩)
          simp only [List.append_nil] at S
          exact S.weaken (upd_last (but_upd (by rfl) (but_upd (by rfl) (but_same but_self))))
      · obtain ⟨⟨vs, k⟩, row⟩ := c
        obtain ⟨hrd, RB⟩ := hI
        dsimp only at hrd RB
        have kall : Sub s₀.heap h₅ := k₁.trans (k₂.trans (kb₃.trans (kb₄.trans kb₅)))
        refine ex_for (n := 5) (σ := (Array Value × Nat) × List Nat) (fun c => [(a, lst c.1.1 c.1.2)]) (fun c => upd _ "row" (.dat (.list (nd c.2)))) (fun i c => RdAll gNil c.1.1.toList (nd (itsOf nodes c.2)) ∧ RowS c.2 ∧ c.2.length = 5 - i) ((vs, k), row)
          F (.inl (by rfl)) (fun _ _ => rfl) (it_range1 (id := "range") R.h F G₅ (by rfl) (ns_range w) (by rfl) (by walk_at "ev") (by decide)) keeps_self ⟨hrd, RB.rowS, RB.len⟩ (fun i c own h₆ hi hI kb₆ => ?_) (fun c hI => ?_) (fun _ => by rfl)
        · clear hrd RB
          obtain ⟨⟨vs, k⟩, row⟩ := c
          obtain ⟨hrd, RS, hlen⟩ := hI
          dsimp only at hrd RS hlen
          have G₆ := G₅.mono kb₆
          have IS₆ := IS.mono kb₆
          have TT₆ := TT₅.mono kb₆
          have DE₆ := DE₅.mono kb₆
          refine ex_if (b := false) (Tt.eq (tt_bool (ta_or (tt_not (tt_val (ev_call F G₆ (by rfl) (ns_seen w) (by decide +kernel) (kp_seen w) (by rfl) (by walk_at "evl") fun s S => fn_seen (gnd_s G₆ S) (R.less (m := 3) (by decide)) ⟨a, IS₆.mono (base_s S), rd_own (vs := vs) (k := k) S (by simp) hrd⟩ (TT₆.mono (base_s S)) Y RS) (by rfl))) fun _ => ta_or (tt_not (tt_val (ev_call F G₆ (by rfl) (ns_scoped w) (by decide +kernel) (kp_scoped w) (by rfl) (by walk_at "evl") fun s S => fn_scoped (turn := i) (gnd_s G₆ S) (R.less (m := 3) (by decide)) ⟨a, IS₆.mono (base_s S), rd_own (vs := vs) (k := k) S (by simp) hrd⟩ (TT₆.mono (base_s S)) (DE₆.mono (base_s S)) Y RS (by omega)) (by rfl))) fun _ => ta_orN)) rfl) (fun c => nomatch c) (fun _ => ex_go ?_)
          have hne : row ≠ [] := fun e => by rw [e] at hlen; simp at hlen; omega
          have hdig : Fn PP w (A.deeper (callEnvC fdLaw L 346)) h₆ (.ref 312) [.dat (.list (ns.map .int)), .dat (.int (17 + (i : Int)))] (.dat (.int (digitN ns (17 + i)))) := by
            have := fn_digit (A := A.deeper (callEnvC fdLaw L 346)) G₆ (R.less (m := 1) (by decide)) hz (17 + i)
            simpa using this
          have hil : (itsOf nodes row).length = row.length := by simp [itsOf]
          have hlast : row.getLast hne ∈ row := List.getLast_mem hne
          have hgl := RS.lt _ hlast
          refine ex_assign F (.inl (by rfl)) (by walk_at "ev") (by rfl) ?_
          generalize digitN ns (17 + i) = D
          refine ex_assign F (.inr ⟨by rfl, by rfl⟩) (ev_itemN (k := -1) (ds := nd row) (d := .int ((row.getLast hne : Nat) : Int)) (by walk_at "ev") (by walk_at "ev") (by omega) (by simp [nd]; omega) (by omega) ?_ (fun _ _ => by rfl)) (by rfl) ?_
          · have e1 : (nd row)[(nd row).length - 1]? = some (.int ((row.getLast hne : Nat) : Int)) := nd_last (List.getLast?_eq_some_getLast hne)
            rw [show ((-1 : Int) + ((nd row).length : Int)).toNat = (nd row).length - 1 by simp [nd]; omega]; exact e1
          have hrm : ∀ wh ∈ row, ∀ (its : List Nat) vs' k', its.length ≤ 5 → RdAll gNil vs'.toList (nd its) → Fm PP w (A.deeper (callEnvC fdLaw L 346)) h₆ (.ref 77) [.val (.ref sa), .dat (.int ((nodes.getD wh 0 : Nat) : Int))] [(a, lst vs' k')] (fun C' d => d = .none ∧ StkC a (its.erase (nodes.getD wh 0)) C') :=
            fun wh hwh its vs' k' hl hr => fm_remove G₆ (R.less (m := 1) (by decide)) IS₆ ⟨vs', k', rfl, hr⟩ (by omega)
          have hnw : ∀ wh ∈ row, nodes[wh]? = some (nodes.getD wh 0) := fun wh hwh => getD_get (by rw [Y.lenN]; have := RS.lt wh hwh; omega)
          have hrl := RS.len
          refine ex_ifW (τ := (Array Value × Nat) × Nat) "which" (fun x => own ++ [(a, lst x.1.1 x.1.2)]) (fun x => .dat (.int (x.2 : Int))) (fun x => x.2 ∈ row ∧ RdAll gNil x.1.1.toList (nd (itsOf nodes (filt x.2 row))))
            (tt_cmpd (ev_mod (by walk_at "ev") (by walk_at "ev") (by decide)) (by walk_at "ev") (cmp_eq R rfl rfl) (by rfl)) (fun c => ?_) (fun c => ?_) (fun x hx => ?_)
          · obtain ⟨q, hq, eq⟩ : ∃ q : Nat, q < row.length ∧ (D.fdiv 2).fmod (row.length : Int) = (q : Int) := by
              have hp := List.length_pos_iff.mpr hne
              rw [Int.fmod_eq_emod_of_nonneg _ (by omega)]
              have h1 := Int.emod_nonneg (D.fdiv 2) (b := (row.length : Int)) (by omega)
              have h2 := Int.emod_lt_of_pos (D.fdiv 2) (b := (row.length : Int)) (by omega)
              exact ⟨((D.fdiv 2) % (row.length : Int)).toNat, by omega, by omega⟩
            have hqm : row.getD q 0 ∈ row := getD_mem hq
            have hqa : row[q]? = some (row.getD q 0) := getD_get hq
            refine ex_assign F (.inr ⟨by rfl, by rfl⟩) (ev_itemN' (ds := row) (k := q) (d := row.getD q 0) (by walk_at "ev") (Ev.eq (ev_mod (ev_divS (by walk_at "ev") (by walk_at "ev") (by decide) (by decide)) (ev_len F G₆ (by rfl) (ns_len w) (by rfl) (by walk_at "ev") (by simp [nd]; omega)) (by simp [nd]; exact hne)) ?_) (by omega) hqa (fun _ _ => by rfl)) (by rfl) ?_
            · rw [show ((nd row).length : Int) = (row.length : Int) by simp [nd], eq]
            generalize row.getD q 0 = wh at hqm
            have hw1 := hnw wh hqm
            have hrm1 := hrm wh hqm _ vs k (by omega) hrd
            rw [its_erase Y RS hqm] at hrm1
            have hwl := RS.lt wh hqm
            refine ex_exprM (mt_meth0 own [] (C₁ := [(a, lst vs k)]) (by simp) G₆ (by walk_at "ev") IS₆ (meth_SRemove w) (by rfl) (by rfl) (by walk_at "evl") hrm1 (by rfl)) (by rfl) (by rfl) fun C' d hP => ?_
            obtain ⟨C₂, rfl, rfl, vs', k', rfl, hrd'⟩ := hP
            refine ex_joinT ((vs', k'), wh) ⟨hqm, hrd'⟩ (by simp) (upd_last (but_same but_self))
          · have hw1 := hnw _ hlast
            have hpop := fm_pop G₆ (R.less (m := 1) (by decide)) IS₆ ⟨vs, k, rfl, hrd⟩ (by omega)
            rw [lastN_some (Y_last (ns := nodes) hne), its_dropLast RS hne] at hpop
            refine ex_ifM (P := fun C' c => c = false ∧ ∃ C₂, C' = own ++ (C₂ ++ []) ∧ StkC a (itsOf nodes (filt (row.getLast hne) row)) C₂) (ttm_cmp (mt_meth0 own [] (C₁ := [(a, lst vs k)]) (by simp) G₆ (by walk_at "ev") IS₆ (meth_SPop w) (by rfl) (by rfl) (by walk_at "evl") hpop (by rfl))
              (b := .int ((nodes.getD (row.getLast hne) 0 : Nat) : Int)) (fun C' d hP => by walk_at "ev") (fun C' d hP => ?_) (by rfl)) (fun C' hP => ?_) (fun C' hP => ?_)
            · obtain ⟨C₂, rfl, rfl, hS⟩ := hP
              refine ⟨_, cmp_ne R rfl rfl, ?_, C₂, rfl, hS⟩
              rw [natE]; simp
            · exact absurd hP.1 (by decide)
            · obtain ⟨_, C₂, rfl, vs', k', rfl, hrd'⟩ := hP
              exact ex_goE (ex_joinT ((vs', k'), row.getLast hne) ⟨hlast, hrd'⟩ (by simp) keeps_self)
          · obtain ⟨⟨vs', k'⟩, wh⟩ := x
            obtain ⟨hwm, hrd'⟩ := hx
            dsimp only at hwm hrd'
            have hw1 := hnw wh hwm
            have hwl := RS.lt wh hwm
            have hfl := filt_len RS.nd hwm
            have hrm2 := hrm wh hwm _ vs' k' (by simp [itsOf]; omega) hrd'
            rw [List.erase_of_not_mem (its_not Y RS hwm)] at hrm2
            refine ex_exprM (mt_meth0 own [] (C₁ := [(a, lst vs' k')]) (by simp) G₆ (by walk_at "ev") IS₆ (meth_SRemove w) (by rfl) (by rfl) (by walk_at "evl") hrm2 (by rfl)) (by rfl) (by rfl) fun C' d hP => ?_
            obtain ⟨C₂, rfl, rfl, vs₂, k₂', rfl, hrd₂⟩ := hP
            refine ex_compN ["which"] (l := row) (fun k => !(k == wh)) (fun k => .int (k : Int)) F (.inl (by rfl)) (it_nats R.h (by walk_at "ev")) ⟨by rfl, by rfl, by decide, by decide, by rfl, by decide, by rfl⟩ (fun _ _ => rfl) (fun r L k hk => ti_one (Tt.eq (tt_cmpd (by walk_at "ev") (by walk_at "ev") (cmp_ne R rfl rfl) (by rfl)) (by rw [natE]))) (fun r L k hk _ => by walk_at "ev") (by omega) (by rfl) (fun _ => by rfl) ?_
            refine ex_nil fun s S => ⟨((vs₂, k₂'), filt wh row), ⟨hrd₂, filt_rowS RS, by show (filt wh row).length = _; omega⟩, ?_⟩
            simp only [List.append_nil] at S
            exact S.weaken (upd_last (but_upd (by rfl) (but_upd (by rfl) (but_upd (by rfl) (but_same but_self)))))
        · clear hrd RB
          obtain ⟨⟨vs, k⟩, row⟩ := c
          obtain ⟨hrd, RS, hlen⟩ := hI
          dsimp only at hrd RS hlen
          have hnil : row = [] := List.length_eq_zero_iff.mp (by omega)
          subst hnil
          refine ex_if (b := false) (Tt.eq (tt_bool (ta_or (tt_not (tt_val (ev_call F G₅ (by rfl) (ns_seen w) (by decide +kernel) (kp_seen w) (by rfl) (by walk_at "evl") fun s S => fn_seen (gnd_s G₅ S) (R.less (m := 3) (by decide)) ⟨a, IS.mono (base_s S), rd_own (vs := vs) (k := k) S (by simp) hrd⟩ (TT₅.mono (base_s S)) Y RS) (by rfl))) fun _ => ta_or (tt_not (tt_val (ev_call F G₅ (by rfl) (ns_scoped w) (by decide +kernel) (kp_scoped w) (by rfl) (by walk_at "evl") fun s S => fn_scoped (turn := 5) (gnd_s G₅ S) (R.less (m := 3) (by decide)) ⟨a, IS.mono (base_s S), rd_own (vs := vs) (k := k) S (by simp) hrd⟩ (TT₅.mono (base_s S)) (DE₅.mono (base_s S)) Y RS (by omega)) (by rfl))) fun _ => ta_orN)) rfl) (fun c => nomatch c) (fun _ => ex_go ?_)
          have hpop := fm_pop G₅ (R.less (m := 1) (by decide)) IS ⟨vs, k, rfl, hrd⟩ (by simp [itsOf])
          refine ex_retM (mt_cmp (P' := fun C' d => d = .bool true) (mt_meth0 [] [] (C₁ := [(a, lst vs k)]) (by simp) G₅ (by walk_at "ev") IS (meth_SPop w) (by rfl) (by rfl) (by walk_at "evl") hpop (by rfl)) (b := .int (-1)) (fun C' d hP => by walk_at "ev") (fun C' d hP => ?_) (by rfl)) fun C' d u s hP S hu => ⟨S.kp2 kall, ?_⟩
          · obtain ⟨C₂, rfl, rfl, hS⟩ := hP
            exact ⟨_, cmp_eq R rfl rfl, by rw [intE]; rfl⟩
          · subst hP
            exact Rd.flatB hu
end
end

section
noncomputable abbrev RR : OpenRow := PySem.Challenge.rw_nt0599_01.row
noncomputable def HK : Hook := kHook Kx Kas kas_eq
noncomputable def heap_pre (P : Params) : Heap := ⟨⟨[boot_o_0 P, boot_o_1 P, boot_o_2 P, boot_o_3 P, boot_o_4 P, boot_o_5 P, boot_o_6 P, boot_o_7 P, boot_o_8 P, boot_o_9 P, boot_o_10 P, obj0 P, obj1 P, obj2 P, obj3 P]⟩, (Life.mk [] [] [] 0 [] [] false (List.toArray []) [] 0 false false false 0 [2000, 10, 10] false 0 true [] [] 0 false)⟩
noncomputable abbrev st_pre (w : World) (os : OsState) : Shared := ⟨heap_pre w.params, ⟨[]⟩, (PySem.Drawn.mk 0 0 0 0), 187, os⟩
noncomputable def heap_block (P : Params) : Heap := ⟨⟨[boot_o_0 P, boot_o_1 P, boot_o_2 P, boot_o_3 P, boot_o_4 P, boot_o_5 P, boot_o_6 P, boot_o_7 P, boot_o_8 P, boot_o_9 P, boot_o_10 P, obj0 P, obj1 P, obj2 P, obj3 P]⟩, (Life.mk [] [] [] 0 [] [] false (List.toArray []) [] 0 false false false 0 [2000, 10, 10] false 0 true [] [] 0 false)⟩
noncomputable abbrev st_block (w : World) (os : OsState) : Shared := ⟨heap_block w.params, ⟨[]⟩, (PySem.Drawn.mk 0 0 0 0), 187, os⟩
noncomputable def heap_p2 (P : Params) : Heap := ⟨⟨[boot_o_0 P, boot_o_1 P, boot_o_2 P, obj4 P, boot_o_4 P, boot_o_5 P, boot_o_6 P, boot_o_7 P, boot_o_8 P, boot_o_9 P, boot_o_10 P, obj0 P, obj5 P, obj2 P, obj3 P, obj0 P, obj1 P, obj6 P, obj0 P, obj7 P, obj8 P, obj9 P, obj0 P, obj10 P, obj11 P, obj0 P, obj12 P, obj13 P, obj14 P, obj0 P, obj1 P, obj15 P, obj0 P, obj16 P, obj17 P, obj18 P, obj0 P, obj1 P, obj19 P, obj0 P, obj20 P, obj21 P, obj22 P, obj0 P, obj1 P, obj23 P, obj0 P, obj24 P, obj25 P, obj26 P, obj0 P, obj1 P, obj27 P, obj0 P, obj28 P, obj29 P, obj30 P, obj0 P, obj1 P, obj31 P, obj0 P, obj32 P, obj33 P, obj34 P, obj0 P, obj1 P, obj35 P, obj0 P, obj36 P, obj37 P, obj38 P, obj0 P, obj1 P, obj39 P, obj0 P, obj40 P, obj41 P, obj42 P, obj0 P, obj1 P, obj43 P, obj0 P, obj44 P, obj45 P, obj46 P, obj0 P, obj1 P, obj47 P, obj0 P, obj48 P, obj49 P, obj50 P, obj0 P, obj1 P, obj51 P, obj0 P, obj52 P, obj53 P, obj54 P, obj0 P, obj1 P, obj55 P, obj0 P, obj56 P, obj57 P, obj58 P, obj0 P, obj1 P, obj59 P, obj0 P, obj60 P, obj61 P, obj62 P, obj0 P, obj1 P, obj63 P, obj0 P, obj64 P, obj65 P, obj66 P, obj67 P, obj68 P, obj69 P, obj70 P, obj71 P, obj72 P, obj73 P]⟩, (Life.mk [] [] [] 0 [] [] false (List.toArray []) [] 0 false false false 0 [2000, 10, 10] false 0 true [] [] 0 false)⟩
noncomputable abbrev st_p2 (w : World) (os : OsState) : Shared := ⟨heap_p2 w.params, ⟨[]⟩, (PySem.Drawn.mk 0 0 0 0), 321, os⟩
noncomputable def heap_p9 (P : Params) : Heap := ⟨⟨[boot_o_0 P, boot_o_1 P, obj74 P, obj75 P, boot_o_4 P, boot_o_5 P, boot_o_6 P, boot_o_7 P, boot_o_8 P, boot_o_9 P, boot_o_10 P, obj0 P, obj76 P, obj2 P, obj3 P, obj0 P, obj1 P, obj6 P, obj0 P, obj7 P, obj8 P, obj9 P, obj0 P, obj10 P, obj11 P, obj0 P, obj12 P, obj13 P, obj14 P, obj0 P, obj1 P, obj15 P, obj0 P, obj16 P, obj17 P, obj18 P, obj0 P, obj1 P, obj19 P, obj0 P, obj20 P, obj21 P, obj22 P, obj0 P, obj1 P, obj23 P, obj0 P, obj24 P, obj25 P, obj26 P, obj0 P, obj1 P, obj27 P, obj0 P, obj28 P, obj29 P, obj30 P, obj0 P, obj1 P, obj31 P, obj0 P, obj32 P, obj33 P, obj34 P, obj0 P, obj1 P, obj35 P, obj0 P, obj36 P, obj37 P, obj38 P, obj0 P, obj1 P, obj39 P, obj0 P, obj40 P, obj41 P, obj42 P, obj0 P, obj1 P, obj43 P, obj0 P, obj44 P, obj45 P, obj46 P, obj0 P, obj1 P, obj47 P, obj0 P, obj48 P, obj49 P, obj50 P, obj0 P, obj1 P, obj51 P, obj0 P, obj52 P, obj53 P, obj54 P, obj0 P, obj1 P, obj55 P, obj0 P, obj56 P, obj57 P, obj58 P, obj0 P, obj1 P, obj59 P, obj0 P, obj60 P, obj61 P, obj62 P, obj0 P, obj1 P, obj63 P, obj0 P, obj64 P, obj65 P, obj66 P, obj67 P, obj68 P, obj69 P, obj70 P, obj71 P, obj72 P, obj73 P, obj0 P, obj1 P, obj77 P, obj0 P, obj78 P, obj79 P, obj80 P, obj81 P, obj0 P, obj1 P, obj82 P, obj0 P, obj83 P, obj84 P, obj85 P, obj86 P, obj0 P, obj1 P, obj87 P, obj0 P, obj88 P, obj89 P, obj90 P, obj91 P, obj10 P, obj92 P, obj0 P, obj93 P, obj94 P, obj95 P, obj0 P, obj1 P, obj96 P, obj0 P, obj97 P, obj98 P, obj99 P, obj100 P, obj101 P, obj102 P, obj103 P, obj104 P, obj105 P, obj106 P, obj10 P, obj107 P, obj0 P, obj1 P, obj108 P, obj109 P, obj0 P, obj110 P, obj111 P, obj112 P, obj113 P]⟩, (Life.mk [] [] [] 0 [] [] false (List.toArray []) [] 0 false false false 0 [2000, 10, 10] false 0 true [] [] 0 false)⟩
noncomputable abbrev st_p9 (w : World) (os : OsState) : Shared := ⟨heap_p9 w.params, ⟨[]⟩, (PySem.Drawn.mk 0 0 0 0), 405, os⟩
noncomputable def heap_p10 (P : Params) : Heap := ⟨⟨[boot_o_0 P, boot_o_1 P, obj74 P, obj114 P, boot_o_4 P, boot_o_5 P, boot_o_6 P, boot_o_7 P, boot_o_8 P, boot_o_9 P, boot_o_10 P, obj0 P, obj115 P, obj2 P, obj3 P, obj0 P, obj1 P, obj6 P, obj0 P, obj7 P, obj8 P, obj9 P, obj0 P, obj10 P, obj11 P, obj0 P, obj12 P, obj13 P, obj14 P, obj0 P, obj1 P, obj15 P, obj0 P, obj16 P, obj17 P, obj18 P, obj0 P, obj1 P, obj19 P, obj0 P, obj20 P, obj21 P, obj22 P, obj0 P, obj1 P, obj23 P, obj0 P, obj24 P, obj25 P, obj26 P, obj0 P, obj1 P, obj27 P, obj0 P, obj28 P, obj29 P, obj30 P, obj0 P, obj1 P, obj31 P, obj0 P, obj32 P, obj33 P, obj34 P, obj0 P, obj1 P, obj35 P, obj0 P, obj36 P, obj37 P, obj38 P, obj0 P, obj1 P, obj39 P, obj0 P, obj40 P, obj41 P, obj42 P, obj0 P, obj1 P, obj43 P, obj0 P, obj44 P, obj45 P, obj46 P, obj0 P, obj1 P, obj47 P, obj0 P, obj48 P, obj49 P, obj50 P, obj0 P, obj1 P, obj51 P, obj0 P, obj52 P, obj53 P, obj54 P, obj0 P, obj1 P, obj55 P, obj0 P, obj56 P, obj57 P, obj58 P, obj0 P, obj1 P, obj59 P, obj0 P, obj60 P, obj61 P, obj62 P, obj0 P, obj1 P, obj63 P, obj0 P, obj64 P, obj65 P, obj66 P, obj67 P, obj68 P, obj69 P, obj70 P, obj71 P, obj72 P, obj73 P, obj0 P, obj1 P, obj77 P, obj0 P, obj78 P, obj79 P, obj80 P, obj81 P, obj0 P, obj1 P, obj82 P, obj0 P, obj83 P, obj84 P, obj85 P, obj86 P, obj0 P, obj1 P, obj87 P, obj0 P, obj88 P, obj89 P, obj90 P, obj91 P, obj10 P, obj92 P, obj0 P, obj93 P, obj94 P, obj95 P, obj0 P, obj1 P, obj96 P, obj0 P, obj97 P, obj98 P, obj99 P, obj100 P, obj101 P, obj102 P, obj103 P, obj104 P, obj105 P, obj106 P, obj10 P, obj107 P, obj0 P, obj1 P, obj108 P, obj109 P, obj0 P, obj110 P, obj111 P, obj112 P, obj113 P, obj0 P, obj10 P, obj116 P, obj0 P, obj117 P, obj118 P, obj119 P, obj0 P, obj1 P, obj120 P, obj0 P, obj121 P, obj122 P, obj123 P, obj0 P, obj124 P, obj0 P, obj1 P, obj125 P, obj0 P, obj126 P, obj127 P, obj128 P, obj0 P, obj129 P, obj0 P, obj1 P, obj130 P, obj0 P, obj131 P, obj132 P, obj133 P, obj0 P, obj1 P, obj134 P, obj0 P, obj135 P, obj136 P, obj137 P, obj0 P, obj1 P, obj138 P, obj0 P, obj139 P, obj140 P, obj141 P, obj0 P, obj1 P, obj142 P, obj0 P, obj143 P, obj144 P, obj145 P, obj146 P, obj0 P, obj1 P, obj147 P, obj0 P, obj148 P, obj149 P, obj150 P, obj0 P, obj1 P, obj151 P, obj0 P, obj152 P, obj153 P, obj154 P, obj0 P, obj1 P, obj155 P, obj0 P, obj156 P, obj157 P, obj158 P, obj0 P, obj1 P, obj159 P, obj0 P, obj160 P, obj161 P, obj162 P, obj0 P, obj1 P, obj163 P, obj0 P, obj164 P, obj165 P, obj166 P, obj0 P, obj1 P, obj167 P, obj0 P, obj168 P, obj169 P, obj170 P, obj0 P, obj1 P, obj171 P, obj0 P, obj172 P, obj173 P, obj174 P, obj0 P, obj1 P, obj175 P, obj0 P, obj176 P, obj177 P, obj178 P, obj179 P, obj180 P, obj181 P, obj182 P, obj183 P, obj184 P, obj185 P]⟩, (Life.mk [] [] [] 0 [] [] false (List.toArray []) [] 0 false false false 0 [2000, 10, 10] false 0 true [] [] 0 false)⟩
noncomputable abbrev st_p10 (w : World) (os : OsState) : Shared := ⟨heap_p10 w.params, ⟨[]⟩, (PySem.Drawn.mk 0 0 0 0), 566, os⟩
noncomputable def heap_p19 (P : Params) : Heap := ⟨⟨[boot_o_0 P, boot_o_1 P, obj74 P, obj186 P, boot_o_4 P, boot_o_5 P, boot_o_6 P, boot_o_7 P, boot_o_8 P, boot_o_9 P, boot_o_10 P, obj0 P, obj187 P, obj2 P, obj3 P, obj0 P, obj1 P, obj6 P, obj0 P, obj7 P, obj8 P, obj9 P, obj0 P, obj10 P, obj11 P, obj0 P, obj12 P, obj13 P, obj14 P, obj0 P, obj1 P, obj15 P, obj0 P, obj16 P, obj17 P, obj18 P, obj0 P, obj1 P, obj19 P, obj0 P, obj20 P, obj21 P, obj22 P, obj0 P, obj1 P, obj23 P, obj0 P, obj24 P, obj25 P, obj26 P, obj0 P, obj1 P, obj27 P, obj0 P, obj28 P, obj29 P, obj30 P, obj0 P, obj1 P, obj31 P, obj0 P, obj32 P, obj33 P, obj34 P, obj0 P, obj1 P, obj35 P, obj0 P, obj36 P, obj37 P, obj38 P, obj0 P, obj1 P, obj39 P, obj0 P, obj40 P, obj41 P, obj42 P, obj0 P, obj1 P, obj43 P, obj0 P, obj44 P, obj45 P, obj46 P, obj0 P, obj1 P, obj47 P, obj0 P, obj48 P, obj49 P, obj50 P, obj0 P, obj1 P, obj51 P, obj0 P, obj52 P, obj53 P, obj54 P, obj0 P, obj1 P, obj55 P, obj0 P, obj56 P, obj57 P, obj58 P, obj0 P, obj1 P, obj59 P, obj0 P, obj60 P, obj61 P, obj62 P, obj0 P, obj1 P, obj63 P, obj0 P, obj64 P, obj65 P, obj66 P, obj67 P, obj68 P, obj69 P, obj70 P, obj71 P, obj72 P, obj73 P, obj0 P, obj1 P, obj77 P, obj0 P, obj78 P, obj79 P, obj80 P, obj81 P, obj0 P, obj1 P, obj82 P, obj0 P, obj83 P, obj84 P, obj85 P, obj86 P, obj0 P, obj1 P, obj87 P, obj0 P, obj88 P, obj89 P, obj90 P, obj91 P, obj10 P, obj92 P, obj0 P, obj93 P, obj94 P, obj95 P, obj0 P, obj1 P, obj96 P, obj0 P, obj97 P, obj98 P, obj99 P, obj100 P, obj101 P, obj102 P, obj103 P, obj104 P, obj105 P, obj106 P, obj10 P, obj107 P, obj0 P, obj1 P, obj108 P, obj109 P, obj0 P, obj110 P, obj111 P, obj112 P, obj113 P, obj0 P, obj10 P, obj116 P, obj0 P, obj117 P, obj118 P, obj119 P, obj0 P, obj1 P, obj120 P, obj0 P, obj121 P, obj122 P, obj123 P, obj0 P, obj124 P, obj0 P, obj1 P, obj125 P, obj0 P, obj126 P, obj127 P, obj128 P, obj0 P, obj129 P, obj0 P, obj1 P, obj130 P, obj0 P, obj131 P, obj132 P, obj133 P, obj0 P, obj1 P, obj134 P, obj0 P, obj135 P, obj136 P, obj137 P, obj0 P, obj1 P, obj138 P, obj0 P, obj139 P, obj140 P, obj141 P, obj0 P, obj1 P, obj142 P, obj0 P, obj143 P, obj144 P, obj145 P, obj146 P, obj0 P, obj1 P, obj147 P, obj0 P, obj148 P, obj149 P, obj150 P, obj0 P, obj1 P, obj151 P, obj0 P, obj152 P, obj153 P, obj154 P, obj0 P, obj1 P, obj155 P, obj0 P, obj156 P, obj157 P, obj158 P, obj0 P, obj1 P, obj159 P, obj0 P, obj160 P, obj161 P, obj162 P, obj0 P, obj1 P, obj163 P, obj0 P, obj164 P, obj165 P, obj166 P, obj0 P, obj1 P, obj167 P, obj0 P, obj168 P, obj169 P, obj170 P, obj0 P, obj1 P, obj171 P, obj0 P, obj172 P, obj173 P, obj174 P, obj0 P, obj1 P, obj175 P, obj0 P, obj176 P, obj177 P, obj178 P, obj179 P, obj180 P, obj181 P, obj182 P, obj183 P, obj184 P, obj185 P, obj0 P, obj1 P, obj188 P, obj0 P, obj189 P, obj190 P, obj191 P, obj0 P, obj1 P, obj192 P, obj0 P, obj193 P, obj194 P, obj195 P, obj0 P, obj1 P, obj196 P, obj0 P, obj197 P, obj198 P, obj199 P, obj0 P, obj1 P, obj200 P, obj201 P, obj202 P, obj0 P, obj1 P, obj203 P, obj0 P, obj204 P, obj205 P, obj206 P, obj0 P, obj1 P, obj207 P, obj208 P, obj209 P, obj0 P, obj1 P, obj210 P, obj211 P, obj212 P, obj0 P, obj1 P, obj213 P, obj214 P, obj215 P]⟩, (Life.mk [] [] [] 0 [] [] false (List.toArray []) [] 0 false false false 0 [2000, 10, 10] false 0 true [] [] 0 false)⟩
noncomputable abbrev st_p19 (w : World) (os : OsState) : Shared := ⟨heap_p19 w.params, ⟨[]⟩, (PySem.Drawn.mk 0 0 0 0), 625, os⟩
noncomputable def heap_fin (P : Params) : Heap := ⟨⟨[boot_o_0 P, boot_o_1 P, obj74 P, obj186 P, boot_o_4 P, boot_o_5 P, boot_o_6 P, boot_o_7 P, boot_o_8 P, boot_o_9 P, boot_o_10 P, obj0 P, obj187 P, obj2 P, obj3 P, obj0 P, obj1 P, obj6 P, obj0 P, obj7 P, obj8 P, obj9 P, obj0 P, obj10 P, obj11 P, obj0 P, obj12 P, obj13 P, obj14 P, obj0 P, obj1 P, obj15 P, obj0 P, obj16 P, obj17 P, obj18 P, obj0 P, obj1 P, obj19 P, obj0 P, obj20 P, obj21 P, obj22 P, obj0 P, obj1 P, obj23 P, obj0 P, obj24 P, obj25 P, obj26 P, obj0 P, obj1 P, obj27 P, obj0 P, obj28 P, obj29 P, obj30 P, obj0 P, obj1 P, obj31 P, obj0 P, obj32 P, obj33 P, obj34 P, obj0 P, obj1 P, obj35 P, obj0 P, obj36 P, obj37 P, obj38 P, obj0 P, obj1 P, obj39 P, obj0 P, obj40 P, obj41 P, obj42 P, obj0 P, obj1 P, obj43 P, obj0 P, obj44 P, obj45 P, obj46 P, obj0 P, obj1 P, obj47 P, obj0 P, obj48 P, obj49 P, obj50 P, obj0 P, obj1 P, obj51 P, obj0 P, obj52 P, obj53 P, obj54 P, obj0 P, obj1 P, obj55 P, obj0 P, obj56 P, obj57 P, obj58 P, obj0 P, obj1 P, obj59 P, obj0 P, obj60 P, obj61 P, obj62 P, obj0 P, obj1 P, obj63 P, obj0 P, obj64 P, obj65 P, obj66 P, obj67 P, obj68 P, obj69 P, obj70 P, obj71 P, obj72 P, obj73 P, obj0 P, obj1 P, obj77 P, obj0 P, obj78 P, obj79 P, obj80 P, obj81 P, obj0 P, obj1 P, obj82 P, obj0 P, obj83 P, obj84 P, obj85 P, obj86 P, obj0 P, obj1 P, obj87 P, obj0 P, obj88 P, obj89 P, obj90 P, obj91 P, obj10 P, obj92 P, obj0 P, obj93 P, obj94 P, obj95 P, obj0 P, obj1 P, obj96 P, obj0 P, obj97 P, obj98 P, obj99 P, obj100 P, obj101 P, obj102 P, obj103 P, obj104 P, obj105 P, obj106 P, obj10 P, obj107 P, obj0 P, obj1 P, obj108 P, obj109 P, obj0 P, obj110 P, obj111 P, obj112 P, obj113 P, obj0 P, obj10 P, obj116 P, obj0 P, obj117 P, obj118 P, obj119 P, obj0 P, obj1 P, obj120 P, obj0 P, obj121 P, obj122 P, obj123 P, obj0 P, obj124 P, obj0 P, obj1 P, obj125 P, obj0 P, obj126 P, obj127 P, obj128 P, obj0 P, obj129 P, obj0 P, obj1 P, obj130 P, obj0 P, obj131 P, obj132 P, obj133 P, obj0 P, obj1 P, obj134 P, obj0 P, obj135 P, obj136 P, obj137 P, obj0 P, obj1 P, obj138 P, obj0 P, obj139 P, obj140 P, obj141 P, obj0 P, obj1 P, obj142 P, obj0 P, obj143 P, obj144 P, obj145 P, obj146 P, obj0 P, obj1 P, obj147 P, obj0 P, obj148 P, obj149 P, obj150 P, obj0 P, obj1 P, obj151 P, obj0 P, obj152 P, obj153 P, obj154 P, obj0 P, obj1 P, obj155 P, obj0 P, obj156 P, obj157 P, obj158 P, obj0 P, obj1 P, obj159 P, obj0 P, obj160 P, obj161 P, obj162 P, obj0 P, obj1 P, obj163 P, obj0 P, obj164 P, obj165 P, obj166 P, obj0 P, obj1 P, obj167 P, obj0 P, obj168 P, obj169 P, obj170 P, obj0 P, obj1 P, obj171 P, obj0 P, obj172 P, obj173 P, obj174 P, obj0 P, obj1 P, obj175 P, obj0 P, obj176 P, obj177 P, obj178 P, obj179 P, obj180 P, obj181 P, obj182 P, obj183 P, obj184 P, obj185 P, obj0 P, obj1 P, obj188 P, obj0 P, obj189 P, obj190 P, obj191 P, obj0 P, obj1 P, obj192 P, obj0 P, obj193 P, obj194 P, obj195 P, obj0 P, obj1 P, obj196 P, obj0 P, obj197 P, obj198 P, obj199 P, obj0 P, obj1 P, obj200 P, obj201 P, obj202 P, obj0 P, obj1 P, obj203 P, obj0 P, obj204 P, obj205 P, obj206 P, obj0 P, obj1 P, obj207 P, obj208 P, obj209 P, obj0 P, obj1 P, obj210 P, obj211 P, obj212 P, obj0 P, obj1 P, obj213 P, obj214 P, obj215 P]⟩, (Life.mk [] [] [] 0 [] [] false (List.toArray []) [] 0 false false false 0 [2000, 10, 10] false 0 true [] [] 0 false)⟩
noncomputable abbrev st_fin (w : World) (os : OsState) : Shared := ⟨heap_fin w.params, ⟨[]⟩, (PySem.Drawn.mk 0 0 0 0), 625, os⟩
noncomputable abbrev st_boot (w : World) (os : OsState) : Shared := ⟨boot_heap w.params, ⟨[]⟩, boot_drawn, boot_toks, os⟩
noncomputable def envT : Env := { scope := PP.main.scope, locals := mainNs, globals := mainNs, cells := [], code := (.ref 13), frame := some 14 }
noncomputable def bodyT : List Stmt := behindTheImports PP
noncomputable abbrev cT : Code := .body bodyT envT
noncomputable abbrev qT : Pos := (PySem.Pos.mk 0 0 0 0)
noncomputable abbrev annT : Option Value := (some (.ref 6))
noncomputable def sts0 : List Stmt := [tops 0, tops 1, tops 2]
noncomputable def sts1 : List Stmt := [tops 3, tops 4, tops 5, tops 6, tops 7, tops 8, tops 9]
noncomputable def sts2 : List Stmt := [tops 10]
noncomputable def sts3 : List Stmt := [tops 11, tops 12, tops 13, tops 14, tops 15, tops 16, tops 17, tops 18, tops 19]
theorem bodyE : bodyT = sts0 ++ (sts1 ++ (sts2 ++ (sts3 ++ []))) := by kernel_rfl
theorem run_pre (w : World) (os : OsState) : topGo treeTable PP w 11 annT 12 (st_boot w os) (topStub PP) = some (st_pre w os, ⟨denote treeTable cT, cT, (PySem.Pos.mk 0 0 0 0), [topFrame qT]⟩) := by kernel_rfl
theorem run_block (w : World) (os : OsState) : segRun treeTable PP w 11 annT 1 1 (st_pre w os) (blockOf bodyT envT cT (PySem.Pos.mk 0 0 0 0) [topFrame qT]) = some (.next, st_block w os, cT, (PySem.Pos.mk 0 0 0 0)) := by kernel_rfl
theorem run_0 (w : World) (os : OsState) : segRun treeTable PP w 11 annT 1 645 (st_block w os) (piecesOf sts0 envT cT (PySem.Pos.mk 0 0 0 0) [topFrame qT]) = some (.next, st_p2 w os, cT, (PySem.Pos.mk 5 0 58 16)) := by kernel_rfl
theorem run_1 (w : World) (os : OsState) : segRun treeTable PP w 11 annT 1 563 (st_p2 w os) (piecesOf sts1 envT cT (PySem.Pos.mk 5 0 58 16) [topFrame qT]) = some (.next, st_p9 w os, cT, (PySem.Pos.mk 99 0 99 8)) := by kernel_rfl
theorem run_2 (w : World) (os : OsState) : segRun treeTable PP w 11 annT 1 678 (st_p9 w os) (piecesOf sts2 envT cT (PySem.Pos.mk 99 0 99 8) [topFrame qT]) = some (.next, st_p10 w os, cT, (PySem.Pos.mk 100 0 177 88)) := by kernel_rfl
theorem run_3 (w : World) (os : OsState) : segRun treeTable PP w 11 annT 1 235 (st_p10 w os) (piecesOf sts3 envT cT (PySem.Pos.mk 100 0 177 88) [topFrame qT]) = some (.next, st_p19 w os, cT, (PySem.Pos.mk 239 0 277 28)) := by kernel_rfl
theorem run_fin (w : World) (os : OsState) : topRun treeTable PP w 11 annT 2 (st_p19 w os) (restOf [] envT cT (PySem.Pos.mk 239 0 277 28) [topFrame qT]) = some (st_fin w os) := by kernel_rfl
theorem run_body (w : World) (os : OsState) : topRun treeTable PP w 11 annT (645 + (563 + (678 + (235 + (2))))) (st_block w os) (restOf bodyT envT cT (PySem.Pos.mk 0 0 0 0) [topFrame qT]) = some (st_fin w os) := by
  rw [bodyE]
  exact piece_app (run_0 w os) (piece_app (run_1 w os) (piece_app (run_2 w os) (piece_app (run_3 w os) (run_fin w os))))
theorem run_all (w : World) (os : OsState) : topRun treeTable PP w 11 annT (12 + (1 + (645 + (563 + (678 + (235 + (2))))))) (st_boot w os) (topStub PP) = some (st_fin w os) :=
  go_top (run_pre w os) (piece_block (run_block w os) (run_body w os))
theorem run_open (w : World) : (fencedOpening treeTable PP w 4360).map (fun s => (s.heap, s.gens, s.drawn, s.toks)) = some (boot_heap w.params, ⟨[]⟩, boot_drawn, boot_toks) :=
  boot_open (p := PP) (N := 4360) (by kernel_rfl) (by rfl) (fun s => by kernel_rfl) w
theorem left : LeftO RR.toRowW.prog view loose (fun s => xlAt view [] s && recOk (RowW.records RR.toRowW) s) (Hook.obs HK) (Hook.val HK) 4360 :=
  LeftO.of_pieces (p := PP) run_open (m₀ := 11) (ann := annT) (fun w => by kernel_rfl) run_all (by rfl) (fun w => by kernel_rfl)
end

section

theorem nums_well {P : Params} {h : Heap} : ∀ {ns : List Int} {vs : List Value}, WellAll P h vs (ofPys (ns.map .int)) → RdAll h vs (ns.map .int)
  | [], _, .nil => .nil
  | _ :: _, _, .cons (.int i t) r => .cons (.int i t) (nums_well r)
theorem script_well {P : Params} {h : Heap} {v : Value} {ns : List Int} (x : Well P h v (ofPy (.list (ns.map .int)))) : Rd h v (.list (ns.map .int)) := by
  unfold ofPy at x
  cases x with
  | list e r => exact .list (vs := _) e (by simpa using nums_well r)
theorem room_caller : Room callerA 5 := ⟨rfl, by decide +kernel, by decide +kernel⟩
theorem good_true {c : ClaimW} {cl : Str → Option Addr} {mean : ExcName → Option Value} {args : List WData} {s₁ s' : Shared} (k : Keeps s₁ s') (hg : s₁.gens = #[])
    (hr : ∀ cls, c.raises args cls = false) (hp : c.post args (.bool true) args = true) : GoodWG c cl mean args s₁ (.ok (.ret (.bool true))) s' := by
  obtain ⟨h', tk, rfl, k'⟩ := k
  exact ⟨.inl ⟨_, _, [], rfl, hr, ReadsW.bool true, hp, fun _ => ⟨List.nodup_nil, fun _ hm => (nomatch hm)⟩⟩, .of_keep k', rfl, .of_eq hg⟩
theorem law_called {w : World} {s₁ : Shared} {mg mb : Str → Option Value} {fa a : Addr} {ns : List Int} {c : ClaimW} {cl : Str → Option Addr} {mean : ExcName → Option Value} {args : List WData}
    (X : (Kf w).In s₁.heap) (g : s₁.heap.Ns mainGlobals mg) (b : s₁.heap.Ns builtinsNs mb) (nl : s₁.heap.NoLimit) (hb : ∀ x : Str, x ≠ "__name__" → mb x = bootBuiltins x)
    (hmg : mg ("law" : Str) = some (.ref fa)) (hg : s₁.gens = #[]) (x : Well w.params s₁.heap (.ref a) (ofPy (.list (ns.map .int)))) (hz : ns.length < 2^30)
    (hr : ∀ cls, c.raises args cls = false) (hp : c.post args (.bool true) args = true) :
    wpAny (model PP w) callerA (call (.ref fa) [.ref a]) (fun v s' => GoodWG c cl mean args s₁ (.ok (.ret v)) s') (fun e s' => GoodWG c cl mean args s₁ (.error e) s') s₁ := by
  obtain rfl : fa = 346 := by
    have h := mg_of X g (show nsIn (Kf w) mainGlobals "law" = some (some (.ref 346)) by kernel_rfl)
    rw [hmg] at h
    cases h; rfl
  refine wpAny_mono ((fn_law ⟨X, g, b, nl, hb⟩ room_caller hz).go s₁ [.ref a] (fun _ _ e => e) ⟨script_well x, trivial⟩) (fun u s' h => ?_) fun _ _ f => f.elim
  obtain ⟨k, q⟩ := h
  obtain ⟨gg, kg, -, q⟩ := q
  obtain rfl := Rd.getBool q
  exact good_true k hg hr hp
end
end Mine

theorem PySem.Challenge.cw_nt0599_01_holds : PySem.Challenge.rw_nt0599_01.Holds := by
  w_on
  o_law
  refine holds_open (q := Mine.view) (loose := Mine.loose) (Xt := fun s => xlAt Mine.view [] s && recOk (RowW.records Mine.RR.toRowW) s) (XP := XL Mine.view []) (Yf := Hook.obs Mine.HK) (Ya := Hook.val Mine.HK) (YP := Hook.says Mine.HK) (N := 4360)
    Mine.left (Hook.of Mine.HK) (Hook.keeps Mine.HK) (fun s e => xl_of s (Bool.and_eq_true_iff.mp e).1) XL.keeps (by rfl) (by rfl) (by rfl) (fun s e => recFacts_of (Bool.and_eq_true_iff.mp e).2) (by rfl) (by first | assumption | decide +kernel) (by decide +kernel) ⟨rfl, rfl, rfl, rfl, rfl, by decide +kernel⟩ ?hw ?hc
  case hw => w_witness2
  case hc =>
    w_strict (
    intro w s₀ s₁ mg mb G Y fa o pm cd doc dV kV ho hd hcd hD hmg hg args vals as hpre hlay hrd hwl hlo
    have KX := kIn_of Y
    refine Ground.open G ?_
    intro T B D TE TW
    wrow_args hpre hlay hrd hwl hlo
    all_goals (
      rename Well _ _ _ _ => w1
      rename ¬ _ => hc
      exact Mine.law_called KX (Top.g T) (Top.b T) (Top.nolimit T) (Top.builtins T) hmg hg w1 (by omega) (fun _ => rfl) (by wrow_post)))
