import PyProof.Rows.All
import Wide.All
import OpenK.AllK
import Wide.FinOn
import Lean
import PySem.Challenge.RW_pq0928_01
open PySem PySem.W PyProof.Rows
set_option Elab.async false

section
set_option maxRecDepth 100000
namespace Mine

/-! 1. Data as the heap bears them, off the addresses X that may still change. -/
mutual
inductive Is (X : List Addr) (h : Heap) : Value → PyData → Prop
  | none : Is X h .none .none
  | bool (b : Bool) : Is X h (.bool b) (.bool b)
  | int (i : Int) (t : Tok) : Is X h (.int i t) (.int i)
  | str (x : Str) (t : Tok) : Is X h (.str x t) (.str x)
  | tuple {a : Addr} {vs : List Value} {ds : List PyData} : a ∉ X → h.IsTuple a vs.toArray → IsAll X h vs ds → Is X h (.ref a) (.tuple ds)
  | list {a : Addr} {vs : List Value} {ds : List PyData} : a ∉ X → h.IsList a vs.toArray → IsAll X h vs ds → Is X h (.ref a) (.list ds)
inductive IsAll (X : List Addr) (h : Heap) : List Value → List PyData → Prop
  | nil : IsAll X h [] []
  | cons {v : Value} {vs : List Value} {d : PyData} {ds : List PyData} : Is X h v d → IsAll X h vs ds → IsAll X h (v :: vs) (d :: ds)
end

noncomputable def Up (X : List Addr) (h : Heap) (X' : List Addr) (h' : Heap) : Prop := ∀ a o, a ∉ X → h.get? a = some o → a ∉ X' ∧ h'.get? a = some o
theorem Up.tup {X X' : List Addr} {h h' : Heap} {a : Addr} {its : Array Value} (u : Up X h X' h') (n : a ∉ X) (t : h.IsTuple a its) : a ∉ X' ∧ h'.IsTuple a its :=
  let ⟨o, e, r⟩ := t; ⟨(u a o n e).1, o, (u a o n e).2, r⟩
theorem Up.lst {X X' : List Addr} {h h' : Heap} {a : Addr} {its : Array Value} (u : Up X h X' h') (n : a ∉ X) (t : h.IsList a its) : a ∉ X' ∧ h'.IsList a its :=
  let ⟨o, e, r⟩ := t; ⟨(u a o n e).1, o, (u a o n e).2, r⟩
mutual
theorem Is.up {X X' : List Addr} {h h' : Heap} (u : Up X h X' h') : ∀ {v : Value} {d : PyData}, Is X h v d → Is X' h' v d
  | _, _, .none => .none
  | _, _, .bool b => .bool b
  | _, _, .int i t => .int i t
  | _, _, .str x t => .str x t
  | _, _, .tuple n t r => .tuple (u.tup n t).1 (u.tup n t).2 (IsAll.up u r)
  | _, _, .list n t r => .list (u.lst n t).1 (u.lst n t).2 (IsAll.up u r)
theorem IsAll.up {X X' : List Addr} {h h' : Heap} (u : Up X h X' h') : ∀ {vs : List Value} {ds : List PyData}, IsAll X h vs ds → IsAll X' h' vs ds
  | _, _, .nil => .nil
  | _, _, .cons a r => .cons (Is.up u a) (IsAll.up u r)
end
theorem Up.keep {X : List Addr} {h h' : Heap} (k : ∀ b o, h.get? b = some o → h'.get? b = some o) : Up X h X h' := fun a o n e => ⟨n, k a o e⟩
theorem Up.less {X X' : List Addr} {h : Heap} (k : ∀ b, b ∈ X' → b ∈ X) : Up X h X' h := fun _ _ n e => ⟨fun m => n (k _ m), e⟩
/-- new addresses may be barred at once -/
theorem Up.more {X Y : List Addr} {h : Heap} (k : ∀ b ∈ Y, h.get? b = none) : Up X h (Y ++ X) h := fun a o n e =>
  ⟨fun m => (List.mem_append.mp m).elim (fun q => by rw [k a q] at e; cases e) n, e⟩
theorem Up.trans {X X' X'' : List Addr} {h h' h'' : Heap} (u : Up X h X' h') (v : Up X' h' X'' h'') : Up X h X'' h'' := fun a o n e =>
  v a o (u a o n e).1 (u a o n e).2
theorem Up.refl {X : List Addr} {h : Heap} : Up X h X h := fun _ _ n e => ⟨n, e⟩
theorem Up.mod {X W : List Addr} {h h' : Heap} (w : ∀ b ∈ W, b ∈ X) (k : ∀ b o, b ∉ W → h.get? b = some o → h'.get? b = some o) : Up X h X h' :=
  fun a o n e => ⟨n, k a o (fun m => n (w a m)) e⟩

mutual
theorem Is.reads {X : List Addr} {h : Heap} : ∀ {v : Value} {d : PyData}, Is X h v d → ∃ as, Reads h v d as
  | _, _, .none => ⟨_, .none⟩
  | _, _, .bool b => ⟨_, .bool b⟩
  | _, _, .int i t => ⟨_, .int i t⟩
  | _, _, .str x t => ⟨_, .str x t⟩
  | _, _, .tuple _ ⟨_, e, c, _, q⟩ r => let ⟨as, z⟩ := IsAll.reads r; ⟨as, .tuple e c q (by simpa using z)⟩
  | _, _, .list _ ⟨_, e, c, _, q⟩ r => let ⟨as, z⟩ := IsAll.reads r; ⟨_, .list e c q (by simpa using z)⟩
theorem IsAll.reads {X : List Addr} {h : Heap} : ∀ {vs : List Value} {ds : List PyData}, IsAll X h vs ds → ∃ as, ReadsAll h vs ds as
  | _, _, .nil => ⟨_, .nil⟩
  | _, _, .cons a r => let ⟨_, p⟩ := Is.reads a; let ⟨_, q⟩ := IsAll.reads r; ⟨_, .cons p q⟩
end
theorem IsAll.length {X : List Addr} {h : Heap} : ∀ {vs : List Value} {ds : List PyData}, IsAll X h vs ds → vs.length = ds.length
  | _, _, .nil => rfl
  | _, _, .cons _ r => by rw [List.length_cons, List.length_cons, IsAll.length r]
theorem IsAll.append {X : List Addr} {h : Heap} : ∀ {vs ws : List Value} {ds es : List PyData}, IsAll X h vs ds → IsAll X h ws es → IsAll X h (vs ++ ws) (ds ++ es)
  | _, _, _, _, .nil, q => q
  | _, _, _, _, .cons a r, q => .cons a (IsAll.append r q)
theorem IsAll.get {X : List Addr} {h : Heap} : ∀ {vs : List Value} {ds : List PyData}, IsAll X h vs ds → ∀ {k : Nat} {d : PyData}, ds[k]? = some d → ∃ v, vs[k]? = some v ∧ Is X h v d
  | _, _, .nil, _, _, e => by simp at e
  | _, _, .cons a r, 0, _, e => by simp at e; subst e; exact ⟨_, rfl, a⟩
  | _, _, .cons a r, k + 1, _, e => by
    obtain ⟨v, p, q⟩ := IsAll.get r (k := k) (by simpa using e)
    exact ⟨v, by simpa using p, q⟩
theorem IsAll.getv {X : List Addr} {h : Heap} : ∀ {vs : List Value} {ds : List PyData}, IsAll X h vs ds → ∀ {k : Nat} {v : Value}, vs[k]? = some v → ∃ d, ds[k]? = some d ∧ Is X h v d
  | _, _, .nil, _, _, e => by simp at e
  | _, _, .cons a r, 0, _, e => by simp at e; subst e; exact ⟨_, rfl, a⟩
  | _, _, .cons a r, k + 1, _, e => by
    obtain ⟨v, p, q⟩ := IsAll.getv r (k := k) (by simpa using e)
    exact ⟨v, by simpa using p, q⟩
theorem IsAll.take {X : List Addr} {h : Heap} : ∀ {vs : List Value} {ds : List PyData} (k : Nat), IsAll X h vs ds → IsAll X h (vs.take k) (ds.take k)
  | _, _, 0, _ => by simpa using IsAll.nil
  | _, _, _ + 1, .nil => by simpa using IsAll.nil
  | _, _, k + 1, .cons a r => by simpa using IsAll.cons a (IsAll.take k r)
theorem IsAll.drop {X : List Addr} {h : Heap} : ∀ {vs : List Value} {ds : List PyData} (k : Nat), IsAll X h vs ds → IsAll X h (vs.drop k) (ds.drop k)
  | _, _, 0, q => by simpa using q
  | _, _, _ + 1, .nil => by simpa using IsAll.nil
  | _, _, k + 1, .cons a r => by simpa using IsAll.drop k r
theorem IsAll.reverse {X : List Addr} {h : Heap} : ∀ {vs : List Value} {ds : List PyData}, IsAll X h vs ds → IsAll X h vs.reverse ds.reverse
  | _, _, .nil => .nil
  | _, _, .cons a r => by
    rw [List.reverse_cons, List.reverse_cons]
    exact IsAll.append (IsAll.reverse r) (.cons a .nil)
theorem Is.int_inv {X : List Addr} {h : Heap} {v : Value} {i : Int} (q : Is X h v (.int i)) : ∃ t, v = .int i t := by
  cases q
  exact ⟨_, rfl⟩
theorem Is.str_inv {X : List Addr} {h : Heap} {v : Value} {x : Str} (q : Is X h v (.str x)) : ∃ t, v = .str x t := by
  cases q
  exact ⟨_, rfl⟩
theorem Is.list_inv {X : List Addr} {h : Heap} {v : Value} {ds : List PyData} (q : Is X h v (.list ds)) : ∃ a vs, v = .ref a ∧ a ∉ X ∧ h.IsList a (vs : List Value).toArray ∧ IsAll X h vs ds := by
  cases q with
  | list n l r => exact ⟨_, _, rfl, n, l, r⟩
theorem Is.tuple_inv {X : List Addr} {h : Heap} {v : Value} {ds : List PyData} (q : Is X h v (.tuple ds)) : ∃ a vs, v = .ref a ∧ a ∉ X ∧ h.IsTuple a (vs : List Value).toArray ∧ IsAll X h vs ds := by
  cases q with
  | tuple n l r => exact ⟨_, _, rfl, n, l, r⟩
theorem IsAll.cons_inv {X : List Addr} {h : Heap} {vs : List Value} {d : PyData} {ds : List PyData} (q : IsAll X h vs (d :: ds)) : ∃ v r, vs = v :: r ∧ Is X h v d ∧ IsAll X h r ds := by
  cases q with
  | cons a r => exact ⟨_, _, rfl, a, r⟩
theorem IsAll.nil_inv {X : List Addr} {h : Heap} {vs : List Value} (q : IsAll X h vs []) : vs = [] := by
  cases q
  rfl
theorem IsAll.one_inv {X : List Addr} {h : Heap} {vs : List Value} {d : PyData} (q : IsAll X h vs [d]) : ∃ v, vs = [v] ∧ Is X h v d := by
  obtain ⟨v, r, rfl, a, b⟩ := q.cons_inv
  rw [b.nil_inv]
  exact ⟨v, rfl, a⟩
theorem IsAll.ints {X : List Addr} {h : Heap} : ∀ {vs : List Value} {ns : List Int}, IsAll X h vs (ns.map .int) → IntsAre vs ns := by
  intro vs ns
  induction ns generalizing vs with
  | nil => intro q; rw [IsAll.nil_inv q]; exact .nil
  | cons n ns ih =>
    intro q
    obtain ⟨v, r, rfl, a, b⟩ := IsAll.cons_inv q
    obtain ⟨t, rfl⟩ := a.int_inv
    exact .cons _ _ (ih b)
theorem IsAll.ofInts {X : List Addr} {h : Heap} {vs : List Value} {ns : List Int} (q : IntsAre vs ns) : IsAll X h vs (ns.map .int) := by
  induction q with
  | nil => exact .nil
  | cons n t _ ih => exact .cons (.int n t) ih
theorem IsAll.strs {X : List Addr} {h : Heap} : ∀ {vs : List Value} {xs : List Str}, IsAll X h vs (xs.map .str) → StrsAre vs xs := by
  intro vs ns
  induction ns generalizing vs with
  | nil => intro q; rw [IsAll.nil_inv q]; exact .nil
  | cons n ns ih =>
    intro q
    obtain ⟨v, r, rfl, a, b⟩ := IsAll.cons_inv q
    obtain ⟨t, rfl⟩ := a.str_inv
    exact .cons _ _ (ih b)

/-! 2. What an expression gives, in a frame whose names hold data. -/
theorem kpH {s s' : Shared} (k : Keeps s s') : ∀ b o, s.heap.get? b = some o → s'.heap.get? b = some o := by
  obtain ⟨h', tk, rfl, q⟩ := k
  exact q
theorem keeps_refl (s : Shared) : Keeps s s := ⟨s.heap, s.toks, rfl, fun _ _ e => e⟩
theorem keeps_trans {s s' s'' : Shared} (k : Keeps s s') (l : Keeps s' s'') : Keeps s s'' := by
  obtain ⟨h', tk, rfl, q⟩ := k
  obtain ⟨h'', tk', rfl, q'⟩ := l
  exact ⟨h'', tk', rfl, fun b o e => q' b o (q b o e)⟩
theorem keeps_toks (s : Shared) (n : Nat) : Keeps s { s with toks := n } := ⟨s.heap, n, rfl, fun _ _ e => e⟩
theorem keeps_push (s : Shared) (o : Obj) (n : Nat) : Keeps s { s with heap := s.heap.push o, toks := n } := ⟨_, n, rfl, fun _ _ e => Heap.get?_push_of_some _ e⟩

noncomputable def Kp (g h : Heap) : Prop := ∀ b o, g.get? b = some o → h.get? b = some o
theorem Kp.trans {g h k : Heap} (a : Kp g h) (b : Kp h k) : Kp g k := fun x o e => b x o (a x o e)

noncomputable def At (env : Env) (h : Heap) (x : Str) (v : Value) : Prop :=
  (env.kindOf x = some .local ∧ ∃ m, h.Ns env.locals m ∧ m x = some v) ∨ (env.kindOf x = some .cell ∧ ∃ c, env.cells.lookup x = some c ∧ h.IsCell c (some v))
theorem At.keep {env : Env} {h h' : Heap} {x : Str} {v : Value} (a : At env h x v) (k : Kp h h') : At env h' x v := by
  rcases a with ⟨p, m, n, q⟩ | ⟨p, c, n, o, q, r⟩
  · exact .inl ⟨p, m, n.keeps k, q⟩
  · exact .inr ⟨p, c, n, o, k _ _ q, r⟩
noncomputable def Vars (X : List Addr) (env : Env) (h : Heap) (ρ : List (Str × PyData)) : Prop := ∀ x d, ρ.lookup x = some d → ∃ v, At env h x v ∧ Is X h v d
theorem Vars.keep {X : List Addr} {env : Env} {h h' : Heap} {ρ : List (Str × PyData)} (a : Vars X env h ρ) (k : Kp h h') : Vars X env h' ρ := fun x d e =>
  let ⟨v, p, q⟩ := a x d e; ⟨v, p.keep k, q.up (Up.keep k)⟩

/-- what a frame is in: program, world, the text's own part of the heap, the surroundings, the barred addresses, the frame -/
structure Cx where
  prog : Program
  w : World
  hB : Heap
  A : Around
  X : List Addr
  env : Env

structure Good (n : Nat) (A : Around) : Prop where
  handled : A.handled = none
  depth : A.depth + n ≤ 900
  units : A.units + 40 * n ≤ 9000
theorem Good.mono {n m : Nat} {A : Around} (g : Good n A) (h : m ≤ n) : Good m A := ⟨g.handled, by have := g.depth; omega, by have := g.units; omega⟩
theorem Good.in1 {n : Nat} {A : Around} (g : Good (n + 1) A) : Good n A.in1 := ⟨g.handled, by have := g.depth; show A.depth + n ≤ 900; omega, by have := g.units; show A.units + 1 + 40 * n ≤ 9000; omega⟩
theorem Good.deeper {n : Nat} {A : Around} {env : Env} (g : Good (n + 1) A) : Good n (A.deeper env) := ⟨g.handled, by have := g.depth; show A.depth + 1 + n ≤ 900; omega, by have := g.units; show A.units + 3 + 40 * n ≤ 9000; omega⟩
theorem Good.line {n : Nat} {A : Around} (g : Good n A) : A.units + 70 < cLine := by have := g.units; show A.units + 70 < 9900; omega
theorem Good.room {n : Nat} {A : Around} (g : Good n A) : A.depth < recursionLimit := by have := g.depth; show A.depth < 1000; omega

structure Ok (C : Cx) : Prop where
  good : Good 1 C.A
  kind : C.env.scope.kind = .function
  glob : C.env.globals = mainGlobals
  bui : C.env.builtins = builtinsNs

/-- the state at hand: the text's part of the heap stands, the barred addresses are in use, the names hold their data -/
structure Pre (C : Cx) (ρ : List (Str × PyData)) (s : Shared) : Prop where
  ok : Ok C
  base : Kp C.hB s.heap
  liv : ∀ a ∈ C.X, ∃ o, s.heap.get? a = some o
  vars : Vars C.X C.env s.heap ρ
theorem Pre.keep {C : Cx} {ρ : List (Str × PyData)} {s s' : Shared} (p : Pre C ρ s) (k : Keeps s s') : Pre C ρ s' :=
  ⟨p.ok, p.base.trans (kpH k), fun a m => let ⟨o, e⟩ := p.liv a m; ⟨o, (kpH k) a o e⟩, p.vars.keep (kpH k)⟩
theorem Pre.new {C : Cx} {ρ : List (Str × PyData)} {s : Shared} (p : Pre C ρ s) {b : Addr} (h : s.heap.objs.size ≤ b) : b ∉ C.X := fun m => by
  obtain ⟨o, e⟩ := p.liv b m
  have := Heap.lt_size e
  exact absurd this (Nat.not_lt.mpr h)

noncomputable def Ev (C : Cx) (ρ : List (Str × PyData)) (e : Expr) (d : PyData) : Prop :=
  ∀ (s : Shared) (E : Value → Shared → Prop), Pre C ρ s → wpAny (model C.prog C.w) C.A (eval e C.env) (fun v s' => Keeps s s' ∧ Is C.X s'.heap v d) E s
noncomputable def Tr (C : Cx) (ρ : List (Str × PyData)) (e : Expr) (b : Bool) : Prop :=
  ∀ (s : Shared) (E : Value → Shared → Prop), Pre C ρ s → wpAny (model C.prog C.w) C.A (isTrue e C.env (eval e C.env)) (fun r s' => r = b ∧ Keeps s s') E s
noncomputable def Evs (C : Cx) (ρ : List (Str × PyData)) (es : List Expr) (ds : List PyData) : Prop :=
  ∀ (pos : Pos) (s : Shared) (E : Value → Shared → Prop), Pre C ρ s → wpAny (model C.prog C.w) C.A (spliced (backTo pos (starEach es C.env))) (fun vs s' => Keeps s s' ∧ IsAll C.X s'.heap vs ds) E s

section
variable {C : Cx} {ρ : List (Str × PyData)}

theorem ev_name {x : Str} {d : PyData} {pos : Pos} (h : ρ.lookup x = some d) (hd : (x == ("__debug__" : Str)) = false := by decide) : Ev C ρ (.Name x pos) d := by
  intro s E P
  obtain ⟨v, p, q⟩ := P.vars x d h
  refine wpAny_Name ?_ hd
  rcases p with ⟨p, m, n, r⟩ | ⟨p, c, n, r⟩
  · exact wpAny_loadName_local P.ok.kind p n r ⟨keeps_refl s, q⟩
  · exact wpAny_loadName_cell P.ok.kind p n r ⟨keeps_refl s, q⟩
theorem ev_int {i : Int} {k : Nat} {pos : Pos} : Ev C ρ (.Constant (.int i) k pos) (.int i) := fun s _ _ => wpAny_Constant_int ⟨keeps_toks s _, .int _ _⟩
theorem ev_str {x : Str} {k : Nat} {pos : Pos} : Ev C ρ (.Constant (.str x) k pos) (.str x) := fun s _ _ => wpAny_Constant_str ⟨keeps_toks s _, .str _ _⟩
theorem ev_bool {b : Bool} {k : Nat} {pos : Pos} : Ev C ρ (.Constant (.bool b) k pos) (.bool b) := fun s _ _ => wpAny_Constant_bool ⟨keeps_refl s, .bool _⟩
theorem ev_none {k : Nat} {pos : Pos} : Ev C ρ (.Constant .none k pos) .none := fun s _ _ => wpAny_Constant_none ⟨keeps_refl s, .none⟩

theorem evs_nil : Evs C ρ [] [] := fun _ s _ _ => args_nil ⟨keeps_refl s, .nil⟩
theorem evs_cons {e : Expr} {es : List Expr} {d : PyData} {ds : List PyData} (h : Ev C ρ e d) (k : Evs C ρ es ds) (hs : starEach (e :: es) C.env = (false, eval e C.env) :: starEach es C.env := by rfl) : Evs C ρ (e :: es) (d :: ds) := by
  intro pos s E P
  refine args_cons (wpAny_mono (h s E P) (fun v s₁ h₁ => ?_) fun _ _ e => e) hs
  refine wpAny_mono (k pos s₁ E (P.keep h₁.1)) (fun vs s₂ h₂ => ?_) fun _ _ e => e
  exact ⟨keeps_trans h₁.1 h₂.1, .cons (h₁.2.up (Up.keep (kpH h₂.1))) h₂.2⟩

theorem ev_tuple {es : List Expr} {ds : List PyData} {k : Nat} {pos : Pos} (h : Evs C ρ es ds) (hz : ds.length ≤ 1000 := by exact Nat.le_of_ble_eq_true rfl) : Ev C ρ (.Tuple es k pos) (.tuple ds) := by
  intro s E P
  refine Tuple_ (wpAny_mono (h pos s E P) (fun vs s₁ h₁ => ?_) fun _ _ e => e)
  refine wpAny_newTuple (hsz := by rw [h₁.2.length, sizeLine_eq]; omega) ⟨keeps_trans h₁.1 (keeps_push s₁ _ _), ?_⟩
  exact .tuple ((P.keep h₁.1).new (Nat.le_refl _)) ⟨_, Heap.get?_push_size _ rfl, rfl, _, rfl⟩ (h₁.2.up (Up.keep fun _ _ e => Heap.get?_push_of_some _ e))
theorem ev_list {es : List Expr} {ds : List PyData} {pos : Pos} (h : Evs C ρ es ds) (hz : ds.length ≤ 1000 := by exact Nat.le_of_ble_eq_true rfl) : Ev C ρ (.List es pos) (.list ds) := by
  intro s E P
  refine List_ (wpAny_mono (h pos s E P) (fun vs s₁ h₁ => ?_) fun _ _ e => e)
  refine wpAny_newList (hsz := by rw [h₁.2.length, sizeLine_eq]; omega) ⟨keeps_trans h₁.1 (keeps_push s₁ _ _), ?_⟩
  exact .list ((P.keep h₁.1).new (Nat.le_refl _)) ⟨_, Heap.get?_push_size _ rfl, rfl, _, rfl⟩ (h₁.2.up (Up.keep fun _ _ e => Heap.get?_push_of_some _ e))

/-- two operands, then a step on their values -/
theorem ev_bin {a b : Expr} {da db d : PyData} {op : Operator} {pos : Pos} (ha : Ev C ρ a da) (hb : Ev C ρ b db)
    (h : ∀ (s : Shared) (E : Value → Shared → Prop) (u v : Value), Pre C ρ s → Is C.X s.heap u da → Is C.X s.heap v db → wpAny (model C.prog C.w) C.A (binaryOp op u v) (fun r s' => Keeps s s' ∧ Is C.X s'.heap r d) E s) :
    Ev C ρ (.BinOp a op b pos) d := by
  intro s E P
  refine wpAny_BinOp (wpAny_mono (ha s E P) (fun u s₁ h₁ => wpAny_mono (hb s₁ E (P.keep h₁.1)) (fun v s₂ h₂ => ?_) fun _ _ e => e) fun _ _ e => e)
  have k := keeps_trans h₁.1 h₂.1
  exact wpAny_mono (h s₂ E u v (P.keep k) (h₁.2.up (Up.keep (kpH h₂.1))) h₂.2) (fun r s₃ h₃ => ⟨keeps_trans k h₃.1, h₃.2⟩) fun _ _ e => e
theorem ev_add {a b : Expr} {i j : Int} {pos : Pos} (ha : Ev C ρ a (.int i)) (hb : Ev C ρ b (.int j)) : Ev C ρ (.BinOp a .Add b pos) (.int (i + j)) :=
  ev_bin ha hb fun s _ _ _ _ (.int _ _) (.int _ _) => wpAny_add_int ⟨keeps_toks s _, .int _ _⟩
theorem ev_sub {a b : Expr} {i j : Int} {pos : Pos} (ha : Ev C ρ a (.int i)) (hb : Ev C ρ b (.int j)) : Ev C ρ (.BinOp a .Sub b pos) (.int (i - j)) :=
  ev_bin ha hb fun s _ _ _ _ (.int _ _) (.int _ _) => PyProof.Rows.sub_int ⟨keeps_toks s _, .int _ _⟩
theorem ev_mul {a b : Expr} {i j : Int} {pos : Pos} (ha : Ev C ρ a (.int i)) (hb : Ev C ρ b (.int j)) (hm : Builtin.Int.intBits j ≤ 64) : Ev C ρ (.BinOp a .Mult b pos) (.int (i * j)) :=
  ev_bin ha hb fun s _ _ _ _ (.int _ _) (.int _ _) => PyProof.Rows.mul_int ⟨keeps_toks s _, .int _ _⟩ (by
    have h' : ¬ (Builtin.Int.intBits j > shortFactorBits) := Nat.not_lt.mpr hm
    unfold IntMulOk; rw [decide_eq_false h']; simp)
theorem ev_mod {a b : Expr} {i j : Int} {pos : Pos} (ha : Ev C ρ a (.int i)) (hb : Ev C ρ b (.int j)) (hj : j ≠ 0) : Ev C ρ (.BinOp a .Mod b pos) (.int (i.fmod j)) :=
  ev_bin ha hb fun s _ _ _ _ (.int _ _) (.int _ _) => PyProof.Rows.mod_int' hj ⟨keeps_toks s _, .int _ _⟩
theorem ev_div {a b : Expr} {i j : Int} {pos : Pos} (ha : Ev C ρ a (.int i)) (hb : Ev C ρ b (.int j)) (hj : j ≠ 0) (hp : Builtin.divisionGoesByPylong i j = false) : Ev C ρ (.BinOp a .FloorDiv b pos) (.int (i.fdiv j)) :=
  ev_bin ha hb fun s _ _ _ _ (.int _ _) (.int _ _) => PyProof.Rows.floordiv_int hj ⟨keeps_toks s _, .int _ _⟩ (.inl hp)
theorem ev_pow {a b : Expr} {i n : Int} {pos : Pos} (ha : Ev C ρ a (.int i)) (hb : Ev C ρ b (.int n)) (hn : 0 ≤ n) (hsz : (Builtin.Int.intBits i : Int) * n ≤ 2 ^ 27) : Ev C ρ (.BinOp a .Pow b pos) (.int (i ^ n.toNat)) :=
  ev_bin ha hb fun s _ _ _ _ (.int _ _) (.int _ _) => PyProof.Rows.pow_int hn hsz ⟨keeps_toks s _, .int _ _⟩
theorem ev_cat {a b : Expr} {xs ys : List PyData} {pos : Pos} (ha : Ev C ρ a (.list xs)) (hb : Ev C ρ b (.list ys)) (hz : xs.length + ys.length ≤ 100000) : Ev C ρ (.BinOp a .Add b pos) (.list (xs ++ ys)) := by
  refine ev_bin ha hb fun s E u v P hu hv => ?_
  cases hu with
  | @list a₁ vs _ n₁ l₁ r₁ =>
    cases hv with
    | @list a₂ ws _ n₂ l₂ r₂ =>
      obtain ⟨⟨cls, dd, data, sl⟩, ho, hc, n, hd⟩ := id l₁
      obtain ⟨⟨cls2, dd2, data2, sl2⟩, ho2, hc2, n2, hd2⟩ := id l₂
      simp only at hc hd hc2 hd2
      subst hc hd hc2 hd2
      have e : vs.toArray ++ ws.toArray = (vs ++ ws).toArray := by simp
      refine concat_meets ⟨_, ho, rfl⟩ ⟨_, ho2, rfl⟩ noFill_list_add seq_list_add PySem.F.slot_list_add PySem.F.entry_list_add (PySem.F.args_list_add_2 _ _) (list_addW a₁ a₂ vs.toArray ws.toArray n n2 dd dd2 sl sl2 (by simp only [List.size_toArray]; rw [r₁.length, r₂.length, sizeLine_eq]; omega)) ⟨ho, ho2, ?_⟩
      rw [e]
      refine ⟨keeps_push s _ _, .list (P.new (Nat.le_refl _)) ⟨_, Heap.get?_push_size _ rfl, rfl, _, rfl⟩ ?_⟩
      exact (r₁.append r₂).up (Up.keep fun _ _ e => Heap.get?_push_of_some _ e)

theorem ev_neg {a : Expr} {i : Int} {pos : Pos} (ha : Ev C ρ a (.int i)) : Ev C ρ (.UnaryOp .USub a pos) (.int (-i)) := by
  intro s E P
  refine wpAny_UnaryOp (wpAny_mono (ha s E P) (fun u s₁ h₁ => ?_) fun _ _ e => e)
  obtain ⟨k, q⟩ := h₁
  cases q
  exact PyProof.Rows.neg_int ⟨keeps_trans k (keeps_toks s₁ _), .int _ _⟩

/-! comparisons -/
noncomputable def Cmp (C : Cx) (ρ : List (Str × PyData)) (op : CmpOp) (da db : PyData) (r : Bool) : Prop :=
  ∀ (s : Shared) (E : Value → Shared → Prop) (u v : Value), Pre C ρ s → Is C.X s.heap u da → Is C.X s.heap v db → wpAny (model C.prog C.w) C.A (compareOp op u v) (fun c s' => c = .bool r ∧ Keeps s s') E s
theorem cmp_eq {da db : PyData} (ha : SeqAt.shaped da = true) (hb : SeqAt.shaped db = true) : Cmp C ρ .Eq da db (PyData.eqv da db) := by
  intro s E u v P hu hv
  obtain ⟨as, ra⟩ := hu.reads
  obtain ⟨bs, rb⟩ := hv.reads
  exact eq_dataH ra rb ha hb (by have := P.ok.good.line; omega) ⟨rfl, keeps_refl s⟩
theorem cmp_ne {da db : PyData} (ha : SeqAt.shaped da = true) (hb : SeqAt.shaped db = true) : Cmp C ρ .NotEq da db (!PyData.eqv da db) := by
  intro s E u v P hu hv
  obtain ⟨as, ra⟩ := hu.reads
  obtain ⟨bs, rb⟩ := hv.reads
  exact ne_dataH ra rb ha hb (by have := P.ok.good.line; omega) ⟨rfl, keeps_refl s⟩
theorem cmp_lt {i j : Int} : Cmp C ρ .Lt (.int i) (.int j) (decide (i < j)) := fun s _ _ _ _ (.int _ _) (.int _ _) => wpAny_lt_int ⟨rfl, keeps_refl s⟩
theorem cmp_ge {i j : Int} : Cmp C ρ .GtE (.int i) (.int j) (decide (i ≥ j)) := fun s _ _ _ _ (.int i t) (.int j u) => PySem.P.ge_int (a := i) (b := j) (t := t) (u := u) (h := ⟨rfl, keeps_refl s⟩)

theorem ev_cmp {a b : Expr} {da db : PyData} {op : CmpOp} {r : Bool} {pos : Pos} (ha : Ev C ρ a da) (hb : Ev C ρ b db) (h : Cmp C ρ op da db r) (hm : behindInMarks op b = false := by with_unfolding_all rfl) : Ev C ρ (.Compare a [op] [b] pos) (.bool r) := by
  intro s E P
  refine wpAny_Compare1 (wpAny_mono (ha s E P) (fun u s₁ h₁ => wpAny_mono (hb s₁ E (P.keep h₁.1)) (fun v s₂ h₂ => ?_) fun _ _ e => e) fun _ _ e => e) hm
  have k := keeps_trans h₁.1 h₂.1
  refine wpAny_mono (h s₂ E u v (P.keep k) (h₁.2.up (Up.keep (kpH h₂.1))) h₂.2) (fun c s₃ h₃ => ?_) fun _ _ e => e
  obtain ⟨rfl, k3⟩ := h₃
  exact ⟨keeps_trans k k3, .bool _⟩
theorem tr_cmp {a b : Expr} {da db : PyData} {op : CmpOp} {r : Bool} {pos : Pos} (ha : Ev C ρ a da) (hb : Ev C ρ b db) (h : Cmp C ρ op da db r) (hm : behindInMarks op b = false := by with_unfolding_all rfl) : Tr C ρ (.Compare a [op] [b] pos) r := by
  intro s E P
  refine wpAny_isTrue_Compare1 (wpAny_mono (ha s E P) (fun u s₁ h₁ => wpAny_mono (hb s₁ E (P.keep h₁.1)) (fun v s₂ h₂ => ?_) fun _ _ e => e) fun _ _ e => e) hm
  have k := keeps_trans h₁.1 h₂.1
  refine wpAny_mono (h s₂ E u v (P.keep k) (h₁.2.up (Up.keep (kpH h₂.1))) h₂.2) (fun c s₃ h₃ => ?_) fun _ _ e => e
  obtain ⟨rfl, k3⟩ := h₃
  exact wpAny_truthy_bool ⟨rfl, keeps_trans k k3⟩

/-! truth -/
theorem tr_val {e : Expr} {b : Bool} (h : Ev C ρ e (.bool b)) (he : ∀ env whole, isTrue e env whole = (do let v ← whole; standAt e.pos; holding [v] (truthy v)) := by intro _ _; rfl) : Tr C ρ e b := by
  intro s E P
  refine wpAny_isTrue_value (wpAny_mono (h s E P) (fun v s₁ h₁ => ?_) fun _ _ e => e) (he _ _)
  obtain ⟨k, q⟩ := h₁
  cases q
  exact wpAny_truthy_bool ⟨rfl, k⟩
theorem tr_not {e : Expr} {b : Bool} {pos : Pos} (h : Tr C ρ e b) : Tr C ρ (.UnaryOp .Not e pos) (!b) := by
  intro s E P
  refine wpAny_isTrue_Not (wpAny_mono (h s E P) (fun r s₁ h₁ => ?_) fun _ _ e => e)
  obtain ⟨rfl, k⟩ := h₁
  exact ⟨rfl, k⟩
theorem tr_or {a b : Expr} {x y : Bool} {pos : Pos} (ha : Tr C ρ a x) (hb : x = false → Tr C ρ b y) : Tr C ρ (.BoolOp .Or [a, b] pos) (x || y) := by
  intro s E P
  refine wpAny_isTrue_BoolOp (wpAny_allTrue_Or_cons (wpAny_mono (ha s E P) (fun r s₁ h₁ => ?_) fun _ _ e => e))
  obtain ⟨rfl, k⟩ := h₁
  cases r with
  | true => exact ⟨rfl, k⟩
  | false =>
    simp only [Bool.false_eq_true, if_false]
    refine wpAny_allTrue_Or_cons (wpAny_mono (hb rfl s₁ E (P.keep k)) (fun r s₂ h₂ => ?_) fun _ _ e => e)
    obtain ⟨rfl, k2⟩ := h₂
    cases r with
    | true => exact ⟨rfl, keeps_trans k k2⟩
    | false => simp only [Bool.false_eq_true, if_false]; exact wpAny_allTrue_Or_nil ⟨rfl, keeps_trans k k2⟩
theorem tr_and {a b : Expr} {x y : Bool} {pos : Pos} (ha : Tr C ρ a x) (hb : x = true → Tr C ρ b y) : Tr C ρ (.BoolOp .And [a, b] pos) (x && y) := by
  intro s E P
  refine wpAny_isTrue_BoolOp (wpAny_allTrue_And_cons (wpAny_mono (ha s E P) (fun r s₁ h₁ => ?_) fun _ _ e => e))
  obtain ⟨rfl, k⟩ := h₁
  cases r with
  | false => exact ⟨rfl, k⟩
  | true =>
    simp only [if_true]
    refine wpAny_allTrue_And_cons (wpAny_mono (hb rfl s₁ E (P.keep k)) (fun r s₂ h₂ => ?_) fun _ _ e => e)
    obtain ⟨rfl, k2⟩ := h₂
    cases r with
    | false => exact ⟨rfl, keeps_trans k k2⟩
    | true => simp only [if_true]; exact wpAny_allTrue_And_nil ⟨rfl, keeps_trans k k2⟩
theorem ev_if {t a b : Expr} {x : Bool} {d : PyData} {pos : Pos} (ht : Tr C ρ t x) (ha : x = true → Ev C ρ a d) (hb : x = false → Ev C ρ b d) : Ev C ρ (.IfExp t a b pos) d := by
  intro s E P
  refine wpAny_IfExp (wpAny_mono (ht s E P) (fun r s₁ h₁ => ?_) fun _ _ e => e)
  obtain ⟨rfl, k⟩ := h₁
  cases r with
  | true => simp only [if_true]; exact wpAny_mono (ha rfl s₁ E (P.keep k)) (fun v s₂ h₂ => ⟨keeps_trans k h₂.1, h₂.2⟩) fun _ _ e => e
  | false => simp only [Bool.false_eq_true, if_false]; exact wpAny_mono (hb rfl s₁ E (P.keep k)) (fun v s₂ h₂ => ⟨keeps_trans k h₂.1, h₂.2⟩) fun _ _ e => e

/-! items and parts -/
theorem ev_item {a b : Expr} {xs : List PyData} {i : Int} {d : PyData} {pos : Pos} (ha : Ev C ρ a (.list xs)) (hb : Ev C ρ b (.int i)) (h0 : 0 ≤ i) (hi : i < 2 ^ 60) (hx : xs[i.toNat]? = some d)
    (hs : ∀ o v, subscripted b false o v = operate [o, v] (getItem o v) := by intro _ _; with_unfolding_all rfl) : Ev C ρ (.Subscript a b pos) d := by
  intro s E P
  refine Subscript_ (wpAny_mono (ha s E P) (fun u s₁ h₁ => wpAny_mono (hb s₁ E (P.keep h₁.1)) (fun v s₂ h₂ => ?_) fun _ _ e => e) fun _ _ e => e)
  have k := keeps_trans h₁.1 h₂.1
  obtain ⟨k1, q1⟩ := h₁
  obtain ⟨k2, q2⟩ := h₂
  have q1 := q1.up (Up.keep (kpH k2))
  cases q1 with
  | list n l r =>
    cases q2
    obtain ⟨v, e, q⟩ := r.get hx
    exact tail_any l.typeIs slot_list_getitem.lookup (wpAny_getItem_list l h0 (by omega) (by simpa using e) ⟨k, q⟩) (hs _ _)
theorem ev_tupItem {a b : Expr} {xs : List PyData} {i : Int} {d : PyData} {pos : Pos} (ha : Ev C ρ a (.tuple xs)) (hb : Ev C ρ b (.int i)) (h0 : 0 ≤ i) (hi : i < 2 ^ 60) (hx : xs[i.toNat]? = some d)
    (hs : ∀ o v, subscripted b false o v = operate [o, v] (getItem o v) := by intro _ _; with_unfolding_all rfl) : Ev C ρ (.Subscript a b pos) d := by
  intro s E P
  refine Subscript_ (wpAny_mono (ha s E P) (fun u s₁ h₁ => wpAny_mono (hb s₁ E (P.keep h₁.1)) (fun v s₂ h₂ => ?_) fun _ _ e => e) fun _ _ e => e)
  have k := keeps_trans h₁.1 h₂.1
  obtain ⟨k1, q1⟩ := h₁
  obtain ⟨k2, q2⟩ := h₂
  have q1 := q1.up (Up.keep (kpH k2))
  cases q1 with
  | @tuple _ vs _ n l r =>
    cases q2
    obtain ⟨v, e, q⟩ := r.get hx
    have hlt : i.toNat < vs.length := (List.getElem?_eq_some_iff.mp e).1
    have hj : seqIndex? i vs.length = some i.toNat := by
      unfold seqIndex?
      have a1 : ¬ (i < 0) := by omega
      simp only [a1, if_false]
      first
        | (rw [if_pos (by omega)])
        | (rw [if_neg (by omega)])
        | simp; omega
    exact tail_any l.typeIs slot_tuple_getitem.lookup (getItem_tuple l (by omega) (by omega) (by simpa using hj) (by simpa using e) ⟨k, q⟩) (hs _ _)
end
end Mine
end

section
set_option maxRecDepth 100000
namespace Mine
section
variable {C : Cx} {ρ : List (Str × PyData)}

/-! cuts of a list -/
theorem keeps_push2 (s : Shared) (o o' : Obj) : Keeps s { s with heap := (s.heap.push o).push o' } := ⟨_, s.toks, rfl, fun _ _ e => Heap.get?_push_of_some _ (Heap.get?_push_of_some _ e)⟩
theorem part_none {Q : Value → Shared → Prop} {M : Model} {A : Around} {E : Value → Shared → Prop} {s : Shared} {env : Env} (h : Q .none s) : wpAny M A (evalPart none env) Q E s := by
  rw [evalPart_none]; exact wpAny_pure h
theorem ev_cutTo {x : Str} {px : Pos} {u : Expr} {xs : List PyData} {k : Nat} {p pos : Pos} (ha : Ev C ρ (.Name x px) (.list xs)) (hu : Ev C ρ u (.int k)) (hz : xs.length ≤ 100000) :
    Ev C ρ (.Subscript (.Name x px) (.Slice none (some u) none p) pos) (.list (xs.take k)) := by
  intro s E P
  refine wpAny_Subscript_list_slice (wpAny_mono (ha s E P) (fun o s₁ h₁ => part_none (wpAny_evalPart_some (wpAny_mono (hu s₁ E (P.keep h₁.1)) (fun v s₂ h₂ => ?_) fun _ _ e => e))) fun _ _ e => e)
  obtain ⟨k1, q1⟩ := h₁
  obtain ⟨k2, q2⟩ := h₂
  have q1 := q1.up (Up.keep (kpH k2))
  cases q1 with
  | @list a vs _ n l r =>
    cases q2
    refine ⟨a, _, none, some (k : Int), rfl, l, by rw [List.size_toArray, r.length, sizeLine_eq]; omega, .none, .int _ _, ?_⟩
    rw [slicePick_upto']
    refine ⟨keeps_trans (keeps_trans k1 k2) (keeps_push2 s₂ _ _), .list ((P.keep (keeps_trans k1 k2)).new (Nat.le_succ _)) ⟨_, by rw [← Heap.size_push]; exact Heap.get?_push_size _ rfl, rfl, _, rfl⟩ ?_⟩
    exact (r.take k).up (Up.keep fun _ _ e => Heap.get?_push_of_some _ (Heap.get?_push_of_some _ e))
theorem ev_cutFrom {x : Str} {px : Pos} {u : Expr} {xs : List PyData} {k : Nat} {p pos : Pos} (ha : Ev C ρ (.Name x px) (.list xs)) (hu : Ev C ρ u (.int k)) (hz : xs.length ≤ 100000) :
    Ev C ρ (.Subscript (.Name x px) (.Slice (some u) none none p) pos) (.list (xs.drop k)) := by
  intro s E P
  refine wpAny_Subscript_list_slice (wpAny_mono (ha s E P) (fun o s₁ h₁ => wpAny_evalPart_some (wpAny_mono (hu s₁ E (P.keep h₁.1)) (fun v s₂ h₂ => part_none ?_) fun _ _ e => e)) fun _ _ e => e)
  obtain ⟨k1, q1⟩ := h₁
  obtain ⟨k2, q2⟩ := h₂
  have q1 := q1.up (Up.keep (kpH k2))
  cases q1 with
  | @list a vs _ n l r =>
    cases q2
    refine ⟨a, _, some (k : Int), none, rfl, l, by rw [List.size_toArray, r.length, sizeLine_eq]; omega, .int _ _, .none, ?_⟩
    rw [slicePick_from']
    refine ⟨keeps_trans (keeps_trans k1 k2) (keeps_push2 s₂ _ _), .list ((P.keep (keeps_trans k1 k2)).new (Nat.le_succ _)) ⟨_, by rw [← Heap.size_push]; exact Heap.get?_push_size _ rfl, rfl, _, rfl⟩ ?_⟩
    exact (r.drop k).up (Up.keep fun _ _ e => Heap.get?_push_of_some _ (Heap.get?_push_of_some _ e))
theorem ev_cutLast {x : Str} {px : Pos} {u : Expr} {xs : List PyData} {p pos : Pos} (ha : Ev C ρ (.Name x px) (.list xs)) (hu : Ev C ρ u (.int (-1))) (hz : xs.length ≤ 100000) :
    Ev C ρ (.Subscript (.Name x px) (.Slice none (some u) none p) pos) (.list (xs.take (xs.length - 1))) := by
  intro s E P
  refine wpAny_Subscript_list_slice (wpAny_mono (ha s E P) (fun o s₁ h₁ => part_none (wpAny_evalPart_some (wpAny_mono (hu s₁ E (P.keep h₁.1)) (fun v s₂ h₂ => ?_) fun _ _ e => e))) fun _ _ e => e)
  obtain ⟨k1, q1⟩ := h₁
  obtain ⟨k2, q2⟩ := h₂
  have q1 := q1.up (Up.keep (kpH k2))
  cases q1 with
  | @list a vs _ n l r =>
    cases q2
    refine ⟨a, _, none, some (-((1 : Nat) : Int)), rfl, l, by rw [List.size_toArray, r.length, sizeLine_eq]; omega, .none, .int _ _, ?_⟩
    rw [slicePick_butLast _ 1 (Nat.le_refl _)]
    have e : vs.toArray.size = xs.length := by rw [List.size_toArray, r.length]
    rw [e]
    refine ⟨keeps_trans (keeps_trans k1 k2) (keeps_push2 s₂ _ _), .list ((P.keep (keeps_trans k1 k2)).new (Nat.le_succ _)) ⟨_, by rw [← Heap.size_push]; exact Heap.get?_push_size _ rfl, rfl, _, rfl⟩ ?_⟩
    exact (r.take (xs.length - 1)).up (Up.keep fun _ _ e => Heap.get?_push_of_some _ (Heap.get?_push_of_some _ e))
theorem ev_rev {x : Str} {px : Pos} {u : Expr} {xs : List PyData} {p pos : Pos} (ha : Ev C ρ (.Name x px) (.list xs)) (hu : Ev C ρ u (.int (-1))) (hz : xs.length ≤ 100000) :
    Ev C ρ (.Subscript (.Name x px) (.Slice none none (some u) p) pos) (.list xs.reverse) := by
  intro s E P
  refine wpAny_Subscript_Slice_step (T := "list") list_getitem_lookup (wpAny_mono (ha s E P) (fun o s₁ h₁ => ?_) fun _ _ e => e)
  refine wpAny_Slice (part_none (part_none (wpAny_evalPart_some (wpAny_mono (hu s₁ E (P.keep h₁.1)) (fun v s₂ h₂ => ?_) fun _ _ e => e))))
  obtain ⟨k1, q1⟩ := h₁
  obtain ⟨k2, q2⟩ := h₂
  have q1 := q1.up (Up.keep (kpH k2))
  cases q1 with
  | @list a vs _ n l r =>
    cases q2
    refine ⟨(l.push _).typeIs, ?_⟩
    refine wpAny_getItem_list_slice (l.push _) (Heap.IsSliceOf.new ..) .none .none (.int _ _) (by decide) ?_ (by rw [List.size_toArray, r.length, sizeLine_eq]; omega)
    rw [krv_pick]
    refine ⟨keeps_trans (keeps_trans k1 k2) (keeps_push2 s₂ _ _), .list ((P.keep (keeps_trans k1 k2)).new (by rw [Heap.size_push]; exact Nat.le_succ _)) ⟨_, Heap.get?_push_size _ rfl, rfl, _, rfl⟩ ?_⟩
    exact r.reverse.up (Up.keep fun _ _ e => Heap.get?_push_of_some _ (Heap.get?_push_of_some _ e))

/-! in -/
theorem cmp_inList {x : Str} {ys : List Str} : Cmp C ρ .In (.str x) (.list (ys.map .str)) (ys.any (· == x)) := fun s _ _ _ _ (.str _ _) (.list _ l r) => in_list_strs l r.strs ⟨rfl, keeps_refl s⟩
theorem cmp_inTup {x : Str} {ys : List Str} : Cmp C ρ .In (.str x) (.tuple (ys.map .str)) (ys.any (· == x)) := fun s _ _ _ _ (.str _ _) (.tuple _ l r) => in_tuple_strs l (by simpa using r.strs) ⟨rfl, keeps_refl s⟩
theorem cmp_eqStr {x y : Str} : Cmp C ρ .Eq (.str x) (.str y) (x == y) := fun s _ _ _ _ (.str _ _) (.str _ _) => PyProof.Rows.eq_str ⟨rfl, keeps_refl s⟩
theorem cmp_leStr {x y : Str} : Cmp C ρ .LtE (.str x) (.str y) (!(y.cps.toList < x.cps.toList)) := fun s _ _ _ _ (.str _ _) (.str _ _) => PySem.P.le_str ⟨rfl, keeps_refl s⟩

/-- a chain of two -/
theorem tr_chain {a b c : Expr} {da db dc : PyData} {op op' : CmpOp} {x y : Bool} {pos : Pos} (ha : Ev C ρ a da) (hb : Ev C ρ b db) (hc : Ev C ρ c dc) (h1 : Cmp C ρ op da db x) (h2 : Cmp C ρ op' db dc y)
    (hm : lastMarks [op, op'] [b, c] = false := by with_unfolding_all rfl) : Tr C ρ (.Compare a [op, op'] [b, c] pos) (x && y) := by
  intro s E P
  refine isTrue_chain (wpAny_mono (ha s E P) (fun u s₁ h₁ => ?_) fun _ _ e => e) hm
  refine test_link (wpAny_mono (hb s₁ E (P.keep h₁.1)) (fun v s₂ h₂ => ?_) fun _ _ e => e)
  have k := keeps_trans h₁.1 h₂.1
  refine wpAny_mono (h1 s₂ E u v (P.keep k) (h₁.2.up (Up.keep (kpH h₂.1))) h₂.2) (fun r s₃ h₃ => ?_) fun _ _ e => e
  obtain ⟨rfl, k3⟩ := h₃
  refine wpAny_truthy_bool ?_
  cases x with
  | false => exact ⟨rfl, keeps_trans k k3⟩
  | true =>
    simp only [if_true, Bool.true_and]
    have k' := keeps_trans k k3
    refine test_last (wpAny_mono (hc s₃ E (P.keep k')) (fun w s₄ h₄ => ?_) fun _ _ e => e)
    have k4 := keeps_trans k' h₄.1
    refine wpAny_mono (h2 s₄ E v w (P.keep k4) ((h₂.2.up (Up.keep (kpH k3))).up (Up.keep (kpH h₄.1))) h₄.2) (fun r s₅ h₅ => ?_) fun _ _ e => e
    obtain ⟨rfl, k5⟩ := h₅
    exact wpAny_truthy_bool ⟨rfl, keeps_trans k4 k5⟩

/-! global names -/
noncomputable def Gl (h : Heap) (x : Str) (v : Value) : Prop := ∃ mg, h.Ns mainGlobals mg ∧ (mg x = some v ∨ mg x = none ∧ ∃ mb, h.Ns builtinsNs mb ∧ mb x = some v)
theorem gl_name {x : Str} {v : Value} {pos : Pos} {s : Shared} {E : Value → Shared → Prop} {Q : Value → Shared → Prop} (P : Pre C ρ s) (g : Gl C.hB x v) (hx : C.env.kindOf x = some .globalImplicit) (h : Q v s)
    (hd : (x == ("__debug__" : Str)) = false := by decide) : wpAny (model C.prog C.w) C.A (eval (.Name x pos) C.env) Q E s := by
  obtain ⟨mg, n, g⟩ := g
  refine Calls.Name_function_global P.ok.kind hx ?_ hd
  rcases g with g | ⟨g, mb, n', g'⟩
  · exact Calls.loadGlobal_global (by rw [P.ok.glob]; exact n.keeps P.base) g h
  · exact Calls.loadGlobal_builtin (by rw [P.ok.glob]; exact n.keeps P.base) g (by rw [P.ok.bui]; exact n'.keeps P.base) g' h
theorem ev_gname {x y : Str} {t : Tok} {pos : Pos} (g : Gl C.hB x (.str y t)) (hx : C.env.kindOf x = some .globalImplicit) (hd : (x == ("__debug__" : Str)) = false := by decide) : Ev C ρ (.Name x pos) (.str y) :=
  fun s _ P => gl_name P g hx ⟨keeps_refl s, .str _ _⟩ hd

/-- a built-in function's call on data -/
noncomputable def Bi (C : Cx) (ρ : List (Str × PyData)) (id : String) (ds : List PyData) (d : PyData) : Prop :=
  ∀ (s : Shared) (E : Value → Shared → Prop) (vs : List Value), Pre C ρ s → IsAll C.X s.heap vs ds → wpAny (model C.prog C.w) C.A (call (.builtin id) vs) (fun v s' => Keeps s s' ∧ Is C.X s'.heap v d) E s
theorem ev_bi {x : Str} {id : String} {e : Expr} {es : List Expr} {ds : List PyData} {d : PyData} {pos px : Pos} (g : Gl C.hB x (.builtin id)) (hx : C.env.kindOf x = some .globalImplicit) (h : Evs C ρ (e :: es) ds) (b : Bi C ρ id ds d)
    (hd : (x == ("__debug__" : Str)) = false := by decide) (hs : starEach (e :: es) C.env = (false, eval e C.env) :: starEach es C.env := by rfl) (hp : (backTo pos (starEach es C.env)).any (·.1) = false := by rfl) : Ev C ρ (.Call (.Name x px) (e :: es) [] pos) d := by
  intro s E P
  refine PyProof.Rows.Call_ (gl_name P g hx ?_ hd)
  refine PyProof.Rows.callWith_builtin1 (wpAny_mono (h pos s E P) (fun vs s₁ h₁ => ?_) fun _ _ e => e) hs hp
  exact wpAny_mono (b s₁ E vs (P.keep h₁.1) h₁.2) (fun v s₂ h₂ => ⟨keeps_trans h₁.1 h₂.1, h₂.2⟩) fun _ _ e => e
theorem bi_len {xs : List PyData} (hz : xs.length ≤ 100000) : Bi C ρ "len" [.list xs] (.int xs.length) := by
  intro s E vs P h
  cases h with
  | cons a r =>
    cases r
    cases a with
    | @list a vs _ n l r =>
      have e : vs.toArray.size = xs.length := by rw [List.size_toArray, r.length]
      refine PyProof.Rows.len_list l (by rw [e]; omega) ?_
      rw [e]
      exact ⟨keeps_toks s _, .int _ _⟩
theorem bi_abs {i : Int} : Bi C ρ "abs" [.int i] (.int (if i < 0 then -i else i)) := by
  intro s E vs P h
  cases h with
  | cons a r =>
    cases r
    cases a
    exact PyProof.Rows.call_abs_int fun u tk => ⟨keeps_toks s tk, .int _ _⟩
theorem bi_ord {c : Nat} : Bi C ρ "ord" [.str ⟨#[c]⟩] (.int c) := by
  intro s E vs P h
  cases h with
  | cons a r =>
    cases r
    cases a
    exact PySem.P.ord_of_char ⟨keeps_toks s _, .int _ _⟩
theorem bi_chr {i : Int} (h0 : 0 ≤ i) (h1 : i ≤ 1114111) : Bi C ρ "chr" [.int i] (.str ⟨#[i.toNat]⟩) := by
  intro s E vs P h
  cases h with
  | cons a r =>
    cases r
    cases a
    exact PyProof.Rows.chr_of_range h0 h1 ⟨keeps_toks s _, .str _ _⟩
theorem ev_toInt {x : Str} {e : Expr} {i : Int} {pos px : Pos} (g : Gl C.hB x (.type "int")) (hx : C.env.kindOf x = some .globalImplicit) (h : Ev C ρ e (.int i))
    (hd : (x == ("__debug__" : Str)) = false := by decide) (hs : starEach [e] C.env = (false, eval e C.env) :: starEach [] C.env := by rfl) : Ev C ρ (.Call (.Name x px) [e] [] pos) (.int i) := by
  intro s E P
  refine PyProof.Rows.Call_ (gl_name P g hx ?_ hd)
  refine PyProof.Rows.callWith_type1 (wpAny_mono (evs_cons h evs_nil hs pos s E P) (fun vs s₁ h₁ => ?_) fun _ _ e => e) hs
  obtain ⟨k, q⟩ := h₁
  cases q with
  | cons a r =>
    cases r
    cases a
    exact call_int_int ⟨k, .int _ _⟩

/-! methods of texts -/
theorem ev_upper {x : Str} {px : Pos} {y : Str} {apos pos : Pos} (h : Ev C ρ (.Name x px) (.str y)) (hz : y.length ≤ 1000) (hl : (apos.endLine == pos.line) = true := by rfl)
    (hb : attributeBase (.Name x px) "upper" C.env (eval (.Name x px) C.env) = eval (.Name x px) C.env := by rfl) : Ev C ρ (.Call (.Attribute (.Name x px) "upper" apos) [] [] pos) (.str (Txt.upper y)) := by
  intro s E P
  refine Call_method0 hb hl (wpAny_mono (h s E P) (fun v s₁ h₁ => ?_) fun _ _ e => e)
  obtain ⟨k, q⟩ := h₁
  cases q
  exact PyProof.Rows.SBL.upper (by omega) fun _ => ⟨keeps_trans k (keeps_toks s₁ _), .str _ _⟩

theorem strsAll {X : List Addr} {h : Heap} : ∀ l : List (Str × Tok), IsAll X h (strValues l) ((l.map (·.1)).map .str)
  | [] => .nil
  | (x, t) :: r => .cons (.str x t) (strsAll r)
theorem strVals {X : List Addr} {h : Heap} : ∀ {vs : List Value} {xs : List Str}, IsAll X h vs (xs.map .str) → ∃ l : List (Str × Tok), vs = strValues l ∧ l.map (·.1) = xs := by
  intro vs xs
  induction xs generalizing vs with
  | nil => intro q; exact ⟨[], IsAll.nil_inv q, rfl⟩
  | cons x xs ih =>
    intro q
    obtain ⟨v, r, rfl, a, b⟩ := IsAll.cons_inv q
    obtain ⟨t, rfl⟩ := a.str_inv
    obtain ⟨l, e1, e2⟩ := ih b
    exact ⟨(x, t) :: l, by rw [e1]; rfl, by rw [← e2]; rfl⟩
end
end Mine
end

section
set_option maxRecDepth 100000
namespace Mine

noncomputable def flat : PyData → Bool
  | .none => true
  | .bool _ => true
  | .int _ => true
  | .str _ => true
  | _ => false
/-- a value that stands for a datum in every heap -/
noncomputable def FlatIs (v : Value) (d : PyData) : Prop := ∀ X h, Is X h v d
theorem Is.flat {X : List Addr} {h : Heap} {v : Value} {d : PyData} (i : Is X h v d) (f : flat d = true) : FlatIs v d := by
  cases i with
  | none => exact fun _ _ => .none
  | bool b => exact fun _ _ => .bool b
  | int i t => exact fun _ _ => .int i t
  | str x t => exact fun _ _ => .str x t
  | tuple => cases f
  | list => cases f

section
variable {C : Cx} {ρ : List (Str × PyData)}

/-- a source of items, walked by one iterator -/
noncomputable def Src (C : Cx) (ρ : List (Str × PyData)) (iter : Expr) (xs : List PyData) : Prop :=
  ∀ (s : Shared) (E : Value → Shared → Prop), Pre C ρ s → wpAny (model C.prog C.w) C.A (eval iter C.env) (fun xv s₁ => wpAny (model C.prog C.w) C.A (pyIter xv) (fun it s₂ =>
    ∃ I fp wr P St, it = .ref I ∧ Walks C.prog C.w C.A I fp wr xs.length P St ∧ (∀ i v, P i v → ∃ d, xs[i]? = some d ∧ Is (wr ++ C.X) s₂.heap v d) ∧ St 0 s₂.heap ∧ (∀ b ∈ fp, b < s₂.heap.objs.size) ∧ (∀ b ∈ wr, s.heap.get? b = none) ∧ Keeps s s₂) E s₁) E s

theorem isFresh {X : List Addr} {h h' : Heap} {v : Value} {d : PyData} {W : List Addr} (i : Is X h v d) (k : Kp h h') (f : ∀ b ∈ W, h.get? b = none) : Is (W ++ X) h' v d :=
  i.up fun a o n e => ⟨fun m => (List.mem_append.mp m).elim (fun q => by rw [f a q] at e; cases e) n, k a o e⟩
theorem next_none (h : Heap) : h.get? h.objs.size = none := by
  cases q : h.get? h.objs.size with
  | none => rfl
  | some o => exact absurd (Heap.lt_size q) (Nat.lt_irrefl _)

theorem src_list {iter : Expr} {xs : List PyData} (h : Ev C ρ iter (.list xs)) : Src C ρ iter xs := by
  intro s E P
  refine wpAny_mono (h s E P) (fun v s₁ h₁ => ?_) fun _ _ e => e
  obtain ⟨k, q⟩ := h₁
  cases q with
  | @list a vs _ n l r =>
    refine wpAny_pyIter_list l ?_
    have hz : vs.toArray.size = xs.length := by rw [List.size_toArray, r.length]
    have hal : a < s₁.heap.objs.size := let ⟨_, e, _⟩ := l; Heap.lt_size e
    have W := Walks.list (prog := C.prog) (w := C.w) P.ok.good.handled s₁.heap.objs.size a (Nat.ne_of_lt hal) vs.toArray
    rw [hz] at W
    refine ⟨_, _, _, _, _, rfl, W, ?_, ⟨⟨_, Heap.get?_push_size _ rfl, rfl, rfl⟩, l.push _⟩, ?_, ?_, keeps_trans k (keeps_push s₁ _ _)⟩
    · intro i v e
      obtain ⟨d, e', q⟩ := r.getv (k := i) (v := v) (by simpa using e)
      refine ⟨d, e', isFresh q (fun _ _ e => Heap.get?_push_of_some _ e) fun b hb => ?_⟩
      rw [List.mem_singleton.mp hb]
      exact next_none _
    · intro b hb
      rw [Heap.size_push]
      rcases List.mem_cons.mp hb with rfl | hb
      · exact Nat.lt_succ_self _
      · rw [List.mem_singleton.mp hb]; exact Nat.lt_succ_of_lt hal
    · intro b hb
      rw [List.mem_singleton.mp hb]
      cases q : s.heap.get? s₁.heap.objs.size with
      | none => rfl
      | some o => exact absurd (Heap.lt_size ((kpH k) _ _ q)) (Nat.lt_irrefl _)

noncomputable def signs (x : Str) : List PyData := x.cps.toList.map fun c => .str ⟨#[c]⟩
theorem src_text {iter : Expr} {x : Str} (h : Ev C ρ iter (.str x)) : Src C ρ iter (signs x) := by
  intro s E P
  refine wpAny_mono (h s E P) (fun v s₁ h₁ => ?_) fun _ _ e => e
  obtain ⟨k, q⟩ := h₁
  cases q
  refine wpAny_pyIter_str fun o St W st => ?_
  have hz : x.cps.size = (signs x).length := by simp [signs]
  have W := W C.A P.ok.good.handled
  rw [hz] at W
  refine ⟨_, _, _, _, _, rfl, W, ?_, st, ?_, ?_, keeps_trans k (keeps_push s₁ _ _)⟩
  · rintro i v ⟨c, u, e, rfl⟩
    exact ⟨.str ⟨#[c]⟩, by simp [signs, e], .str _ _⟩
  · intro b hb
    rw [List.mem_singleton.mp hb, Heap.size_push]
    exact Nat.lt_succ_self _
  · intro b hb
    rw [List.mem_singleton.mp hb]
    cases q : s.heap.get? s₁.heap.objs.size with
    | none => rfl
    | some o => exact absurd (Heap.lt_size ((kpH k) _ _ q)) (Nat.lt_irrefl _)

noncomputable def upTo (n : Nat) : List PyData := (List.range n).map fun i => .int (i : Nat)
theorem src_range {x : Str} {e : Expr} {n : Nat} {pos px : Pos} (g : Gl C.hB x (.type "range")) (hx : C.env.kindOf x = some .globalImplicit) (h : Ev C ρ e (.int n)) (hz : n ≤ 100000)
    (hd : (x == ("__debug__" : Str)) = false := by decide) (hs : starEach [e] C.env = (false, eval e C.env) :: starEach [] C.env := by rfl) : Src C ρ (.Call (.Name x px) [e] [] pos) (upTo n) := by
  intro s E P
  refine PyProof.Rows.Call_ (gl_name P g hx ?_ hd)
  refine PyProof.Rows.callWith_type1 (wpAny_mono (evs_cons h evs_nil hs pos s E P) (fun vs s₁ h₁ => ?_) fun _ _ e => e) hs
  obtain ⟨k, q⟩ := h₁
  cases q with
  | cons a r =>
    cases r
    cases a
    rename_i t₀
    refine call_range_1 ?_
    refine wpAny_pyIter_range (IsRange.new ..) (PySem.small_one (by omega) (by omega) (by omega) (by omega)) ?_
    have hl : (upTo n).length = n := by simp [upTo]
    have hr : Builtin.Range.rangeSize 0 (n : Int) 1 = (n : Int) := by rw [rangeSize_nat]; omega
    rw [hr]
    have K : Kp s₁.heap (s₁.heap.push { cls := .type "range", data := .fields #[.int 0 s₁.toks, .int n t₀, .int 1 (s₁.toks + 1)] }) := fun b o e => Heap.get?_push_of_some _ e
    dsimp only
    generalize s₁.heap.push { cls := .type "range", data := .fields #[.int 0 s₁.toks, .int n t₀, .int 1 (s₁.toks + 1)] } = h2 at K
    have W := PyProof.Rows.LCg.range_walks (prog := C.prog) (w := C.w) (I := h2.objs.size) P.ok.good.handled 0 n
    refine ⟨_, _, _, _, _, rfl, by rw [hl]; exact W.bound, ?_, ?_, ?_, ?_, keeps_trans k ⟨_, _, rfl, fun b o e => Heap.get?_push_of_some _ (K b o e)⟩⟩
    · rintro i v ⟨hi, t, rfl⟩
      exact ⟨.int (i : Nat), by simp [upTo, hi], by rw [Int.zero_add]; exact .int _ _⟩
    · show (h2.push _).get? h2.objs.size = _
      rw [Heap.get?_push_size _ rfl]
      simp
    · intro b hb
      rw [List.mem_singleton.mp hb, Heap.size_push]
      exact Nat.lt_succ_self _
    · intro b hb
      rw [List.mem_singleton.mp hb]
      cases q : s.heap.get? h2.objs.size with
      | none => rfl
      | some o => exact absurd (Heap.lt_size (K _ _ ((kpH k) _ _ q))) (Nat.lt_irrefl _)
end
end Mine
end

section
set_option maxRecDepth 100000
namespace Mine

theorem Is.one {X Y : List Addr} {h : Heap} {v : Value} {d e : PyData} (i : Is X h v d) (j : Is Y h v e) : d = e :=
  let ⟨_, a⟩ := i.reads
  let ⟨_, b⟩ := j.reads
  (reads_det (fun _ _ e _ => e) b a).1

theorem paired_get {F : Value → Value → Prop} : ∀ {vs ws : List Value}, Paired F vs ws → ∀ {i : Nat} {w : Value}, ws[i]? = some w → ∃ v, vs[i]? = some v ∧ F v w
  | _, _, .nil, _, _, e => by simp at e
  | _, _, .cons f r, 0, _, e => by simp at e; subst e; exact ⟨_, rfl, f⟩
  | _, _, .cons f r, i + 1, _, e => by
    obtain ⟨v, a, b⟩ := paired_get r (i := i) (by simpa using e)
    exact ⟨v, by simpa using a, b⟩
theorem isAll_of {X : List Addr} {h : Heap} : ∀ {vs : List Value} {ds : List PyData}, vs.length = ds.length → (∀ (i : Nat) (v : Value) (d : PyData), vs[i]? = some v → ds[i]? = some d → Is X h v d) → IsAll X h vs ds
  | [], [], _, _ => .nil
  | [], _ :: _, e, _ => by simp at e
  | _ :: _, [], e, _ => by simp at e
  | v :: vs, d :: ds, e, k => .cons (k 0 v d rfl rfl) (isAll_of (by simpa using e) fun i w c a b => k (i + 1) w c (by simpa using a) (by simpa using b))

section
variable {C : Cx} {ρ : List (Str × PyData)}

/-- the frame of a comprehension within the frame at hand -/
noncomputable def inner (C : Cx) (scope : Scope) (cl : List (Str × Addr)) (c : Addr) : Cx := { C with env := compEnvC scope cl c C.env }

/-- the names that a comprehension takes from around it -/
noncomputable def Caught (C : Cx) (scope : Scope) (cl : List (Str × Addr)) (ρ ρf : List (Str × PyData)) : Prop :=
  ∀ y d, ρf.lookup y = some d → ρ.lookup y = some d ∧ C.env.kindOf y = some .cell ∧ (relabel scope C.env).names.lookup y = some .cell ∧ cl.lookup y = C.env.cells.lookup y
theorem caught_nil {scope : Scope} {cl : List (Str × Addr)} : Caught C scope cl ρ [] := fun y d e => by simp at e

theorem ev_comp {elt iter : Expr} {x : Str} {px pos : Pos} {scope : Scope} {cl : List (Str × Addr)} {xs : List PyData} {ρf : List (Str × PyData)} (f : PyData → PyData) (hit : Src C ρ iter xs) (hz : xs.length ≤ 100000)
    (hclos : closureFor scope C.env = pure cl) (hcell : ∀ y ∈ scope.names, y.2 ≠ .cell) (hkind : scope.kind = .function)
    (hnames : ∀ y ∈ scope.names, y.2 = .local → scope.names.lookup y.1 = some .local) (hx : scope.names.lookup x = some .local)
    (hcat : Caught C scope cl ρ ρf) (hfl : ∀ d ∈ xs, flat (f d) = true)
    (helt : ∀ c, ∀ d ∈ xs, Ev (inner C scope cl c) ((x, d) :: ρf) elt (f d))
    (hs : ∀ x, foldedSetIterable iter C.env x = pure x := by intro _; rfl) :
    Ev C ρ (.ListComp elt [⟨.Name x px, iter, [], 0⟩] scope pos) (.list (xs.map f)) := by
  intro s E P
  have hx' : (relabel scope C.env).names.lookup x = some .local := lookup_relabel_local hx
  rw [eval_ListComp]
  refine wpAny_comprehension_free (use := none) rfl hs hclos hkind hnames (wpAny_mono (hit s E P) (fun xv s₁ h₁ => wpAny_mono h₁ (fun it s₂ h₂ => ?_) fun _ _ e => e) fun _ _ e => e)
  obtain ⟨I, fp, wr, Pi, St, rfl, W, hP, hst, hfp, hwr, hk⟩ := h₂
  refine comp_block_walkC (RR := fun acc Cc => compPost (model C.prog C.w) C.A E none (fun v s' => Keeps s s' ∧ Is C.X s'.heap v (.list (xs.map f))) acc Cc) W (by rw [sizeLine_eq]; omega) (fun _ => true)
    (fun v y => ∃ d, d ∈ xs ∧ Is (wr ++ C.X) s₂.heap v d ∧ FlatIs y (f d)) hcell hkind hx hst hfp ⟨?tests, ?eltq⟩ ?fin
  case tests =>
    intro Cc i v s₃ m₃ E' _ _ _ _ _ _
    exact wpAny_tests_nil ⟨rfl, keeps_refl s₃⟩
  case eltq =>
    intro Cc i v s₃ m₃ E' hCc hPv _ hn hm hk3 htk
    obtain ⟨d, hd, hv⟩ := hP i v hPv
    have hmem : d ∈ xs := List.mem_of_getElem? hd
    have up3 : Kp s.heap s₃.heap := fun b o e => hk3 b o (fun q => by rw [hwr b q] at e; cases e) ((kpH hk) b o e)
    have vis : Is (wr ++ C.X) s₃.heap v d := hv.up (Up.mod (W := wr) (fun b hb => List.mem_append.mpr (.inl hb)) hk3)
    have P' : Pre (inner C scope cl Cc) ((x, d) :: ρf) s₃ := by
      refine ⟨⟨P.ok.good, by show (relabel scope C.env).kind = _; simpa [relabel] using hkind, P.ok.glob, P.ok.bui⟩, P.base.trans up3, fun a ha => let ⟨o, e⟩ := P.liv a ha; ⟨o, up3 a o e⟩, fun y e hy => ?_⟩
      rw [List.lookup_cons] at hy
      cases hyx : y == x with
      | true =>
        rw [hyx] at hy
        cases hy
        rw [eq_of_beq hyx]
        exact ⟨v, .inl ⟨hx', m₃, hn, hm⟩, vis.up (Up.less fun b hb => List.mem_append.mpr (.inr hb))⟩
      | false =>
        rw [hyx] at hy
        obtain ⟨c1, c2, c3, c4⟩ := hcat y e hy
        obtain ⟨u, a, q⟩ := P.vars y e c1
        refine ⟨u, ?_, q.up (Up.keep up3)⟩
        rcases a with ⟨a, _⟩ | ⟨_, c, n, r⟩
        · rw [c2] at a; cases a
        · refine .inr ⟨c3, c, ?_, let ⟨o, e1, e2⟩ := r; ⟨o, up3 _ _ e1, e2⟩⟩
          show cl.lookup y = some c
          rw [c4, n]
    refine wpAny_mono (helt Cc d hmem s₃ E' P') (fun y s₄ h₄ => ?_) fun _ _ e => e
    exact ⟨⟨d, hmem, hv, h₄.2.flat (hfl d hmem)⟩, h₄.1⟩
  case fin =>
    intro D Cc h' tk m' ys vs hD hC hDC hn hl hpl hlen hPj hF hk'
    refine ⟨m', hn, fun h'' hs'' => ?_⟩
    have up : Kp s.heap h'' := fun b o e => hs''.extBut b o (by rintro rfl; rw [(kpH hk) _ _ e] at hC; cases hC) (hk' b o (fun q => by rw [hwr b q] at e; cases e) ((kpH hk) b o e))
    refine ⟨?_, ?_⟩
    · obtain ⟨h2, tk2, rfl, _⟩ := hk
      exact ⟨h'', tk, rfl, up⟩
    · have hDX : D ∉ C.X := fun m => by
        obtain ⟨o, e⟩ := P.liv D m
        rw [(kpH hk) _ _ e] at hD; cases hD
      have hl2 : h''.IsList D ys.toList.toArray := by simpa using hl.extBut hs''.extBut hDC
      rw [List.filter_eq_self.mpr (fun _ _ => rfl)] at hF
      have hly : ys.toList.length = xs.length := by rw [← hF.length, hlen]
      refine .list hDX hl2 (isAll_of (by rw [List.length_map, hly]) fun i y e hy he => ?_)
      obtain ⟨v, hv, d, hd, hvd, hyd⟩ := paired_get hF hy
      obtain ⟨d', hd', hv'⟩ := hP i v (hPj i v hv)
      have q := Is.one hvd hv'
      subst q
      rw [List.getElem?_map, hd'] at he
      cases he
      exact hyd _ _
end
end Mine
end

section
set_option maxRecDepth 100000
namespace Mine

noncomputable def Cx.on (B : Cx) (Y : List Addr) : Cx := { B with X := Y ++ B.X }

/-- a list that the frame alone holds and still fills: its name, its address, its items -/
structure Own where
  name : Str
  at_ : Addr
  its : List PyData

structure OwnOk (B : Cx) (K : Addr → Obj → Prop) (Y : List Addr) (s : Shared) (o : Own) : Prop where
  at' : At B.env s.heap o.name (.ref o.at_)
  bar : o.at_ ∈ Y
  off : ∀ x, ¬ K o.at_ x
  loc : o.at_ ≠ B.env.locals
  cel : ∀ y c, B.env.cells.lookup y = some c → o.at_ ≠ c
  lst : ∃ vs : List Value, s.heap.PlainList o.at_ vs.toArray ∧ IsAll (Y ++ B.X) s.heap vs o.its

/-- the state between two statements of a frame: K is what must stay as it is, Y what the frame may still change (or a loop around it), ρ the names' data -/
structure St (B : Cx) (sin : Shared) (K : Addr → Obj → Prop) (Y : List Addr) (ρ : List (Str × PyData)) (o : Option Own) (s : Shared) : Prop where
  pre : Pre (B.on Y) ρ s
  same : ∃ h tk, s = { sin with heap := h, toks := tk }
  kept : ∀ b x, K b x → s.heap.get? b = some x
  loc : B.env.locals ∈ Y
  off : ∀ x, ¬ K B.env.locals x
  ns : ∃ m, s.heap.Ns B.env.locals m
  cel : ∀ y c, B.env.cells.lookup y = some c → c ∈ Y ∧ c ≠ B.env.locals ∧ (∀ x, ¬ K c x) ∧ ∃ v, s.heap.IsCell c v
  inj : ∀ y z c, B.env.cells.lookup y = some c → B.env.cells.lookup z = some c → y = z
  own : ∀ q, o = some q → OwnOk B K Y s q
  low : ∀ b x, B.hB.get? b = some x → K b x
  old : ∀ b x, sin.heap.get? b = some x → K b x

noncomputable def Slot (env : Env) (x : Str) : Prop := env.kindOf x = some .local ∨ (env.kindOf x = some .cell ∧ ∃ c, env.cells.lookup x = some c)

section
variable {B : Cx} {sin s : Shared} {K : Addr → Obj → Prop} {Y : List Addr} {ρ : List (Str × PyData)} {o : Option Own}

theorem St.keep {s' : Shared} (S : St B sin K Y ρ o s) (k : Keeps s s') : St B sin K Y ρ o s' where
  pre := S.pre.keep k
  same := by
    obtain ⟨h, tk, rfl⟩ := S.same
    obtain ⟨h', tk', rfl, _⟩ := k
    exact ⟨h', tk', rfl⟩
  kept := fun b x q => (kpH k) b x (S.kept b x q)
  loc := S.loc
  off := S.off
  ns := let ⟨m, n⟩ := S.ns; ⟨m, n.keeps (kpH k)⟩
  cel := fun y c e => let ⟨a, b, d, v, ob, e1, e2⟩ := S.cel y c e; ⟨a, b, d, v, ob, (kpH k) _ _ e1, e2⟩
  inj := S.inj
  own := fun q e => let w := S.own q e; ⟨w.at'.keep (kpH k), w.bar, w.off, w.loc, w.cel, let ⟨vs, p, r⟩ := w.lst; ⟨vs, p.at fun ob e => (kpH k) _ _ e, r.up (Up.keep (kpH k))⟩⟩
  low := S.low
  old := S.old

/-- a store into a name: what it turns is the frame's names' object or the name's cell -/
theorem store_low {x : Str} {v : Value} {A : Around} {E : Value → Shared → Prop} {Q : Unit → Shared → Prop} (S : St B sin K Y ρ o s) (hx : Slot B.env x)
    (h : ∀ s' a, Heap.SameBut a s.heap s'.heap → (∃ tk, s' = { s with heap := s'.heap, toks := tk }) → At B.env s'.heap x v → (∀ y u, y ≠ x → At B.env s.heap y u → At B.env s'.heap y u) →
      a ∈ Y → (∀ q, ¬ K a q) → (∃ m, s'.heap.Ns B.env.locals m) → (∀ y c, B.env.cells.lookup y = some c → ∃ v, s'.heap.IsCell c v) → (∀ q, o = some q → q.at_ ≠ a) → (∃ ob, s'.heap.get? a = some ob) → (a = B.env.locals ∨ ∃ y, B.env.cells.lookup y = some a) → Q () s') :
    wpAny (model B.prog B.w) A (storeName B.env x v) Q E s := by
  obtain ⟨m, n⟩ := S.ns
  rcases hx with hx | ⟨hx, c, hc⟩
  · refine wpAny_storeName_local hx n (fun h' n' sb => ?_) (by rw [show B.env.scope.kind = .function from S.pre.ok.kind]; rfl)
    refine h { s with heap := h', toks := s.toks + 1 } B.env.locals sb ⟨_, rfl⟩ (.inl ⟨hx, _, n', by simp⟩) ?_ S.loc S.off ⟨_, n'⟩ ?_ (fun q e => (S.own q e).loc) (let ⟨ob, _, _, e, _⟩ := n'; ⟨ob, e⟩) (.inl rfl)
    · intro y u hy a
      rcases a with ⟨a1, m1, n1, e1⟩ | ⟨a1, c, e1, ob, e2, e3⟩
      · refine .inl ⟨a1, _, n', ?_⟩
        have e : m1 y = m y := by
          obtain ⟨o1, es1, p1, g1, d1, _, f1⟩ := n1
          obtain ⟨o2, es2, p2, g2, d2, _, f2⟩ := n
          rw [g1] at g2
          cases g2
          rw [d1] at d2
          cases d2
          rw [← f1, ← f2]
        simp only [if_neg hy]
        rw [← e, e1]
      · exact .inr ⟨a1, c, e1, ob, sb.extBut c ob (S.cel y c e1).2.1 e2, e3⟩
    · intro y c e
      obtain ⟨_, b, _, v, ob, e1, e2⟩ := S.cel y c e
      exact ⟨v, ob, sb.extBut c ob b e1, e2⟩
  · obtain ⟨hY, hL, hK, v₀, hcell⟩ := S.cel x c hc
    refine wpAny_storeName_cell S.pre.ok.kind hx hc hcell fun h' hcell' sb => ?_
    refine h { s with heap := h' } c sb ⟨s.toks, rfl⟩ (.inr ⟨hx, c, hc, hcell'⟩) ?_ hY hK ⟨m, let ⟨ob, es, ep, e, r⟩ := n; ⟨ob, es, ep, sb.extBut _ _ hL.symm e, r⟩⟩ ?_ (fun q e => (S.own q e).cel x c hc) (let ⟨ob, e, _⟩ := hcell'; ⟨ob, e⟩) (.inr ⟨x, hc⟩)
    · intro y u hy a
      rcases a with ⟨a1, m1, ⟨ob, es, ep, e, r⟩, e1⟩ | ⟨a1, c', e1, ob, e2, e3⟩
      · exact .inl ⟨a1, m1, ⟨ob, es, ep, sb.extBut _ _ hL.symm e, r⟩, e1⟩
      · exact .inr ⟨a1, c', e1, ob, sb.extBut c' ob (fun q => hy (S.inj y x c' e1 (q ▸ hc))) e2, e3⟩
    · intro y c' e
      by_cases q : c' = c
      · subst q; exact ⟨_, hcell'⟩
      · obtain ⟨_, _, _, v, ob, e1, e2⟩ := S.cel y c' e
        exact ⟨v, ob, sb.extBut c' ob q e1, e2⟩

theorem vars_cons {X : List Addr} {env : Env} {h : Heap} {x : Str} {d : PyData} (V : ∀ y e, y ≠ x → ρ.lookup y = some e → ∃ v, At env h y v ∧ Is X h v e) (W : ∃ v, At env h x v ∧ Is X h v d) : Vars X env h ((x, d) :: ρ) := by
  intro y e hy
  rw [List.lookup_cons] at hy
  cases q : y == x with
  | true =>
    rw [q] at hy
    cases hy
    rw [eq_of_beq q]
    exact W
  | false =>
    rw [q] at hy
    exact V y e (fun z => by rw [z] at q; simp at q) hy

theorem St.weak {ρ' : List (Str × PyData)} (S : St B sin K Y ρ o s) (h : ∀ x d, ρ'.lookup x = some d → ρ.lookup x = some d) : St B sin K Y ρ' o s :=
  ⟨⟨S.pre.ok, S.pre.base, S.pre.liv, fun x d e => S.pre.vars x d (h x d e)⟩, S.same, S.kept, S.loc, S.off, S.ns, S.cel, S.inj, S.own, S.low, S.old⟩
noncomputable def Sub : List (Str × PyData) → List (Str × PyData) → Prop
  | [], _ => True
  | p :: r, ρ => ρ.lookup p.1 = some p.2 ∧ Sub r ρ
theorem Sub.at : ∀ {r ρ : List (Str × PyData)}, Sub r ρ → ∀ x d, r.lookup x = some d → ρ.lookup x = some d
  | [], _, _, x, d, e => by simp at e
  | p :: r, ρ, h, x, d, e => by
    rw [List.lookup_cons] at e
    cases q : x == p.1 with
    | true => rw [q] at e; cases e; rw [eq_of_beq q]; exact h.1
    | false => rw [q] at e; exact Sub.at h.2 x d e

/-- a datum into a name -/
theorem st_store {x : Str} {v : Value} {d : PyData} {A : Around} {E : Value → Shared → Prop} {Q : Unit → Shared → Prop} (S : St B sin K Y ρ o s) (hx : Slot B.env x) (hv : Is (Y ++ B.X) s.heap v d) (ho : ∀ q, o = some q → q.name ≠ x)
    (h : ∀ s', St B sin K Y ((x, d) :: ρ) o s' → Up (Y ++ B.X) s.heap (Y ++ B.X) s'.heap → Q () s') : wpAny (model B.prog B.w) A (storeName B.env x v) Q E s := by
  refine store_low S hx fun s' a sb e at1 at2 hY hK ns cel hq hob _ => ?_
  have ex : ∀ b q, b ≠ a → s.heap.get? b = some q → s'.heap.get? b = some q := fun b q n z => sb.extBut b q n z
  have up : Up (Y ++ B.X) s.heap (Y ++ B.X) s'.heap := Up.mod (W := [a]) (fun b hb => by rw [List.mem_singleton.mp hb]; exact List.mem_append.mpr (.inl hY)) fun b q n z => ex b q (fun w => n (by rw [w]; exact List.mem_singleton.mpr rfl)) z
  refine h s' ⟨⟨S.pre.ok, fun b q z => ?_, fun b m => ?_, vars_cons (fun y e hy hl => let ⟨u, p, r⟩ := S.pre.vars y e hl; ⟨u, at2 y u hy p, r.up up⟩) ⟨v, at1, hv.up up⟩⟩, ?_, fun b x q => ex b x (fun w => hK x (w ▸ q)) (S.kept b x q), S.loc, S.off, ns, fun y c hc => let ⟨a1, a2, a3, _⟩ := S.cel y c hc; ⟨a1, a2, a3, cel y c hc⟩, S.inj, fun q hq' => ?_, S.low, S.old⟩ up
  · have n : b ≠ a := fun w => hK q (w ▸ S.low b q z)
    exact ex b q n (S.pre.base b q z)
  · by_cases q : b = a
    · subst q; exact hob
    · obtain ⟨ob, z⟩ := S.pre.liv b m
      exact ⟨ob, ex b ob q z⟩
  · obtain ⟨h, tk, rfl⟩ := S.same
    obtain ⟨tk', e⟩ := e
    exact ⟨s'.heap, tk', e⟩
  · have w := S.own q hq'
    obtain ⟨vs, p, r⟩ := w.lst
    exact ⟨at2 _ _ (ho q hq') w.at', w.bar, w.off, w.loc, w.cel, vs, p.at fun ob z => ex _ ob (hq q hq') z, r.up up⟩
end
end Mine
end

section
set_option maxRecDepth 100000
namespace Mine
section
variable {B : Cx} {sin s : Shared} {K : Addr → Obj → Prop} {Y : List Addr} {ρ : List (Str × PyData)} {o : Option Own} {E : Value → Shared → Prop} {Q : Flow → Shared → Prop} {rest : List Stmt}

theorem ex_nil (h : Q .next s) : wpAny (model B.prog B.w) B.A (execs [] B.env) Q E s := wpAny_execs_nil h

theorem ex_return {e : Expr} {d : PyData} {pos : Pos} (S : St B sin K Y ρ o s) (he : Ev (B.on Y) ρ e d) (h : ∀ v s', Keeps sin s' → Is B.X s'.heap v d → Q (.ret v) s') :
    wpAny (model B.prog B.w) B.A (execs (.Return (some e) pos :: rest) B.env) Q E s := by
  refine wpAny_execs_cons (wpAny_Return_some (wpAny_mono (he s E S.pre) (fun v s' h' => ?_) fun _ _ e => e))
  refine h v s' ?_ (h'.2.up (Up.less fun b hb => List.mem_append.mpr (.inr hb)))
  have S' := S.keep h'.1
  obtain ⟨g, tk, e⟩ := S'.same
  exact ⟨s'.heap, s'.toks, by rw [e], fun b x z => S'.kept b x (S.old b x z)⟩

theorem ex_assign {e : Expr} {x : Str} {d : PyData} {px pos : Pos} (S : St B sin K Y ρ o s) (he : Ev (B.on Y) ρ e d) (hx : Slot B.env x) (ho : ∀ q, o = some q → q.name ≠ x)
    (h : ∀ s', St B sin K Y ((x, d) :: ρ) o s' → wpAny (model B.prog B.w) B.A (execs rest B.env) Q E s') (hs : swapsWith e (some (.Name x px)) pos.line B.env = pure false := by rfl) :
    wpAny (model B.prog B.w) B.A (execs (.Assign [.Name x px] e pos :: rest) B.env) Q E s := by
  refine wpAny_execs_cons (wpAny_Assign_Name (wpAny_mono (he s E S.pre) (fun v s' h' => ?_) fun _ _ e => e) hs)
  exact st_store (S.keep h'.1) hx h'.2 ho fun s'' S'' _ => h s'' S''

/-- two names from a pair -/
theorem asg_two {x y : Str} {px py pt : Pos} {k : Nat} {d e : PyData} {v : Value} {Q : Unit → Shared → Prop} (S : St B sin K Y ρ o s) (hv : Is (Y ++ B.X) s.heap v (.tuple [d, e])) (hx : Slot B.env x) (hy : Slot B.env y) (ho : ∀ q, o = some q → q.name ≠ x ∧ q.name ≠ y)
    (h : ∀ s', St B sin K Y ((y, e) :: (x, d) :: ρ) o s' → Up (Y ++ B.X) s.heap (Y ++ B.X) s'.heap → Q () s') : wpAny (model B.prog B.w) B.A (assign (.Tuple [.Name x px, .Name y py] k pt) B.env v) Q E s := by
  obtain ⟨a', vs', rfl, n, t, r⟩ := hv.tuple_inv
  obtain ⟨v₁, _, rfl, a, r⟩ := r.cons_inv
  obtain ⟨v₂, rfl, b⟩ := r.one_inv
  refine wpAny_assign_Tuple S.pre.ok.good.handled t rfl rfl fun h' hx' => ?_
  have k' : Keeps s { s with heap := h' } := ⟨h', s.toks, rfl, fun b o e => hx' b o (Nat.ne_of_lt (Heap.lt_size e)) e⟩
  show wpAny _ _ (do holding [v₂] (assign (.Name x px) B.env v₁); do holding [] (assign (.Name y py) B.env v₂); pure ()) _ _ _
  refine wpAny_bind (wpAny_holding (wpAny_assign_Name (st_store (S.keep k') hx (a.up (Up.keep (kpH k'))) (fun q e => (ho q e).1) fun s₁ S₁ u₁ => ?_)))
  refine wpAny_bind (wpAny_holding (wpAny_assign_Name (st_store S₁ hy ((b.up (Up.keep (kpH k'))).up u₁) (fun q e => (ho q e).2) fun s₂ S₂ u₂ => wpAny_pure (h s₂ S₂ (((Up.keep (kpH k')).trans u₁).trans u₂)))))

theorem ex_assign2 {val : Expr} {x y : Str} {d e : PyData} {px py pt pos : Pos} {k : Nat} (S : St B sin K Y ρ o s) (he : Ev (B.on Y) ρ val (.tuple [d, e])) (hx : Slot B.env x) (hy : Slot B.env y) (ho : ∀ q, o = some q → q.name ≠ x ∧ q.name ≠ y)
    (h : ∀ s', St B sin K Y ((y, e) :: (x, d) :: ρ) o s' → wpAny (model B.prog B.w) B.A (execs rest B.env) Q E s')
    (hs : swapsWithSole [.Tuple [.Name x px, .Name y py] k pt] val pos.line B.env = pure false := by rfl) (hw : swappedStores [.Tuple [.Name x px, .Name y py] k pt] val B.env = pure none := by rfl) :
    wpAny (model B.prog B.w) B.A (execs (.Assign [.Tuple [.Name x px, .Name y py] k pt] val pos :: rest) B.env) Q E s := by
  refine wpAny_execs_cons (PyProof.Rows.Assign_Tuple (wpAny_mono (he s E S.pre) (fun v s' h' => ?_) fun _ _ e => e) hs hw)
  exact asg_two (S.keep h'.1) h'.2 hx hy ho fun s' S' _ => h s' S'

theorem unpack2 {t : Addr} {v₁ v₂ : Value} {A : Around} {Q : List Value → Shared → Prop} (hh : A.handled = none) (ht : s.heap.IsTuple t [v₁, v₂].toArray)
    (h : ∀ h', Heap.ExtBut s.heap.objs.size s.heap h' → Q [v₁, v₂] { s with heap := h' }) : wpAny (model B.prog B.w) A (unpackItems (.ref t) 2 none) Q E s := by
  have e : 2 = [v₁, v₂].toArray.size := by rw [List.size_toArray]; rfl
  rw [e]
  exact wpAny_unpackItems_tuple hh ht h
/-- two names from a written pair: stored in the other order -/
theorem ex_pair {a b : Expr} {x y : Str} {d e : PyData} {px py pt pv pos : Pos} {k k' : Nat} (S : St B sin K Y ρ o s) (he : Ev (B.on Y) ρ (.Tuple [a, b] k' pv) (.tuple [d, e])) (hx : Slot B.env x) (hy : Slot B.env y) (ho : ∀ q, o = some q → q.name ≠ x ∧ q.name ≠ y)
    (h : ∀ s', St B sin K Y ((x, d) :: (y, e) :: ρ) o s' → wpAny (model B.prog B.w) B.A (execs rest B.env) Q E s')
    (hs : swapsWithSole [.Tuple [.Name x px, .Name y py] k pt] (.Tuple [a, b] k' pv) pos.line B.env = pure false := by rfl) (hw : swappedStores [.Tuple [.Name x px, .Name y py] k pt] (.Tuple [a, b] k' pv) B.env = pure (some [x, y]) := by rfl) :
    wpAny (model B.prog B.w) B.A (execs (.Assign [.Tuple [.Name x px, .Name y py] k pt] (.Tuple [a, b] k' pv) pos :: rest) B.env) Q E s := by
  refine wpAny_execs_cons (PyProof.Rows.Assign_Tuple_swapped (wpAny_mono (he s E S.pre) (fun v s' h' => ?_) fun _ _ e => e) hs hw)
  have S' := S.keep h'.1
  obtain ⟨_, hv⟩ := h'
  obtain ⟨a', vs', rfl, n, t, r⟩ := hv.tuple_inv
  obtain ⟨v₁, _, rfl, a, r⟩ := r.cons_inv
  obtain ⟨v₂, rfl, b⟩ := r.one_inv
  refine unpack2 S.pre.ok.good.handled t fun h' hx' => ?_
  have k' : Keeps s' { s' with heap := h' } := ⟨h', s'.toks, rfl, fun b o e => hx' b o (Nat.ne_of_lt (Heap.lt_size e)) e⟩
  show wpAny _ _ (do holding [v₁] (bindName B.env y v₂); do holding [] (bindName B.env x v₁); pure ()) _ _ _
  refine wpAny_bind (wpAny_holding (wpAny_bindName (st_store (S'.keep k') hy (b.up (Up.keep (kpH k'))) (fun q e => (ho q e).2) fun s₁ S₁ u₁ => ?_)))
  refine wpAny_bind (wpAny_holding (wpAny_bindName (st_store S₁ hx ((a.up (Up.keep (kpH k'))).up u₁) (fun q e => (ho q e).1) fun s₂ S₂ _ => wpAny_pure (h s₂ S₂))))

noncomputable def Then (B : Cx) (rest : List Stmt) (Q : Flow → Shared → Prop) (E : Value → Shared → Prop) : Flow → Shared → Prop := fun f s' => match f with
  | .next => wpAny (model B.prog B.w) B.A (execs rest B.env) Q E s'
  | f => Q f s'
theorem ex_if {t : Expr} {b : Bool} {body els : List Stmt} {pos : Pos} (S : St B sin K Y ρ o s) (ht : Tr (B.on Y) ρ t b)
    (h1 : b = true → ∀ s', St B sin K Y ρ o s' → wpAny (model B.prog B.w) B.A (execs body B.env) (Then B rest Q E) E s')
    (h2 : b = false → ∀ s', St B sin K Y ρ o s' → wpAny (model B.prog B.w) B.A (execs els B.env) (Then B rest Q E) E s') :
    wpAny (model B.prog B.w) B.A (execs (.If t body els pos :: rest) B.env) Q E s := by
  refine wpAny_execs_cons (wpAny_If (wpAny_mono (ht s E S.pre) (fun r s' h' => ?_) fun _ _ e => e))
  obtain ⟨rfl, k⟩ := h'
  have fin : ∀ {t : Sem Flow}, wpAny (model B.prog B.w) B.A t (Then B rest Q E) E s' → wpAny (model B.prog B.w) B.A t (fun f s' => match f with | .next => wpAny (model B.prog B.w) B.A (execs rest B.env) Q E s' | f => Q f s') E s' := fun q => wpAny_mono q (fun f s' z => by cases f <;> exact z) fun _ _ e => e
  cases r with
  | true => exact fin (h1 rfl s' (S.keep k))
  | false => exact fin (h2 rfl s' (S.keep k))
theorem then_nil {s' : Shared} (h : wpAny (model B.prog B.w) B.A (execs rest B.env) Q E s') : wpAny (model B.prog B.w) B.A (execs [] B.env) (Then B rest Q E) E s' := wpAny_execs_nil h

/-! a list of the frame's own -/
theorem Ok.on {Y Y' : List Addr} (h : Ok (B.on Y)) : Ok (B.on Y') := ⟨h.good, h.kind, h.glob, h.bui⟩
theorem st_alloc (S : St B sin K Y ρ none s) (ob : Obj) (hf : ob.isFreed = false := by rfl) : St B sin K (s.heap.objs.size :: Y) ρ none { s with heap := s.heap.push ob } := by
  have k : Keeps s { s with heap := s.heap.push ob } := ⟨_, s.toks, rfl, fun b o e => Heap.get?_push_of_some _ e⟩
  have S' := S.keep k
  have up : Up (Y ++ B.X) s.heap ((s.heap.objs.size :: Y) ++ B.X) (s.heap.push ob) := fun a q n e =>
    ⟨fun m => (List.mem_cons.mp m).elim (fun w => absurd (Heap.lt_size e) (by rw [w]; exact Nat.lt_irrefl _)) n, Heap.get?_push_of_some _ e⟩
  exact ⟨⟨S.pre.ok.on, S'.pre.base, fun a m => (List.mem_cons.mp m).elim (fun w => ⟨ob, by rw [w]; exact Heap.get?_push_size _ hf⟩) fun m => S'.pre.liv a m, fun x d e => let ⟨v, p, q⟩ := S.pre.vars x d e; ⟨v, p.keep (kpH k), q.up up⟩⟩,
    S'.same, S'.kept, .tail _ S.loc, S.off, S'.ns, fun y c e => let ⟨a, b⟩ := S'.cel y c e; ⟨.tail _ a, b⟩, S.inj, fun q e => (nomatch e), S.low, S.old⟩

theorem own_new {x : Str} {v : Addr} {A : Around} {Q : Unit → Shared → Prop} (S : St B sin K Y ρ none s) (hx : Slot B.env x) (hρ : ρ.lookup x = none) (hl : s.heap.PlainList v #[]) (hn : v ∈ Y) (hK : ∀ q, ¬ K v q) (hL : v ≠ B.env.locals) (hC : ∀ y c, B.env.cells.lookup y = some c → v ≠ c)
    (h : ∀ s', St B sin K Y ρ (some ⟨x, v, []⟩) s' → Q () s') : wpAny (model B.prog B.w) A (storeName B.env x (.ref v)) Q E s := by
  have hva : ∀ a, (a = B.env.locals ∨ ∃ y, B.env.cells.lookup y = some a) → v ≠ a := fun a q => q.elim (fun w => by rw [w]; exact hL) fun ⟨y, w⟩ => hC y a w
  obtain ⟨nn, hl⟩ := hl
  refine store_low S hx fun s' a sb e at1 at2 hY hK' ns cel hq hob ha => ?_
  have hav : a ≠ v := fun w => hva a ha w.symm
  · skip
    have ex : ∀ b q, b ≠ a → s.heap.get? b = some q → s'.heap.get? b = some q := fun b q n z => sb.extBut b q n z
    have up : Up (Y ++ B.X) s.heap (Y ++ B.X) s'.heap := Up.mod (W := [a]) (fun b hb => by rw [List.mem_singleton.mp hb]; exact List.mem_append.mpr (.inl hY)) fun b q n z => ex b q (fun w => n (by rw [w]; exact List.mem_singleton.mpr rfl)) z
    refine h s' ⟨⟨S.pre.ok, fun b q z => ?_, fun b m => ?_, fun y e hy => ?_⟩, ?_, fun b x q => ex b x (fun w => hK' x (w ▸ q)) (S.kept b x q), S.loc, S.off, ns, fun y c hc => let ⟨a1, a2, a3, _⟩ := S.cel y c hc; ⟨a1, a2, a3, cel y c hc⟩, S.inj, fun q hq' => ?_, S.low, S.old⟩
    · exact ex b q (fun w => hK' q (w ▸ S.low b q z)) (S.pre.base b q z)
    · by_cases q : b = a
      · subst q; exact hob
      · obtain ⟨ob, z⟩ := S.pre.liv b m
        exact ⟨ob, ex b ob q z⟩
    · obtain ⟨u, p, r⟩ := S.pre.vars y e hy
      exact ⟨u, at2 y u (fun w => by rw [w, hρ] at hy; cases hy) p, r.up up⟩
    · obtain ⟨h, tk, rfl⟩ := S.same
      obtain ⟨tk', e⟩ := e
      exact ⟨s'.heap, tk', e⟩
    · cases hq'
      exact ⟨at1, hn, hK, hL, hC, [], ⟨nn, ex v _ hav.symm hl⟩, .nil⟩
end
end Mine
end

section
set_option maxRecDepth 100000
namespace Mine

theorem list_extendW (l : Addr) (items : Array Value) (n : Nat) (b : Addr) (items2 : Array Value) (n2 : Nat) (dd : Option Addr) (sl : Array (Option Value)) (hc0 : ¬(!items.isEmpty && Builtin.List.listTooLong (items.size + items2.size)) = true) (hc1 : items.size ≤ sizeLine) (hs2 : items.size + items2.size ≤ sizeLine + 1) :
    Meets (Builtin.«list.extend» ⟨[.ref l, .ref b], []⟩) (fun _ R s => s.heap.get? l = some { cls := .type "list", dict := none, data := .seq items n, slots := #[] } ∧ s.heap.get? b = some { cls := .type "list", dict := dd, data := .seq items2 n2, slots := sl } ∧ R (.ok (.ret Value.none)) { s with heap := s.heap.update l (Obj.mapSeq fun x => x ++ items2), toks := s.toks }) :=
  .of_wp fun prog w A R s h => by
    obtain ⟨hp, g, d, tk, os⟩ := s; obtain ⟨hl, hb, h⟩ := h; have f1 := AutoSeq1.idx_int; have f2 := AutoSeq1.sub_tuple_tuple; have f3 := AutoSeq1.sub_list_list; have f4 := AutoSeq1.sub_tuple_list; have f5 := AutoSeq1.sub_list_tuple;
    have hz' : (items ++ items2).size ≤ sizeLine + 1 := by rw [Array.size_append]; exact hs2
    wp_walk using (wpAny_updateSeq hl rfl (hz := hc1) (_hz' := hz')), AutoSeq1.wpAny_loadPart' hl, AutoSeq1.wpAny_loadPart' hb; exact ⟨_, rfl, h⟩

section
variable {B : Cx} {sin s : Shared} {K : Addr → Obj → Prop} {Y : List Addr} {ρ : List (Str × PyData)} {o : Option Own} {E : Value → Shared → Prop} {Q : Flow → Shared → Prop} {rest : List Stmt}

theorem own_turn {x : Str} {l : Addr} {ds ds' : List PyData} {s' : Shared} (S : St B sin K Y ρ (some ⟨x, l, ds⟩) s) (sb : Heap.SameBut l s.heap s'.heap) (e : ∃ tk, s' = { s with heap := s'.heap, toks := tk })
    (hl : ∃ vs : List Value, s'.heap.PlainList l vs.toArray ∧ IsAll (Y ++ B.X) s.heap vs ds') : St B sin K Y ρ (some ⟨x, l, ds'⟩) s' := by
  have w := S.own _ rfl
  have ex : ∀ b q, b ≠ l → s.heap.get? b = some q → s'.heap.get? b = some q := fun b q n z => sb.extBut b q n z
  have hlY : l ∈ Y := w.bar
  have hlK : ∀ q, ¬ K l q := w.off
  have hlL : l ≠ B.env.locals := w.loc
  have hlC : ∀ y c, B.env.cells.lookup y = some c → l ≠ c := w.cel
  have up : Up (Y ++ B.X) s.heap (Y ++ B.X) s'.heap := Up.mod (W := [l]) (fun b hb => by rw [List.mem_singleton.mp hb]; exact List.mem_append.mpr (.inl hlY)) fun b q n z => ex b q (fun w => n (by rw [w]; exact List.mem_singleton.mpr rfl)) z
  obtain ⟨vs, ⟨n, hpl⟩, hall⟩ := hl
  have at2 : ∀ y u, At B.env s.heap y u → At B.env s'.heap y u := by
    intro y u a
    rcases a with ⟨a1, m1, ⟨ob, es, ep, e, r⟩, e1⟩ | ⟨a1, c', e1, ob, e2, e3⟩
    · exact .inl ⟨a1, m1, ⟨ob, es, ep, ex _ _ hlL.symm e, r⟩, e1⟩
    · exact .inr ⟨a1, c', e1, ob, ex _ _ (hlC y c' e1).symm e2, e3⟩
  refine ⟨⟨S.pre.ok, fun b q z => ex b q (fun w => hlK q (w ▸ S.low b q z)) (S.pre.base b q z), fun b m => ?_, fun y d hy => let ⟨u, p, r⟩ := S.pre.vars y d hy; ⟨u, at2 y u p, r.up up⟩⟩, ?_, fun b x q => ex b x (fun w => hlK x (w ▸ q)) (S.kept b x q), S.loc, S.off,
    let ⟨m, ob, es, ep, e, r⟩ := S.ns; ⟨m, ob, es, ep, ex _ _ hlL.symm e, r⟩, fun y c hc => let ⟨a1, a2, a3, v, ob, e2, e3⟩ := S.cel y c hc; ⟨a1, a2, a3, v, ob, ex _ _ (hlC y c hc).symm e2, e3⟩, S.inj, fun q hq => ?_, S.low, S.old⟩
  · by_cases q : b = l
    · subst q; exact ⟨_, hpl⟩
    · obtain ⟨ob, z⟩ := S.pre.liv b m
      exact ⟨ob, ex b ob q z⟩
  · obtain ⟨h, tk, rfl⟩ := S.same
    obtain ⟨tk', e⟩ := e
    exact ⟨s'.heap, tk', e⟩
  · cases hq
    exact ⟨at2 _ _ w.at', hlY, hlK, hlL, hlC, vs, ⟨n, hpl⟩, hall.up up⟩

/-- the list is filled no more: it is a datum -/
theorem own_done {x : Str} {l : Addr} {ds : List PyData} (S : St B sin K Y ρ (some ⟨x, l, ds⟩) s) (hB : l ∉ B.X) : St B sin K (Y.filter fun b => b != l) ((x, .list ds) :: ρ) none s := by
  have w := S.own _ rfl
  have sub : ∀ b, b ∈ (Y.filter fun b => b != l) ++ B.X → b ∈ Y ++ B.X := fun b m => (List.mem_append.mp m).elim (fun q => List.mem_append.mpr (.inl (List.mem_filter.mp q).1)) fun q => List.mem_append.mpr (.inr q)
  have hlL : l ≠ B.env.locals := w.loc
  have hlC : ∀ y c, B.env.cells.lookup y = some c → l ≠ c := w.cel
  have stay : ∀ b, b ∈ Y → b ≠ l → b ∈ Y.filter fun b => b != l := fun b m n => List.mem_filter.mpr ⟨m, by simpa using n⟩
  refine ⟨⟨S.pre.ok.on, S.pre.base, fun b m => S.pre.liv b (sub b m), vars_cons (fun y e _ hy => let ⟨u, p, r⟩ := S.pre.vars y e hy; ⟨u, p, r.up (Up.less sub)⟩) ⟨_, w.at', ?_⟩⟩, S.same, S.kept, stay _ S.loc hlL.symm, S.off, S.ns, fun y c hc => let ⟨a1, a⟩ := S.cel y c hc; ⟨stay _ a1 (hlC y c hc).symm, a⟩, S.inj, fun q e => (nomatch e), S.low, S.old⟩
  obtain ⟨vs, p, r⟩ := w.lst
  refine .list (fun m => ?_) p.isList (r.up (Up.less sub))
  rcases List.mem_append.mp m with m | m
  · have := (List.mem_filter.mp m).2; simp at this
  · exact hB m

theorem at_eval {x : Str} {v : Value} {pos : Pos} {Q : Value → Shared → Prop} (S : St B sin K Y ρ o s) (a : At B.env s.heap x v) (h : Q v s) (hd : (x == ("__debug__" : Str)) = false := by decide) : wpAny (model B.prog B.w) B.A (eval (.Name x pos) B.env) Q E s := by
  have hk : B.env.scope.kind = .function := S.pre.ok.kind
  refine wpAny_Name ?_ hd
  rcases a with ⟨p, m, n, r⟩ | ⟨p, c, n, r⟩
  · exact wpAny_loadName_local hk p n r h
  · exact wpAny_loadName_cell hk p n r h

theorem ex_append {x : Str} {e : Expr} {l : Addr} {ds : List PyData} {d : PyData} {px apos pos p : Pos} (S : St B sin K Y ρ (some ⟨x, l, ds⟩) s) (he : Ev (B.on Y) ρ e d) (hz : ds.length ≤ 100000)
    (h : ∀ s', St B sin K Y ρ (some ⟨x, l, ds ++ [d]⟩) s' → wpAny (model B.prog B.w) B.A (execs rest B.env) Q E s')
    (hi : interactive B.env = false := by rfl) (hs : swapsWith (.Call (.Attribute (.Name x px) "append" apos) [e] [] pos) none p.line B.env = pure false := by rfl)
    (hb : attributeBase (.Name x px) "append" B.env (eval (.Name x px) B.env) = eval (.Name x px) B.env := by rfl) (hl : (apos.endLine == pos.line) = true := by rfl) (hse : starEach [e] B.env = [(false, eval e B.env)] := by rfl)
    (hd : (x == ("__debug__" : Str)) = false := by decide) :
    wpAny (model B.prog B.w) B.A (execs (.Expr (.Call (.Attribute (.Name x px) "append" apos) [e] [] pos) p :: rest) B.env) Q E s := by
  have w := S.own _ rfl
  refine wpAny_execs_cons (wpAny_Expr_any ?_ hi hs)
  refine wpAny_Call_method_lateS hb (by rw [hse]; rfl) hl (at_eval S w.at' ?_ hd)
  obtain ⟨vs, ⟨n, hp⟩, hall⟩ := w.lst
  refine ⟨"list", "list.append", PySem.F.plainAttrs_list, PySem.F.slot_list_append, PySem.F.type_list_append, ⟨_, hp, rfl⟩, fun a e => by cases e; exact ⟨_, hp, rfl⟩, ?_⟩
  rw [hse]
  refine PySem.P.append_list (wpAny_mono (he s E S.pre) (fun v s' h' => ?_) fun _ _ e => e)
  have k := h'.1
  have S' := S.keep k
  have hp' := (kpH k) _ _ hp
  refine ⟨vs.toArray, n, by rw [List.size_toArray, hall.length, sizeLine_eq]; show ds.length ≤ _; omega, hp', ?_⟩
  refine h _ (own_turn S' (Heap.SameBut.update ..) ⟨s'.toks, rfl⟩ ⟨vs ++ [v], ?_, ?_⟩)
  · have q := PySem.IsL.update (h := s'.heap) hp' (fun xs => xs.push v)
    have e : vs.toArray.push v = (vs ++ [v]).toArray := by simp
    exact ⟨_, by rw [← e]; exact q⟩
  · exact (hall.up (Up.keep (kpH k))).append (.cons h'.2 .nil)

theorem ex_extend {x : Str} {e : Expr} {l : Addr} {ds es : List PyData} {px apos pos p : Pos} (S : St B sin K Y ρ (some ⟨x, l, ds⟩) s) (he : Ev (B.on Y) ρ e (.list es)) (hz : ds.length + es.length ≤ 100000)
    (h : ∀ s', St B sin K Y ρ (some ⟨x, l, ds ++ es⟩) s' → wpAny (model B.prog B.w) B.A (execs rest B.env) Q E s')
    (hi : interactive B.env = false := by rfl) (hs : swapsWith (.Call (.Attribute (.Name x px) "extend" apos) [e] [] pos) none p.line B.env = pure false := by rfl)
    (hb : attributeBase (.Name x px) "extend" B.env (eval (.Name x px) B.env) = eval (.Name x px) B.env := by rfl) (hl : (apos.endLine == pos.line) = true := by rfl) (hse : starEach [e] B.env = [(false, eval e B.env)] := by rfl)
    (hd : (x == ("__debug__" : Str)) = false := by decide) :
    wpAny (model B.prog B.w) B.A (execs (.Expr (.Call (.Attribute (.Name x px) "extend" apos) [e] [] pos) p :: rest) B.env) Q E s := by
  have w := S.own _ rfl
  refine wpAny_execs_cons (wpAny_Expr_any ?_ hi hs)
  refine wpAny_Call_method_lateS hb (by rw [hse]; rfl) hl (at_eval S w.at' ?_ hd)
  obtain ⟨vs, ⟨n, hp⟩, hall⟩ := w.lst
  refine ⟨"list", "list.extend", PySem.F.plainAttrs_list, PySem.F.slot_list_extend, PySem.F.type_list_extend, ⟨_, hp, rfl⟩, fun a e => by cases e; exact ⟨_, hp, rfl⟩, ?_⟩
  rw [hse]
  refine PySem.seqMethod1_meets PySem.F.slot_list_extend PySem.F.entry_list_extend (wpAny_mono (he s E S.pre) (fun v s' h' => ?_) fun _ _ e => e)
  have k := h'.1
  have S' := S.keep k
  have hp' := (kpH k) _ _ hp
  obtain ⟨_, hv⟩ := h'
  cases hv with
  | @list b ws _ nb lb rb =>
    obtain ⟨⟨cls, dd, data, sl⟩, ho, hc, n2, hd2⟩ := id lb
    simp only at hc hd2
    subst hc hd2
    have s1 : vs.toArray.size = ds.length := by rw [List.size_toArray]; exact hall.length
    have s2 : ws.toArray.size = es.length := by rw [List.size_toArray]; exact rb.length
    refine ⟨⟨_, hp', rfl⟩, PySem.F.args_list_extend_2 _ _, _, list_extendW l vs.toArray n b ws.toArray n2 dd sl ?_ (by rw [s1, sizeLine_eq]; omega) (by rw [s1, s2, sizeLine_eq]; omega), hp', ho, ?_⟩
    · rw [s1, s2]
      have q : Builtin.List.listTooLong (ds.length + es.length) = false := by
        unfold Builtin.List.listTooLong
        rw [sizeLine_eq]
        simp
        omega
      rw [q, Bool.and_false]
      exact Bool.false_ne_true
    refine h _ (own_turn S' (Heap.SameBut.update ..) ⟨s'.toks, rfl⟩ ⟨vs ++ ws, ?_, ?_⟩)
    · have q := PySem.IsL.update (h := s'.heap) hp' (fun xs => xs ++ ws.toArray)
      have e : vs.toArray ++ ws.toArray = (vs ++ ws).toArray := by simp
      exact ⟨_, by rw [← e]; exact q⟩
    · exact (hall.up (Up.keep (kpH k))).append rb

theorem ex_own {x : Str} {px pl pos : Pos} (S : St B sin K Y ρ none s) (hx : Slot B.env x) (hρ : ρ.lookup x = none)
    (h : ∀ s' l, l ∉ B.X → St B sin K (l :: Y) ρ (some ⟨x, l, []⟩) s' → wpAny (model B.prog B.w) B.A (execs rest B.env) Q E s') (hs : swapsWith (.List [] pl) (some (.Name x px)) pos.line B.env = pure false := by rfl) :
    wpAny (model B.prog B.w) B.A (execs (.Assign [.Name x px] (.List [] pl) pos :: rest) B.env) Q E s := by
  refine wpAny_execs_cons (wpAny_Assign_Name (List_ (args_nil (wpAny_newList ?_ (by rw [sizeLine_eq]; exact Nat.zero_le _)))) hs)
  have S' := st_alloc S { cls := .type "list", data := .seq ([] : List Value).toArray }
  have new : ∀ a ob, s.heap.get? a = some ob → s.heap.objs.size ≠ a := fun a ob e w => absurd (Heap.lt_size e) (by rw [← w]; exact Nat.lt_irrefl _)
  refine own_new S' hx hρ ⟨0, Heap.get?_push_size _ rfl⟩ (.head _) (fun q w => new _ _ (S.kept _ _ w) rfl) ?_ (fun y c e => ?_) fun s' S'' => h s' _ ?_ S''
  · obtain ⟨m, ob, es, ep, e, _⟩ := S.ns
    exact new _ _ e
  · obtain ⟨_, _, _, v, ob, e, _⟩ := S.cel y c e
    exact new _ _ e
  · intro m
    obtain ⟨ob, e⟩ := S.pre.liv s.heap.objs.size (List.mem_append.mpr (.inr m))
    exact new _ _ e rfl

/-- one object more stays as it is -/
theorem St.also {b : Addr} {q : Obj} (S : St B sin K Y ρ o s) (e : s.heap.get? b = some q) (hL : b ≠ B.env.locals) (hC : ∀ y c, B.env.cells.lookup y = some c → b ≠ c) (ho : ∀ z, o = some z → z.at_ ≠ b) : St B sin (fun a x => K a x ∨ (a = b ∧ x = q)) Y ρ o s where
  pre := S.pre
  same := S.same
  kept := fun a x k => k.elim (S.kept a x) fun w => by rw [w.1, w.2]; exact e
  loc := S.loc
  off := fun x k => k.elim (S.off x) fun w => hL w.1.symm
  ns := S.ns
  cel := fun y c h => let ⟨a, b, d, r⟩ := S.cel y c h; ⟨a, b, fun x k => k.elim (d x) fun w => hC y c h w.1.symm, r⟩
  inj := S.inj
  own := fun z h => let w := S.own z h; ⟨w.at', w.bar, fun x k => k.elim (w.off x) fun v => ho z h v.1, w.loc, w.cel, w.lst⟩
  low := fun a x h => .inl (S.low a x h)
  old := fun a x h => .inl (S.old a x h)
theorem St.less {K' : Addr → Obj → Prop} (S : St B sin K Y ρ o s) (k : ∀ b x, K' b x → K b x) (low : ∀ b x, B.hB.get? b = some x → K' b x) (old : ∀ b x, sin.heap.get? b = some x → K' b x) : St B sin K' Y ρ o s where
  pre := S.pre
  same := S.same
  kept := fun a x q => S.kept a x (k a x q)
  loc := S.loc
  off := fun x q => S.off x (k _ x q)
  ns := S.ns
  cel := fun y c h => let ⟨a, b, d, r⟩ := S.cel y c h; ⟨a, b, fun x q => d x (k _ x q), r⟩
  inj := S.inj
  own := fun z h => let w := S.own z h; ⟨w.at', w.bar, fun x q => w.off x (k _ x q), w.loc, w.cel, w.lst⟩
  low := low
  old := old

theorem ex_ownPair {x y : Str} {b : Expr} {e : PyData} {px py pt pl pv pos : Pos} {k k' : Nat} (S : St B sin K Y ρ none s) (hb : ∀ Y, Ev (B.on Y) ρ b e) (hx : Slot B.env x) (hy : Slot B.env y) (hρ : ρ.lookup x = none) (hxy : x ≠ y)
    (h : ∀ s' l, l ∉ B.X → St B sin K (l :: Y) ((y, e) :: ρ) (some ⟨x, l, []⟩) s' → wpAny (model B.prog B.w) B.A (execs rest B.env) Q E s')
    (hse : starEach [.List [] pl, b] B.env = [(false, eval (.List [] pl) B.env), (false, eval b B.env)] := by rfl)
    (hs : swapsWithSole [.Tuple [.Name x px, .Name y py] k pt] (.Tuple [.List [] pl, b] k' pv) pos.line B.env = pure false := by rfl) (hw : swappedStores [.Tuple [.Name x px, .Name y py] k pt] (.Tuple [.List [] pl, b] k' pv) B.env = pure (some [x, y]) := by rfl) :
    wpAny (model B.prog B.w) B.A (execs (.Assign [.Tuple [.Name x px, .Name y py] k pt] (.Tuple [.List [] pl, b] k' pv) pos :: rest) B.env) Q E s := by
  refine wpAny_execs_cons (PyProof.Rows.Assign_Tuple_swapped (Tuple_ ?_) hs hw)
  rw [hse]
  refine Calls.spliced_cons (List_ (args_nil (wpAny_newList ?_ (by rw [sizeLine_eq]; exact Nat.zero_le _))))
  have S₁ := st_alloc S { cls := .type "list", data := .seq ([] : List Value).toArray }
  have new : ∀ a ob, s.heap.get? a = some ob → s.heap.objs.size ≠ a := fun a ob e w => absurd (Heap.lt_size e) (by rw [← w]; exact Nat.lt_irrefl _)
  refine Calls.spliced_cons (wpAny_mono (hb _ _ E S₁.pre) (fun v s₂ h₂ => Calls.spliced_nil ?_) fun _ _ e => e)
  have S₂ := S₁.keep h₂.1
  refine wpAny_newTuple (hsz := by rw [sizeLine_eq]; show 2 ≤ _; omega) ?_
  have k₃ : Keeps s₂ { s₂ with heap := s₂.heap.push { cls := .type "tuple", data := .seq [Value.ref s.heap.objs.size, v].toArray } } := ⟨_, s₂.toks, rfl, fun b o e => Heap.get?_push_of_some _ e⟩
  have S₃ := S₂.keep k₃
  refine unpack2 S.pre.ok.good.handled ⟨_, Heap.get?_push_size _ rfl, rfl, _, rfl⟩ fun h' hx' => ?_
  have k₄ : Keeps { s₂ with heap := s₂.heap.push { cls := .type "tuple", data := .seq [Value.ref s.heap.objs.size, v].toArray } } { s₂ with heap := h' } := ⟨h', s₂.toks, rfl, fun b o e => hx' b o (Nat.ne_of_lt (Heap.lt_size e)) e⟩
  have S₄ := S₃.keep k₄
  have kk := keeps_trans h₂.1 (keeps_trans k₃ k₄)
  have hl₄ := (kpH kk) _ _ (Heap.get?_push_size s.heap (o := { cls := .type "list", data := .seq ([] : List Value).toArray }) rfl)
  have nl : s.heap.objs.size ≠ B.env.locals := let ⟨m, ob, es, ep, e, _⟩ := S.ns; new _ _ e
  have nc : ∀ y c, B.env.cells.lookup y = some c → s.heap.objs.size ≠ c := fun y c e => let ⟨_, _, _, v, ob, e, _⟩ := S.cel y c e; new _ _ e
  have nk : ∀ q, ¬ K s.heap.objs.size q := fun q w => new _ _ (S.kept _ _ w) rfl
  show wpAny _ _ (do holding [Value.ref s.heap.objs.size] (bindName B.env y v); do holding [] (bindName B.env x (.ref s.heap.objs.size)); pure ()) _ _ _
  refine wpAny_bind (wpAny_holding (wpAny_bindName (st_store (S₄.also hl₄ nl nc fun z e => (nomatch e)) hy (h₂.2.up (Up.keep (kpH (keeps_trans k₃ k₄)))) (fun q e => (nomatch e)) fun s₅ S₅ u₅ => ?_)))
  have hl₅ := S₅.kept _ _ (.inr ⟨rfl, rfl⟩)
  have S₅ := S₅.less (K' := K) (fun b x k => .inl k) S.low S.old
  refine wpAny_bind (wpAny_holding (wpAny_bindName (own_new S₅ hx ?_ ⟨0, hl₅⟩ (.head _) nk nl nc fun s₆ S₆ => wpAny_pure (h s₆ _ ?_ S₆))))
  · rw [List.lookup_cons]
    have : (x == y) = false := by simpa using hxy
    rw [this]; exact hρ
  · intro m
    obtain ⟨ob, e⟩ := S.pre.liv s.heap.objs.size (List.mem_append.mpr (.inr m))
    exact new _ _ e rfl
end
end Mine
end

section
set_option maxRecDepth 100000
namespace Mine

noncomputable def KpOff (W : List Addr) (g h : Heap) : Prop := ∀ b o, b ∉ W → g.get? b = some o → h.get? b = some o
theorem KpOff.trans {W : List Addr} {g h k : Heap} (a : KpOff W g h) (b : KpOff W h k) : KpOff W g k := fun x o n e => b x o n (a x o n e)
theorem Kp.to {W : List Addr} {g h : Heap} (k : Kp g h) : KpOff W g h := fun b o _ e => k b o e

/-- an iterator that hands on data -/
structure Turns (C : Cx) (target : Expr) (I : Addr) (fp wr : List Addr) (ds : List PyData) (h₂ : Heap) (Z : Nat → Heap → Prop) : Prop where
  sub : ∀ b ∈ wr, b ∈ fp
  frame : ∀ i h h', Z i h → (∀ b ∈ fp, ∀ o, h.get? b = some o → h'.get? b = some o) → Z i h'
  off : ∀ b ∈ fp, b ∉ C.X
  live : ∀ i h, Z i h → ∀ b ∈ wr, ∃ o, h.get? b = some o
  turn : ∀ i d (s : Shared) (Q : Value → Shared → Prop) (E : Value → Shared → Prop), ds[i]? = some d → Z i s.heap → (∀ a ∈ C.X, ∃ o, s.heap.get? a = some o) → KpOff (wr ++ C.X) h₂ s.heap →
    (∀ v h' tk, Is (wr ++ C.X) h' v d → Z (i + 1) h' → KpOff wr s.heap h' → Q v { s with heap := h', toks := tk }) →
    wpAny (model C.prog C.w) C.A (pyNext (.ref I)) (fun r s₁ => ∃ v, r = some v ∧ wpAny (model C.prog C.w) C.A (letOwnedTupleGo target (.ref I) v) (fun _ s₂ => Q v s₂) E s₁) E s
  done : ∀ (s : Shared) (Q : Option Value → Shared → Prop) (E : Value → Shared → Prop), Z ds.length s.heap → (∀ h' tk, KpOff wr s.heap h' → Q none { s with heap := h', toks := tk }) → wpAny (model C.prog C.w) C.A (pyNext (.ref I)) Q E s

noncomputable def TSrc (C : Cx) (ρ : List (Str × PyData)) (target iter : Expr) (ds : List PyData) : Prop :=
  ∀ (s : Shared) (E : Value → Shared → Prop), Pre C ρ s → wpAny (model C.prog C.w) C.A (eval iter C.env) (fun xv s₁ => wpAny (model C.prog C.w) C.A (pyIter xv) (fun it s₂ =>
    ∃ I fp wr Z, it = .ref I ∧ Turns C target I fp wr ds s₂.heap Z ∧ Z 0 s₂.heap ∧ (∀ b ∈ wr, s.heap.get? b = none) ∧ Keeps s s₂) E s₁) E s

/-- a value of this datum goes into the target's names -/
noncomputable def Tg (B : Cx) (target : Expr) (xs : List Str) (d : PyData) (f : List (Str × PyData)) : Prop :=
  ∀ {sin : Shared} {K : Addr → Obj → Prop} {Y : List Addr} {ρ : List (Str × PyData)} {o : Option Own} {s : Shared} {v : Value} {Q : Unit → Shared → Prop} {E : Value → Shared → Prop},
    St B sin K Y ρ o s → Is (Y ++ B.X) s.heap v d → (∀ q, o = some q → q.name ∉ xs) → (∀ s', St B sin K Y (f ++ ρ) o s' → Q () s') → wpAny (model B.prog B.w) B.A (assign target B.env v) Q E s

section
variable {B : Cx} {sin s : Shared} {K : Addr → Obj → Prop} {Y : List Addr} {ρ : List (Str × PyData)} {o : Option Own} {E : Value → Shared → Prop} {Q : Flow → Shared → Prop} {rest : List Stmt}

theorem tg_name {x : Str} {px : Pos} {d : PyData} (hx : Slot B.env x) : Tg B (.Name x px) [x] d [(x, d)] := fun S hv ho h =>
  wpAny_assign_Name (st_store S hx hv (fun q e w => ho q e (by rw [w]; exact List.mem_singleton.mpr rfl)) fun s' S' _ => h s' S')
theorem tg_two {x y : Str} {px py pt : Pos} {k : Nat} {d e : PyData} (hx : Slot B.env x) (hy : Slot B.env y) : Tg B (.Tuple [.Name x px, .Name y py] k pt) [x, y] (.tuple [d, e]) [(y, e), (x, d)] := fun S hv ho h =>
  asg_two S hv hx hy (fun q e => ⟨fun w => ho q e (by rw [w]; simp), fun w => ho q e (by rw [w]; simp)⟩) fun s' S' _ => h s' S'

/-- more objects that stay -/
theorem St.stay {W : Addr → Obj → Prop} (S : St B sin K Y ρ o s) (e : ∀ a x, W a x → s.heap.get? a = some x ∧ a ≠ B.env.locals ∧ (∀ y c, B.env.cells.lookup y = some c → a ≠ c) ∧ ∀ z, o = some z → a ≠ z.at_) : St B sin (fun a x => K a x ∨ W a x) Y ρ o s where
  pre := S.pre
  same := S.same
  kept := fun a x k => k.elim (S.kept a x) fun w => (e a x w).1
  loc := S.loc
  off := fun x k => k.elim (S.off x) fun w => (e _ _ w).2.1 rfl
  ns := S.ns
  cel := fun y c h => let ⟨a, b, d, r⟩ := S.cel y c h; ⟨a, b, fun x k => k.elim (d x) fun w => (e _ _ w).2.2.1 y c h rfl, r⟩
  inj := S.inj
  own := fun z h => let w := S.own z h; ⟨w.at', w.bar, fun x k => k.elim (w.off x) fun v => (e _ _ v).2.2.2 z h rfl, w.loc, w.cel, w.lst⟩
  low := fun a x h => .inl (S.low a x h)
  old := fun a x h => .inl (S.old a x h)

/-- new addresses are barred -/
theorem St.bar {wr : List Addr} {s' : Shared} (S : St B sin K Y ρ o s) (k : Keeps s s') (f : ∀ b ∈ wr, s.heap.get? b = none) (l : ∀ b ∈ wr, ∃ o, s'.heap.get? b = some o) : St B sin K (wr ++ Y) ρ o s' := by
  have S' := S.keep k
  have up : Up (Y ++ B.X) s.heap ((wr ++ Y) ++ B.X) s'.heap := fun a q n e =>
    ⟨fun m => by
      rw [List.append_assoc] at m
      rcases List.mem_append.mp m with m | m
      · rw [f a m] at e; cases e
      · exact n m, (kpH k) _ _ e⟩
  refine ⟨⟨S.pre.ok.on, S'.pre.base, fun a m => ?_, fun x d e => let ⟨v, p, q⟩ := S.pre.vars x d e; ⟨v, p.keep (kpH k), q.up up⟩⟩,
    S'.same, S'.kept, List.mem_append.mpr (.inr S.loc), S.off, S'.ns, fun y c e => let ⟨a, b⟩ := S'.cel y c e; ⟨List.mem_append.mpr (.inr a), b⟩, S.inj, fun q e => ?_, S.low, S.old⟩
  · have m : a ∈ (wr ++ Y) ++ B.X := m
    rw [List.append_assoc] at m
    rcases List.mem_append.mp m with m | m
    · exact l a m
    · exact S'.pre.liv a m
  · have w' := S'.own q e
    exact ⟨w'.at', List.mem_append.mpr (.inr w'.bar), w'.off, w'.loc, w'.cel, let ⟨vs, p, r⟩ := (S.own q e).lst; ⟨vs, let ⟨n, z⟩ := p; ⟨n, (kpH k) _ _ z⟩, r.up up⟩⟩

/-- what lies at barred addresses, other than the names', has turned -/
theorem St.turn {wr : List Addr} {s' : Shared} (S : St B sin K Y ρ o s) (hw : ∀ b ∈ wr, b ∈ Y ∧ (∀ q, ¬ K b q) ∧ b ≠ B.env.locals ∧ (∀ y c, B.env.cells.lookup y = some c → b ≠ c) ∧ (∀ q, o = some q → b ≠ q.at_) ∧ ∃ ob, s'.heap.get? b = some ob)
    (k : KpOff wr s.heap s'.heap) (e : ∃ tk, s' = { s with heap := s'.heap, toks := tk }) : St B sin K Y ρ o s' := by
  have up : Up (Y ++ B.X) s.heap (Y ++ B.X) s'.heap := Up.mod (W := wr) (fun b hb => List.mem_append.mpr (.inl (hw b hb).1)) k
  have hL : B.env.locals ∉ wr := fun m => (hw _ m).2.2.1 rfl
  have hC : ∀ y c, B.env.cells.lookup y = some c → c ∉ wr := fun y c e m => (hw _ m).2.2.2.1 y c e rfl
  have hK : ∀ b q, K b q → b ∉ wr := fun b q z m => (hw b m).2.1 q z
  have at2 : ∀ y u, At B.env s.heap y u → At B.env s'.heap y u := by
    intro y u a
    rcases a with ⟨a1, m1, ⟨ob, es, ep, e, r⟩, e1⟩ | ⟨a1, c', e1, ob, e2, e3⟩
    · exact .inl ⟨a1, m1, ⟨ob, es, ep, k _ _ hL e, r⟩, e1⟩
    · exact .inr ⟨a1, c', e1, ob, k _ _ (hC y c' e1) e2, e3⟩
  refine ⟨⟨S.pre.ok, fun b q z => k b q (hK b q (S.low b q z)) (S.pre.base b q z), fun b m => ?_, fun y d hy => let ⟨u, p, r⟩ := S.pre.vars y d hy; ⟨u, at2 y u p, r.up up⟩⟩, ?_, fun b x q => k b x (hK b x q) (S.kept b x q), S.loc, S.off,
    let ⟨m, ob, es, ep, e, r⟩ := S.ns; ⟨m, ob, es, ep, k _ _ hL e, r⟩, fun y c hc => let ⟨a1, a2, a3, v, ob, e2, e3⟩ := S.cel y c hc; ⟨a1, a2, a3, v, ob, k _ _ (hC y c hc) e2, e3⟩, S.inj, fun q hq => ?_, S.low, S.old⟩
  · by_cases q : b ∈ wr
    · exact (hw b q).2.2.2.2.2
    · obtain ⟨ob, z⟩ := S.pre.liv b m
      exact ⟨ob, k b ob q z⟩
  · obtain ⟨h, tk, rfl⟩ := S.same
    obtain ⟨tk', e⟩ := e
    exact ⟨s'.heap, tk', e⟩
  · have w := S.own q hq
    obtain ⟨vs, ⟨n, z⟩, r⟩ := w.lst
    exact ⟨at2 _ _ w.at', w.bar, w.off, w.loc, w.cel, vs, ⟨n, k _ _ (fun m => (hw _ m).2.2.2.2.1 q hq rfl) z⟩, r.up up⟩

/-- what was barred for a while is let go -/
theorem St.free {wr : List Addr} {s' : Shared} (S : St B sin K (wr ++ Y) ρ o s) (hl : B.env.locals ∈ Y) (hc : ∀ y c, B.env.cells.lookup y = some c → c ∈ Y) (ho : ∀ q, o = some q → q.at_ ∈ Y)
    (hw : ∀ b ∈ wr, b ∉ Y ++ B.X ∧ (∀ q, ¬ K b q))
    (k : KpOff wr s.heap s'.heap) (e : ∃ tk, s' = { s with heap := s'.heap, toks := tk }) : St B sin K Y ρ o s' := by
  have up : Up ((wr ++ Y) ++ B.X) s.heap (Y ++ B.X) s'.heap := fun a q n e =>
    ⟨fun m => n (by rw [List.append_assoc]; exact List.mem_append.mpr (.inr m)), k a q (fun m => n (by rw [List.append_assoc]; exact List.mem_append.mpr (.inl m))) e⟩
  have nY : ∀ b, b ∈ Y → b ∉ wr := fun b m q => (hw b q).1 (List.mem_append.mpr (.inl m))
  have hL := nY _ hl
  have hC := fun y c e => nY _ (hc y c e)
  have hK : ∀ b q, K b q → b ∉ wr := fun b q z m => (hw b m).2 q z
  have at2 : ∀ y u, At B.env s.heap y u → At B.env s'.heap y u := by
    intro y u a
    rcases a with ⟨a1, m1, ⟨ob, es, ep, e, r⟩, e1⟩ | ⟨a1, c', e1, ob, e2, e3⟩
    · exact .inl ⟨a1, m1, ⟨ob, es, ep, k _ _ hL e, r⟩, e1⟩
    · exact .inr ⟨a1, c', e1, ob, k _ _ (hC y c' e1) e2, e3⟩
  refine ⟨⟨S.pre.ok.on, fun b q z => k b q (hK b q (S.low b q z)) (S.pre.base b q z), fun b m => ?_, fun y d hy => let ⟨u, p, r⟩ := S.pre.vars y d hy; ⟨u, at2 y u p, r.up up⟩⟩, ?_, fun b x q => k b x (hK b x q) (S.kept b x q), hl, S.off,
    let ⟨m, ob, es, ep, e, r⟩ := S.ns; ⟨m, ob, es, ep, k _ _ hL e, r⟩, fun y c e => let ⟨_, a2, a3, v, ob, e2, e3⟩ := S.cel y c e; ⟨hc y c e, a2, a3, v, ob, k _ _ (hC y c e) e2, e3⟩, S.inj, fun q hq => ?_, S.low, S.old⟩
  · have m : b ∈ Y ++ B.X := m
    obtain ⟨ob, z⟩ := S.pre.liv b (by show b ∈ (wr ++ Y) ++ B.X; rw [List.append_assoc]; exact List.mem_append.mpr (.inr m))
    exact ⟨ob, k b ob (fun q => (hw b q).1 m) z⟩
  · obtain ⟨h, tk, rfl⟩ := S.same
    obtain ⟨tk', e⟩ := e
    exact ⟨s'.heap, tk', e⟩
  · have w := S.own q hq
    obtain ⟨vs, ⟨n, z⟩, r⟩ := w.lst
    exact ⟨at2 _ _ w.at', ho q hq, w.off, w.loc, w.cel, vs, ⟨n, k _ _ (nY _ (ho q hq)) z⟩, r.up up⟩

/-- what a turn of a loop leaves -/
noncomputable def LP {σ : Type} (B : Cx) (sin : Shared) (K : Addr → Obj → Prop) (Y : List Addr) (R : σ → List (Str × PyData)) (O : σ → Option Own) (inv : σ → Prop) (Q : Flow → Shared → Prop) : Flow → Shared → Prop := fun f s' => match f with
  | .next => ∃ x, inv x ∧ St B sin K Y (R x) (O x) s'
  | .cont => ∃ x, inv x ∧ St B sin K Y (R x) (O x) s'
  | .brk => False
  | .ret v => Q (.ret v) s'

theorem ex_for {σ : Type} {target iter : Expr} {body : List Stmt} {pos : Pos} {ds : List PyData} {xs : List Str} {f : PyData → List (Str × PyData)} (R : σ → List (Str × PyData)) (O : σ → Option Own) (inv : Nat → σ → Prop) (x₀ : σ)
    (S : St B sin K Y ρ o s) (src : TSrc (B.on Y) ρ target iter ds) (tg : ∀ d ∈ ds, Tg B target xs d (f d)) (h0 : inv 0 x₀) (hρ : Sub (R x₀) ρ) (hO : O x₀ = o) (hn : ∀ x q, O x = some q → q.name ∉ xs) (hat : ∀ x q, O x = some q → ∃ p, o = some p ∧ p.at_ = q.at_)
    (step : ∀ wr K' i x d s', (∀ b x, K b x → K' b x) → ds[i]? = some d → inv i x → St B sin K' (wr ++ Y) (f d ++ R x) (O x) s' →
      wpAny (model B.prog B.w) B.A (execs body B.env) (LP B sin K' (wr ++ Y) R O (inv (i + 1)) Q) (notedBy (model B.prog B.w) B.A B.env fun e s' => cameBackBy (model B.prog B.w) B.A B.env E e s') s')
    (fin : ∀ x s', inv ds.length x → St B sin K Y (R x) (O x) s' → wpAny (model B.prog B.w) B.A (execs rest B.env) Q E s')
    (hs : ∀ x, foldedSetIterable iter B.env x = pure x := by intro _; rfl) :
    wpAny (model B.prog B.w) B.A (execs (.For target iter body [] pos :: rest) B.env) Q E s := by
  refine wpAny_execs_cons (wpAny_For (wpAny_mono (src s E S.pre) (fun xv s₁ h₁ => wpAny_mono h₁ (fun it s₂ h₂ => ?_) fun _ _ e => e) fun _ _ e => e) hs)
  obtain ⟨I, fp, wr, Z, rfl, T, z0, hf, k⟩ := h₂
  have S₂ := (S.bar k hf (T.live 0 _ z0)).weak (Sub.at hρ)
  have offY : ∀ b ∈ fp, b ∉ Y ++ B.X := T.off
  have nK : ∀ b ∈ wr, ∀ q, ¬ K b q := fun b m q z => by have := S.kept b q z; rw [hf b m] at this; cases this
  have wo : ∀ b ∈ wr, ∀ x q, O x = some q → b ≠ q.at_ := fun b m x q e w => by
    obtain ⟨p, e1, e2⟩ := hat x q e
    exact offY b (T.sub b m) (List.mem_append.mpr (.inl (by rw [w, ← e2]; exact (S.own p e1).bar)))
  have wl : ∀ b ∈ wr, b ≠ B.env.locals ∧ (∀ y c, B.env.cells.lookup y = some c → b ≠ c) := fun b m =>
    ⟨fun w => offY b (T.sub b m) (List.mem_append.mpr (.inl (w ▸ S.loc))), fun y c e w => offY b (T.sub b m) (List.mem_append.mpr (.inl (w ▸ (S.cel y c e).1)))⟩
  refine codeAny_forLoop_any (fun k s' => ∃ i x, k = ds.length + 1 - i ∧ i ≤ ds.length ∧ inv i x ∧ Z i s'.heap ∧ St B sin K (wr ++ Y) (R x) (O x) s' ∧ KpOff (wr ++ (Y ++ B.X)) s₂.heap s'.heap) ?_ (ds.length + 1) ⟨0, x₀, rfl, Nat.zero_le _, h0, z0, by rw [hO]; exact S₂, Kp.to fun _ _ e => e⟩
  rintro n s' ⟨i, x, rfl, hi, hx, z, S', kk⟩
  have liv : ∀ a ∈ Y ++ B.X, ∃ o, s'.heap.get? a = some o := fun a m => S'.pre.liv a (by show a ∈ (wr ++ Y) ++ B.X; rw [List.append_assoc]; exact List.mem_append.mpr (.inr m))
  by_cases hlt : i < ds.length
  · have hd : ds[i]? = some ds[i] := List.getElem?_eq_getElem hlt
    let I' : Nat → Shared → Prop := fun k s' => ∃ i x, k = ds.length + 1 - i ∧ i ≤ ds.length ∧ inv i x ∧ Z i s'.heap ∧ St B sin K (wr ++ Y) (R x) (O x) s' ∧ KpOff (wr ++ (Y ++ B.X)) s₂.heap s'.heap
    let E' : Value → Shared → Prop := notedBy (model B.prog B.w) B.A B.env fun e s' => cameBackBy (model B.prog B.w) B.A B.env E e s'
    let Q' : Value → Shared → Prop := fun v s₁' => wpAny (model B.prog B.w) B.A (assign target B.env v) (fun _ s₂ => wpAny (model B.prog B.w) B.A (execs body B.env) (fun f s₃ => match f with
            | .next | .cont => ∃ m, m < ds.length + 1 - i ∧ I' m s₃
            | .brk => Then B rest Q E .next s₃
            | .ret v => Then B rest Q E (.ret v) s₃) E' s₂) E' s₁'
    refine wpAny_mono (T.turn i _ s' Q' E' hd z liv kk fun v h' tk hv z' k' => ?_) (fun r s₁ h₁ => ?_) fun _ _ e => e
    rotate_left 1
    · obtain ⟨v, rfl, h₁⟩ := h₁
      exact h₁
    · show wpAny _ _ (assign target B.env v) _ _ _
      have S₃ : St B sin K (wr ++ Y) (R x) (O x) { s' with heap := h', toks := tk } := S'.turn (fun b m => ⟨List.mem_append.mpr (.inl m), nK b m, (wl b m).1, (wl b m).2, fun q e => wo b m x q e, T.live _ _ z' b m⟩) k' ⟨tk, rfl⟩
      have kk' : KpOff (wr ++ (Y ++ B.X)) s₂.heap h' := fun b q n e => k' b q (fun m => n (List.mem_append.mpr (.inl m))) (kk b q n e)
      have hY : ∀ a, a ∉ Y ++ B.X → a ≠ B.env.locals ∧ (∀ y c, B.env.cells.lookup y = some c → a ≠ c) ∧ ∀ z, O x = some z → a ≠ z.at_ := fun a n =>
        ⟨fun w => n (List.mem_append.mpr (.inl (w ▸ S.loc))), fun y c e w => n (List.mem_append.mpr (.inl (w ▸ (S.cel y c e).1))), fun z e w => by
          obtain ⟨p, e1, e2⟩ := hat x z e
          exact n (List.mem_append.mpr (.inl (by rw [w, ← e2]; exact (S.own p e1).bar)))⟩
      have S₄ := S₃.stay (W := fun a x => a ∉ Y ++ B.X ∧ h'.get? a = some x) fun a x w => ⟨w.2, hY a w.1⟩
      have hv' : Is ((wr ++ Y) ++ B.X) h' v ds[i] := by rw [List.append_assoc]; exact hv
      refine tg _ (List.getElem_mem hlt) S₄ hv' (fun q e => hn x q e) fun s₄ S₅ => ?_
      refine wpAny_mono (step wr _ i x _ s₄ (fun b x k => .inl k) hd hx S₅) (fun g s₅ hg => ?_) fun _ _ e => e
      have fin : (∃ x, inv (i + 1) x ∧ St B sin (fun a x => K a x ∨ (a ∉ Y ++ B.X ∧ h'.get? a = some x)) (wr ++ Y) (R x) (O x) s₅) → ∃ m, m < ds.length + 1 - i ∧ I' m s₅ := by
        rintro ⟨x', hx', S₆⟩
        refine ⟨ds.length + 1 - (i + 1), by omega, i + 1, x', rfl, hlt, hx', T.frame _ _ _ z' fun b hb q e => ?_, S₆.less (fun b x k => .inl k) S.low S.old, fun b q n e => ?_⟩
        · exact S₆.kept b q (.inr ⟨offY b hb, e⟩)
        · exact S₆.kept b q (.inr ⟨fun m => n (List.mem_append.mpr (.inr m)), kk' b q n e⟩)
      cases g with
      | next => exact fin hg
      | cont => exact fin hg
      | brk => exact hg.elim
      | ret v => exact hg
  · have e : i = ds.length := by omega
    subst e
    refine T.done _ _ _ z fun h' tk k' => wpAny_execs_nil ?_
    exact fin x _ hx (S'.free S.loc (fun y c e => (S.cel y c e).1) (fun q e => let ⟨p, e1, e2⟩ := hat x q e; by rw [← e2]; exact (S.own p e1).bar) (fun b m => ⟨offY b (T.sub b m), nK b m⟩) k' ⟨tk, rfl⟩)
end
end Mine
end

section
set_option maxRecDepth 100000
namespace Mine

theorem Turns.ofT {C : Cx} {elts : List Expr} {k : Nat} {pos : Pos} {I : Addr} {fp wr : List Addr} {ds : List PyData} {h₂ : Heap} {Pt : Nat → Array Value → Prop} {Z : Nat → Heap → Prop} {Mid : Nat → Addr → Heap → Prop}
    (W : WalksT C.prog C.w C.A I fp wr ds.length Pt Z Mid) (off : ∀ b ∈ fp, b ∉ C.X) (live : ∀ i h, Z i h → ∀ b ∈ wr, ∃ o, h.get? b = some o)
    (hP : ∀ i vals d, Pt i vals → ds[i]? = some d → ∃ dl, d = .tuple dl ∧ ∀ h', KpOff (wr ++ C.X) h₂ h' → IsAll (wr ++ C.X) h' vals.toList dl) :
    Turns C (.Tuple elts k pos) I fp wr ds h₂ Z where
  sub := W.sub
  frame := W.frame
  off := off
  live := live
  turn := fun i d s Q E hd z lX kk hQ => by
    have hi : i < ds.length := (List.getElem?_eq_some_iff.mp hd).1
    refine W.item i s _ E hi z fun T vals h' tk hp hsz hT hm hk => ⟨_, rfl, ?_⟩
    obtain ⟨dl, rfl, hall⟩ := hP i vals d hp hd
    refine W.go elts k pos i T _ _ E hm fun h'' z'' hk' => ?_
    have hTw : T ∉ wr := W.apart i T _ hm
    have hTX : T ∉ C.X := fun m => by
      obtain ⟨o, e⟩ := lX T m
      exact absurd (Heap.lt_size e) (Nat.not_lt.mpr hsz)
    have kk2 : KpOff wr s.heap h'' := fun b o n e => hk' b o n (hk b o n e)
    refine hQ (.ref T) h'' tk ?_ z'' kk2
    refine .tuple (fun m => (List.mem_append.mp m).elim hTw hTX) (vs := vals.toList) ?_ (hall h'' fun b o n e => kk2 b o (fun m => n (List.mem_append.mpr (.inl m))) (kk b o n e))
    obtain ⟨o, e, r⟩ := hT
    exact ⟨o, hk' _ _ hTw e, r⟩
  done := fun s Q E z hQ => W.done s Q E z hQ

section
variable {C : Cx} {ρ : List (Str × PyData)}

theorem tsrc_list {target iter : Expr} {xs : List PyData} (h : Ev C ρ iter (.list xs)) : TSrc C ρ target iter xs := by
  intro s E P
  refine wpAny_mono (h s E P) (fun v s₁ h₁ => ?_) fun _ _ e => e
  obtain ⟨k, q⟩ := h₁
  cases q with
  | @list a vs _ n l r =>
    refine wpAny_pyIter_list l ?_
    have hz : vs.toArray.size = xs.length := by rw [List.size_toArray, r.length]
    have hal : a < s₁.heap.objs.size := let ⟨_, e, _⟩ := l; Heap.lt_size e
    have W := Walks.list (prog := C.prog) (w := C.w) P.ok.good.handled s₁.heap.objs.size a (Nat.ne_of_lt hal) vs.toArray
    rw [hz] at W
    refine ⟨_, _, _, _, rfl, ⟨W.sub, W.frame, ?_, ?_, ?_, W.done⟩, ⟨⟨_, Heap.get?_push_size _ rfl, rfl, rfl⟩, l.push _⟩, ?_, keeps_trans k (keeps_push s₁ _ _)⟩
    · intro b hb
      rcases List.mem_cons.mp hb with rfl | hb
      · exact (P.keep k).new (Nat.le_refl _)
      · rw [List.mem_singleton.mp hb]; exact n
    · rintro i h ⟨⟨o, e, _⟩, _⟩ b hb
      rw [List.mem_singleton.mp hb]
      exact ⟨o, e⟩
    · intro i d s Q E hd z lX kk hQ
      have hi : i < xs.length := (List.getElem?_eq_some_iff.mp hd).1
      refine W.item i s _ E hi z fun v h' tk hp z' hk => ⟨_, rfl, ?_⟩
      obtain ⟨d', e', q⟩ := r.getv (k := i) (v := v) (by simpa using hp)
      rw [hd] at e'
      cases e'
      refine letGo_listiter z'.1 (hQ v h' tk ?_ z' hk)
      refine (q.up (X' := [s₁.heap.objs.size] ++ C.X) (h' := h') fun b o n e => ?_)
      have n' : b ∉ [s₁.heap.objs.size] ++ C.X := fun m => (List.mem_append.mp m).elim (fun m => absurd (Heap.lt_size e) (by rw [List.mem_singleton.mp m]; exact Nat.lt_irrefl _)) n
      exact ⟨n', hk b o (fun m => n' (List.mem_append.mpr (.inl m))) (kk b o n' (Heap.get?_push_of_some _ e))⟩
    · intro b hb
      rw [List.mem_singleton.mp hb]
      cases q : s.heap.get? s₁.heap.objs.size with
      | none => rfl
      | some o => exact absurd (Heap.lt_size ((kpH k) _ _ q)) (Nat.lt_irrefl _)

noncomputable def numbered : Nat → List PyData → List PyData
  | _, [] => []
  | i, d :: r => .tuple [.int (i : Nat), d] :: numbered (i + 1) r
theorem numbered_length : ∀ (i : Nat) (l : List PyData), (numbered i l).length = l.length
  | _, [] => rfl
  | i, _ :: r => by rw [numbered, List.length_cons, List.length_cons, numbered_length (i + 1) r]
theorem numbered_get : ∀ (i : Nat) (l : List PyData) (k : Nat), (numbered i l)[k]? = (l[k]?).map fun d => .tuple [.int ((i + k : Nat) : Nat), d]
  | _, [], _ => rfl
  | i, d :: r, 0 => rfl
  | i, d :: r, k + 1 => by
    show (numbered (i + 1) r)[k]? = (r[k]?).map _
    rw [numbered_get (i + 1) r k]
    have : i + 1 + k = i + (k + 1) := by omega
    rw [this]

theorem none_old {s s₁ : Shared} {b : Addr} (k : Keeps s s₁) (h : s₁.heap.objs.size ≤ b) : s.heap.get? b = none := by
  cases q : s.heap.get? b with
  | none => rfl
  | some o => exact absurd (Heap.lt_size ((kpH k) _ _ q)) (Nat.not_lt.mpr h)
theorem kp_keeps {s : Shared} {h' : Heap} (k : Kp s.heap h') : Keeps s { s with heap := h' } := ⟨h', s.toks, rfl, k⟩

theorem tsrc_enum {x : Str} {e : Expr} {elts : List Expr} {k : Nat} {pt pos px : Pos} {xs : List PyData} (g : Gl C.hB x (.type "enumerate")) (hx : C.env.kindOf x = some .globalImplicit) (h : Ev C ρ e (.list xs))
    (hd : (x == ("__debug__" : Str)) = false := by decide) (hs : starEach [e] C.env = (false, eval e C.env) :: starEach [] C.env := by rfl) : TSrc C ρ (.Tuple elts k pt) (.Call (.Name x px) [e] [] pos) (numbered 0 xs) := by
  intro s E P
  refine PyProof.Rows.Call_ (gl_name P g hx ?_ hd)
  refine PyProof.Rows.callWith_type1 (wpAny_mono (evs_cons h evs_nil hs pos s E P) (fun vs s₁ h₁ => ?_) fun _ _ e => e) hs
  obtain ⟨kp, q⟩ := h₁
  cases q with
  | cons a r =>
    cases r
    cases a with
    | @list l vs _ n hl r =>
      refine call_enumerate_list hl fun h' hE hI hsz hk => ?_
      refine wpAny_pyIter_enum hE ?_
      have hlt : l < s₁.heap.objs.size := let ⟨_, e, _⟩ := hl; Heap.lt_size e
      have W := WalksT.enumerate (prog := C.prog) (w := C.w) P.ok.good.handled (s₁.heap.objs.size + 1) s₁.heap.objs.size l (Nat.succ_ne_self _) (Nat.ne_of_lt (Nat.lt_succ_of_lt hlt)) (Nat.ne_of_lt hlt) vs.toArray
      have hz : vs.toArray.size = (numbered 0 xs).length := by rw [List.size_toArray, r.length, numbered_length]
      rw [hz] at W
      have fr : ∀ b ∈ [s₁.heap.objs.size + 1, s₁.heap.objs.size], s₁.heap.objs.size ≤ b := fun b m => by
        rcases List.mem_cons.mp m with rfl | m
        · omega
        · rw [List.mem_singleton.mp m]; omega
      refine ⟨_, _, _, _, rfl, Turns.ofT W ?_ ?_ ?_, ⟨⟨_, hE⟩, hI, hl.at fun o e => hk _ o e⟩, fun b m => none_old kp (fr b m), keeps_trans kp (kp_keeps hk)⟩
      · intro b hb
        rcases List.mem_cons.mp hb with rfl | hb
        · exact (P.keep kp).new (by omega)
        rcases List.mem_cons.mp hb with rfl | hb
        · exact (P.keep kp).new (Nat.le_refl _)
        · rw [List.mem_singleton.mp hb]; exact n
      · rintro i h ⟨⟨_, e1⟩, ⟨o, e2, _⟩, _⟩ b hb
        rcases List.mem_cons.mp hb with rfl | hb
        · exact ⟨_, e1⟩
        · rw [List.mem_singleton.mp hb]; exact ⟨_, e2⟩
      · rintro i vals d ⟨t, v, hv, rfl⟩ hd
        rw [numbered_get, Nat.zero_add] at hd
        obtain ⟨d', e', q⟩ := r.getv (k := i) (v := v) (by simpa using hv)
        rw [e'] at hd
        cases hd
        refine ⟨_, rfl, fun h'' kk => .cons (.int _ _) (.cons ?_ .nil)⟩
        refine q.up fun b o nb e => ?_
        have nb' : b ∉ [s₁.heap.objs.size + 1, s₁.heap.objs.size] ++ C.X := fun m => (List.mem_append.mp m).elim (fun m => absurd (Heap.lt_size e) (Nat.not_lt.mpr (fr b m))) nb
        exact ⟨nb', kk b o nb' (hk b o e)⟩

/-- n - 1, n - 2, .., 0 -/
noncomputable def downFrom (n : Nat) : List PyData := (List.range n).map fun i => .int ((n : Int) - 1 - (i : Nat))
theorem tsrc_down {x : Str} {e a b : Expr} {y : Str} {py : Pos} {n : Nat} {pos px : Pos} (g : Gl C.hB x (.type "range")) (hx : C.env.kindOf x = some .globalImplicit) (h : Ev C ρ e (.int ((n : Int) - 1))) (ha : Ev C ρ a (.int (-1))) (hb : Ev C ρ b (.int (-1))) (hz : n ≤ 100000)
    (hd : (x == ("__debug__" : Str)) = false := by decide) (hs : starEach [e, a, b] C.env = (false, eval e C.env) :: starEach [a, b] C.env := by rfl) (hs2 : starEach [a, b] C.env = (false, eval a C.env) :: starEach [b] C.env := by rfl) (hs3 : starEach [b] C.env = (false, eval b C.env) :: starEach [] C.env := by rfl)
    (hp : (backTo pos (starEach [a, b] C.env)).any (·.1) = false := by rfl) :
    TSrc C ρ (.Name y py) (.Call (.Name x px) [e, a, b] [] pos) (downFrom n) := by
  intro s E P
  refine PyProof.Rows.Call_ (gl_name P g hx ?_ hd)
  refine PyProof.Rows.callWith_type1 (wpAny_mono (evs_cons h (evs_cons ha (evs_cons hb evs_nil hs3) hs2) hs pos s E P) (fun vs s₁ h₁ => ?_) fun _ _ e => e) hs hp
  obtain ⟨k, q⟩ := h₁
  cases q with
  | cons a r =>
    cases r with
    | cons b r =>
      cases r with
      | cons c r =>
        cases r
        cases a
        cases b
        cases c
        rename_i t₀ t₁ t₂
        refine PySem.call_range_3 (by decide) ?_ (.inl (PyProof.noPylong_small (by omega)))
        have hr : Builtin.Range.rangeSize ((n : Int) - 1) (-1) (-1) = (n : Int) := by rw [rangeSize_downNat]; omega
        refine wpAny_pyIter_range (IsRange.new ..) (small_down (by omega) (by omega) (by omega) (by omega)) ?_
        have hl : (downFrom n).length = n := by simp [downFrom]
        rw [hr]
        have K : Kp s₁.heap (s₁.heap.push { cls := .type "range", data := .fields #[.int ((n : Int) - 1) t₀, .int (-1) t₁, .int (-1) t₂] }) := fun b o e => Heap.get?_push_of_some _ e
        dsimp only
        generalize s₁.heap.push { cls := .type "range", data := .fields #[.int ((n : Int) - 1) t₀, .int (-1) t₁, .int (-1) t₂] } = h2 at K
        have W := Walks.range (prog := C.prog) (w := C.w) P.ok.good.handled h2.objs.size ((n : Int) - 1) (-1) n
        have old : ∀ b, b ∈ [h2.objs.size] → s₁.heap.get? b = none := fun b hb => by
          rw [List.mem_singleton.mp hb]
          cases q : s₁.heap.get? h2.objs.size with
          | none => rfl
          | some o => exact absurd (Heap.lt_size (K _ _ q)) (Nat.lt_irrefl _)
        rw [← hl] at W
        refine ⟨_, _, _, _, rfl, ⟨W.sub, W.frame, ?_, ?_, ?_, W.done⟩, ?_, ?_, keeps_trans k ⟨_, _, rfl, fun b o e => Heap.get?_push_of_some _ (K b o e)⟩⟩
        · intro b hb m
          obtain ⟨o, e⟩ := (P.keep k).liv b m
          rw [old b hb] at e; cases e
        · rintro i h z b hb
          rw [List.mem_singleton.mp hb]
          exact ⟨_, z⟩
        · intro i d s Q E hd z lX kk hQ
          have hi : i < (downFrom n).length := (List.getElem?_eq_some_iff.mp hd).1
          refine W.item i s _ E hi z fun v h' tk hp z' hk => ⟨_, rfl, wpAny_pure (hQ v h' tk ?_ z' hk)⟩
          obtain ⟨t, rfl⟩ := hp
          rw [hl] at hi
          have e : d = .int ((n : Int) - 1 + i * (-1)) := by
            have : (downFrom n)[i]? = some (.int ((n : Int) - 1 - (i : Nat))) := by simp [downFrom, hi]
            rw [hd] at this
            cases this
            congr 1
            omega
          rw [e, hl]
          exact .int _ _
        · rw [hl]
          show (h2.push _).get? h2.objs.size = _
          rw [Heap.get?_push_size _ rfl]
          simp
        · intro b hb
          cases q : s.heap.get? b with
          | none => rfl
          | some o => have := (kpH k) _ _ q; rw [old b hb] at this; cases this
end
end Mine
end

section
set_option maxRecDepth 100000
namespace Mine

/-! zip of three lists of one length -/
theorem typeCall_zip3 (a b c : Value) : checkTypeCall "zip" ⟨[a, b, c], []⟩ = pure () := by kernel_rfl
theorem newCall_zip3 (a b c : Value) : checkBuiltinCall "zip.__new__" ⟨[.type "zip", a, b, c], []⟩ = pure () := by kernel_rfl
theorem args_init4 (a b c d : Value) : argsOk "object.__init__" ⟨[a, b, c, d], []⟩ := by
  unfold argsOk; rw [signature?_of (id := "object.__init__") (n := ['_', '_', 't', 'i', 'n', 'i', '_', '_']) (o := ['t', 'c', 'e', 'j', 'b', 'o']) (by kernel_rfl) F.owner_object]; kernel_rfl

abbrev Is3 (h : Heap) (T : Addr) (a b c : Value) : Prop := h.get? T = some { cls := .type "tuple", data := .seq #[a, b, c] }

noncomputable abbrev zq1 (h : Heap) (l1 : Addr) : Heap := h.push { cls := .type "list_iterator", data := .fields #[.ref l1, .int 0 0] }
noncomputable abbrev zq2 (h : Heap) (l1 l2 : Addr) : Heap := (zq1 h l1).push { cls := .type "list_iterator", data := .fields #[.ref l2, .int 0 0] }
noncomputable abbrev zq3 (h : Heap) (l1 l2 l3 : Addr) : Heap := (zq2 h l1 l2).push { cls := .type "list_iterator", data := .fields #[.ref l3, .int 0 0] }
noncomputable abbrev zq4 (h : Heap) (l1 l2 l3 : Addr) : Heap := (zq3 h l1 l2 l3).push { cls := .type "tuple", data := .seq #[.ref h.objs.size, .ref (zq1 h l1).objs.size, .ref (zq2 h l1 l2).objs.size] }
noncomputable abbrev zq5 (h : Heap) (l1 l2 l3 : Addr) : Heap := (zq4 h l1 l2 l3).push { cls := .type "tuple", data := .seq #[.none, .none, .none] }
noncomputable abbrev zq6 (h : Heap) (l1 l2 l3 : Addr) : Heap := (zq5 h l1 l2 l3).push { cls := .type "zip", data := .fields #[.none, .bool false, .bool false, .ref (zq3 h l1 l2 l3).objs.size, .ref (zq4 h l1 l2 l3).objs.size] }

set_option maxHeartbeats 4000000 in
theorem zip3_new (l1 l2 l3 : Addr) (xs ys zs : Array Value) :
    Meets (Builtin.«zip.__new__» ⟨[.type "zip", .ref l1, .ref l2, .ref l3], []⟩) (fun _ R s => s.heap.IsList l1 xs ∧ s.heap.IsList l2 ys ∧ s.heap.IsList l3 zs ∧
      R (.ok (.ret (.ref (zq5 s.heap l1 l2 l3).objs.size))) { s with heap := zq6 s.heap l1 l2 l3 }) :=
  .of_wp fun prog w A R s h => by
    obtain ⟨hp, g, d, tk, os⟩ := s; obtain ⟨hl1, hl2, hl3, h⟩ := h
    have hsub := sub_zip
    have hL1 : Heap.IsList (Shared.heap ⟨hp, g, d, tk, os⟩) l1 xs := hl1
    have hL2 : Heap.IsList (Shared.heap ⟨zq1 hp l1, g, d, tk, os⟩) l2 ys := Heap.IsList.push hl2 _
    have hL3 : Heap.IsList (Shared.heap ⟨zq2 hp l1 l2, g, d, tk, os⟩) l3 zs := Heap.IsList.push (Heap.IsList.push hl3 _) _
    wp_walk using wpAny_pyIter_list hL1, wpAny_pyIter_list hL2, wpAny_pyIter_list hL3
    exact ⟨_, rfl, h⟩

theorem na {a b : Nat} (h : a ≠ b) : @Ne Addr a b := h
/-- the state of such an iterator; n: the first of its six addresses -/
structure Z3 (n l1 l2 l3 : Nat) (xs ys zs : Array Value) (f0 : Value) (i1 i2 i3 : Nat) (h : Heap) : Prop where
  z : IsZip h (n + 5) (n + 3) (n + 4) f0
  ti : Is3 h (n + 3) (.ref n) (.ref (n + 1)) (.ref (n + 2))
  to' : ∃ a b c, Is3 h (n + 4) a b c
  it1 : h.IsListIter n l1 i1
  it2 : h.IsListIter (n + 1) l2 i2
  it3 : h.IsListIter (n + 2) l3 i3
  l1' : h.IsList l1 xs
  l2' : h.IsList l2 ys
  l3' : h.IsList l3 zs

section
variable {prog : Program} {w : World} {A : Around} {E : Value → Shared → Prop} {s : Shared}

theorem upd3 {T : Addr} {a b c x : Value} {k : Nat} {Q : Unit → Shared → Prop} (hT : Is3 s.heap T a b c)
    (h : ∀ h', h'.get? T = some { cls := .type "tuple", data := .seq ((#[a, b, c] : Array Value).setIfInBounds k x) } → Heap.SameBut T s.heap h' → Q () { s with heap := h' }) :
    wpAny (model prog w) A (updateSeq T (·.setIfInBounds k x)) Q E s := by
  refine wpAny_updateSeq hT rfl (h _ ?_ (Heap.SameBut.update ..))
  rw [Heap.get?_update_self _ hT rfl]
  simp [Obj.mapSeq]

theorem call_zip3 {l1 l2 l3 : Addr} {xs ys zs : Array Value} {Q : Value → Shared → Prop} (hl1 : s.heap.IsList l1 xs) (hl2 : s.heap.IsList l2 ys) (hl3 : s.heap.IsList l3 zs)
    (h : ∀ h', Z3 s.heap.objs.size l1 l2 l3 xs ys zs .none 0 0 0 h' → Kp s.heap h' → Q (.ref (s.heap.objs.size + 5)) { s with heap := h' }) :
    wpAny (model prog w) A (call (.type "zip") [.ref l1, .ref l2, .ref l3]) Q E s := by
  refine callType_new F.called_zip (by decide) (typeCall_zip3 _ _ _) (newCall_zip3 _ _ _) (fun obj => args_init4 obj _ _ _) F.entry_zip_new
    (zip3_new l1 l2 l3 xs ys zs) ⟨hl1, hl2, hl3, ?_⟩
  have z1 : (zq1 s.heap l1).objs.size = s.heap.objs.size + 1 := Heap.size_push ..
  have z2 : (zq2 s.heap l1 l2).objs.size = s.heap.objs.size + 2 := by rw [Heap.size_push, z1]
  have z3 : (zq3 s.heap l1 l2 l3).objs.size = s.heap.objs.size + 3 := by rw [Heap.size_push, z2]
  have z4 : (zq4 s.heap l1 l2 l3).objs.size = s.heap.objs.size + 4 := by rw [Heap.size_push, z3]
  have z5 : (zq5 s.heap l1 l2 l3).objs.size = s.heap.objs.size + 5 := by rw [Heap.size_push, z4]
  have up : ∀ b o, (zq5 s.heap l1 l2 l3).get? b = some o → (zq6 s.heap l1 l2 l3).get? b = some o := fun b o e => Heap.get?_push_of_some _ e
  have up5 : ∀ b o, (zq4 s.heap l1 l2 l3).get? b = some o → (zq6 s.heap l1 l2 l3).get? b = some o := fun b o e => up _ _ (Heap.get?_push_of_some _ e)
  have up4 : ∀ b o, (zq3 s.heap l1 l2 l3).get? b = some o → (zq6 s.heap l1 l2 l3).get? b = some o := fun b o e => up5 _ _ (Heap.get?_push_of_some _ e)
  have up3 : ∀ b o, (zq2 s.heap l1 l2).get? b = some o → (zq6 s.heap l1 l2 l3).get? b = some o := fun b o e => up4 _ _ (Heap.get?_push_of_some _ e)
  have up2 : ∀ b o, (zq1 s.heap l1).get? b = some o → (zq6 s.heap l1 l2 l3).get? b = some o := fun b o e => up3 _ _ (Heap.get?_push_of_some _ e)
  have up1 : Kp s.heap (zq6 s.heap l1 l2 l3) := fun b o e => up2 _ _ (Heap.get?_push_of_some _ e)
  have g6 : (zq6 s.heap l1 l2 l3).get? (zq5 s.heap l1 l2 l3).objs.size = some _ := Heap.get?_push_size _ rfl
  have g5 : (zq6 s.heap l1 l2 l3).get? (zq4 s.heap l1 l2 l3).objs.size = some _ := up _ _ (Heap.get?_push_size _ rfl)
  have g4 : (zq6 s.heap l1 l2 l3).get? (zq3 s.heap l1 l2 l3).objs.size = some _ := up5 _ _ (Heap.get?_push_size _ rfl)
  have g3 : (zq6 s.heap l1 l2 l3).get? (zq2 s.heap l1 l2).objs.size = some _ := up4 _ _ (Heap.get?_push_size _ rfl)
  have g2 : (zq6 s.heap l1 l2 l3).get? (zq1 s.heap l1).objs.size = some _ := up3 _ _ (Heap.get?_push_size _ rfl)
  have g1 : (zq6 s.heap l1 l2 l3).get? s.heap.objs.size = some _ := up2 _ _ (Heap.get?_push_size _ rfl)
  show _ ∧ _
  rw [z3, z4, z5] at g6
  rw [z4] at g5
  rw [z1, z2, z3] at g4
  rw [z2] at g3
  rw [z1] at g2
  rw [z5]
  exact ⟨⟨_, g6, rfl⟩, h _ ⟨g6, g4, ⟨_, _, _, g5⟩, ⟨_, g1, rfl, rfl⟩, ⟨_, g2, rfl, rfl⟩, ⟨_, g3, rfl, rfl⟩, hl1.at fun o e => up1 _ o e, hl2.at fun o e => up1 _ o e, hl3.at fun o e => up1 _ o e⟩ up1⟩

theorem next3 {n l1 l2 l3 k : Nat} {xs ys zs : Array Value} {x y z : Value} {Q : Value → Shared → Prop} (Z : Z3 n l1 l2 l3 xs ys zs .none k k k s.heap) (h1 : l1 < n) (h2 : l2 < n) (h3 : l3 < n) (hx : xs[k]? = some x) (hy : ys[k]? = some y) (hz : zs[k]? = some z)
    (hQ : ∀ h', Z3 n l1 l2 l3 xs ys zs (rawInt s.heap.objs.size) (k + 1) (k + 1) (k + 1) h' → Is3 h' s.heap.objs.size x y z →
      KpOff [n, n + 1, n + 2, n + 4, n + 5] s.heap h' → Q (.ref s.heap.objs.size) { s with heap := h' }) :
    wpAny (model prog w) A (Builtin.«zip.__next__» ⟨[.ref (n + 5)], []⟩) (fun fin s' => ∃ v, fin = .done (.ret v) ∧ Q v s') E s := by
  obtain ⟨hz0, hTI, ⟨a, b, c, hTO⟩, i1, i2, i3, L1, L2, L3⟩ := Z
  show wpAny _ _ (field (.ref (n + 5)) 2 >>= _) _ _ _
  refine wpAny_bind (wpAny_field hz0 rfl (x := .bool false) rfl ?_)
  show wpAny _ _ (field (.ref (n + 5)) 3 >>= _) _ _ _
  refine wpAny_bind (wpAny_field hz0 rfl (x := .ref (n + 3)) rfl ?_)
  refine wpAny_bind (wpAny_seqItems hTI rfl ?_)
  show wpAny _ _ (Builtin.SmallTypes.ownedTupleIsFree (.ref (n + 5)) >>= _) _ _ _
  refine wpAny_bind ?_
  unfold Builtin.SmallTypes.ownedTupleIsFree
  refine wpAny_bind (wpAny_field hz0 rfl (x := .none) rfl (wpAny_pure ?_))
  simp only [if_true]
  refine wpAny_bind (wpAny_rule ?_)
  refine wpAny_bind (wpAny_field hz0 rfl (x := .ref (n + 4)) rfl ?_)
  refine wpAny_bind (wpAny_setField_rec hz0 (by simp) fun g₁ z₁ s₁ => ?_)
  replace z₁ : IsZip g₁ (n + 5) (n + 3) (n + 4) .ellipsis := z₁
  refine wpAny_bind ?_
  simp only [List.zipIdx_cons, List.zipIdx_nil, List.forIn_cons, List.forIn_nil]
  have k₁ : ∀ c o, c ≠ n + 5 → s.heap.get? c = some o → g₁.get? c = some o := fun c o n e => s₁.extBut _ _ n e
  -- the first
  refine wpAny_bind (wpAny_bind (wpAny_onRaise ?_))
  show wpAny _ _ (Builtin.SmallTypes.nextOf (.ref n) >>= _) _ _ _
  refine wpAny_bind (wpAny_nextOf_list_item (i1.at fun o e => k₁ _ o (na (by omega)) e) (L1.at fun o e => k₁ _ o (na (by omega)) e) hx fun g₂ i₂ s₂ => wpAny_pure ?_)
  have k₂ : ∀ c o, c ≠ n → g₁.get? c = some o → g₂.get? c = some o := fun c o n e => s₂.extBut _ _ n e
  have t₂ : Is3 g₂ (n + 4) a b c := k₂ _ _ (na (by omega)) (k₁ _ _ (na (by omega)) hTO)
  refine wpAny_bind (wpAny_seqItems t₂ rfl ?_)
  refine wpAny_bind (upd3 t₂ fun g₃ t₃ s₃ => ?_)
  replace t₃ : Is3 g₃ (n + 4) x b c := t₃
  have k₃ : ∀ c o, c ≠ n + 4 → g₂.get? c = some o → g₃.get? c = some o := fun c o n e => s₃.extBut _ _ n e
  have K₃ : ∀ c o, c ≠ n → c ≠ n + 4 → c ≠ n + 5 → s.heap.get? c = some o → g₃.get? c = some o := fun c o a1 a2 a3 e => k₃ _ _ a2 (k₂ _ _ a1 (k₁ _ _ a3 e))
  refine wpAny_bind (wpAny_letGo (wpAny_pure ?_))
  -- the second
  refine wpAny_bind (wpAny_bind (wpAny_onRaise ?_))
  show wpAny _ _ (Builtin.SmallTypes.nextOf (.ref (n + 1)) >>= _) _ _ _
  refine wpAny_bind (wpAny_nextOf_list_item (i2.at fun o e => K₃ _ o (na (by omega)) (na (by omega)) (na (by omega)) e) (L2.at fun o e => K₃ _ o (na (by omega)) (na (by omega)) (na (by omega)) e) hy fun g₄ i₄ s₄ => wpAny_pure ?_)
  have k₄ : ∀ c o, c ≠ n + 1 → g₃.get? c = some o → g₄.get? c = some o := fun c o n e => s₄.extBut _ _ n e
  have t₄ : Is3 g₄ (n + 4) x b c := k₄ _ _ (na (by omega)) t₃
  refine wpAny_bind (wpAny_seqItems t₄ rfl ?_)
  refine wpAny_bind (upd3 t₄ fun g₅ t₅ s₅ => ?_)
  replace t₅ : Is3 g₅ (n + 4) x y c := t₅
  have k₅ : ∀ c o, c ≠ n + 4 → g₄.get? c = some o → g₅.get? c = some o := fun c o n e => s₅.extBut _ _ n e
  have K₅ : ∀ c o, c ≠ n → c ≠ n + 1 → c ≠ n + 4 → c ≠ n + 5 → s.heap.get? c = some o → g₅.get? c = some o := fun c o a1 a2 a3 a4 e => k₅ _ _ a3 (k₄ _ _ a2 (K₃ _ _ a1 a3 a4 e))
  refine wpAny_bind (wpAny_letGo (wpAny_pure ?_))
  -- the third
  refine wpAny_bind (wpAny_bind (wpAny_onRaise ?_))
  show wpAny _ _ (Builtin.SmallTypes.nextOf (.ref (n + 2)) >>= _) _ _ _
  refine wpAny_bind (wpAny_nextOf_list_item (i3.at fun o e => K₅ _ o (na (by omega)) (na (by omega)) (na (by omega)) (na (by omega)) e) (L3.at fun o e => K₅ _ o (na (by omega)) (na (by omega)) (na (by omega)) (na (by omega)) e) hz fun g₆ i₆ s₆ => wpAny_pure ?_)
  have k₆ : ∀ c o, c ≠ n + 2 → g₅.get? c = some o → g₆.get? c = some o := fun c o n e => s₆.extBut _ _ n e
  have t₆ : Is3 g₆ (n + 4) x y c := k₆ _ _ (na (by omega)) t₅
  refine wpAny_bind (wpAny_seqItems t₆ rfl ?_)
  refine wpAny_bind (upd3 t₆ fun g₇ t₇ s₇ => ?_)
  replace t₇ : Is3 g₇ (n + 4) x y z := t₇
  have k₇ : ∀ c o, c ≠ n + 4 → g₆.get? c = some o → g₇.get? c = some o := fun c o n e => s₇.extBut _ _ n e
  have K₇ : ∀ c o, c ≠ n → c ≠ n + 1 → c ≠ n + 2 → c ≠ n + 4 → c ≠ n + 5 → s.heap.get? c = some o → g₇.get? c = some o := fun c o a1 a2 a3 a4 a5 e => k₇ _ _ a4 (k₆ _ _ a3 (K₅ _ _ a1 a2 a4 a5 e))
  refine wpAny_bind (wpAny_letGo (wpAny_pure (wpAny_pure ?_)))
  -- handed out
  refine wpAny_bind (wpAny_seqItems t₇ rfl ?_)
  refine wpAny_bind (wpAny_newTuple ?_)
  have hsz : g₇.objs.size = s.heap.objs.size := by rw [s₇.1, s₆.1, s₅.1, s₄.1, s₃.1, s₂.1, s₁.1]
  have z₇ : IsZip g₇ (n + 5) (n + 3) (n + 4) .ellipsis := k₇ _ _ (na (by omega)) (k₆ _ _ (na (by omega)) (k₅ _ _ (na (by omega)) (k₄ _ _ (na (by omega)) (k₃ _ _ (na (by omega)) (k₂ _ _ (na (by omega)) z₁)))))
  have j1 : g₇.IsListIter n l1 (k + 1) := i₂.at fun o e => k₇ _ _ (na (by omega)) (k₆ _ _ (na (by omega)) (k₅ _ _ (na (by omega)) (k₄ _ _ (na (by omega)) (k₃ _ _ (na (by omega)) e))))
  have j2 : g₇.IsListIter (n + 1) l2 (k + 1) := i₄.at fun o e => k₇ _ _ (na (by omega)) (k₆ _ _ (na (by omega)) (k₅ _ _ (na (by omega)) e))
  have j3 : g₇.IsListIter (n + 2) l3 (k + 1) := i₆.at fun o e => k₇ _ _ (na (by omega)) e
  have hzlt : n + 5 < g₇.objs.size := Heap.lt_size z₇
  show wpAny _ _ (Builtin.SmallTypes.ownedTupleHandOut (.ref (n + 5)) (.ref g₇.objs.size) >>= _) _ _ _
  refine wpAny_bind ?_
  unfold Builtin.SmallTypes.ownedTupleHandOut
  have z₈ : IsZip (g₇.push { cls := .type "tuple", data := .seq #[x, y, z] }) (n + 5) (n + 3) (n + 4) .ellipsis := Heap.get?_push_of_some _ z₇
  refine wpAny_bind (wpAny_setField_rec z₈ (by simp) fun g₉ z₉ s₉ => ?_)
  replace z₉ : IsZip g₉ (n + 5) (n + 3) (n + 4) (rawInt g₇.objs.size) := z₉
  refine wpAny_setField_rec z₉ (by simp) fun g z' s₀ => ?_
  replace z' : IsZip g (n + 5) (n + 3) (n + 4) (rawInt g₇.objs.size) := z'
  have up : ∀ c o, c ≠ n + 5 → g₇.get? c = some o → g.get? c = some o := fun c o c1 e => s₀.extBut _ _ c1 (s₉.extBut _ _ c1 (Heap.get?_push_of_some _ e))
  have hT : Is3 g g₇.objs.size x y z := s₀.extBut _ _ (Nat.ne_of_gt hzlt) (s₉.extBut _ _ (Nat.ne_of_gt hzlt) (Heap.get?_push_size _ rfl))
  rw [hsz] at z' hT
  refine wpAny_pure ⟨_, rfl, ?_⟩
  show Q (.ref g₇.objs.size) _
  rw [hsz]
  have U : ∀ c o, c ≠ n → c ≠ n + 1 → c ≠ n + 2 → c ≠ n + 4 → c ≠ n + 5 → s.heap.get? c = some o → g.get? c = some o := fun c o a1 a2 a3 a4 a5 e => up _ _ a5 (K₇ _ _ a1 a2 a3 a4 a5 e)
  refine hQ g ⟨z', U _ _ (na (by omega)) (na (by omega)) (na (by omega)) (na (by omega)) (na (by omega)) hTI, ⟨_, _, _, up _ _ (na (by omega)) t₇⟩, j1.at fun o e => up _ o (na (by omega)) e, j2.at fun o e => up _ o (na (by omega)) e, j3.at fun o e => up _ o (na (by omega)) e,
    L1.at fun o e => U _ _ (na (by omega)) (na (by omega)) (na (by omega)) (na (by omega)) (na (by omega)) e, L2.at fun o e => U _ _ (na (by omega)) (na (by omega)) (na (by omega)) (na (by omega)) (na (by omega)) e, L3.at fun o e => U _ _ (na (by omega)) (na (by omega)) (na (by omega)) (na (by omega)) (na (by omega)) e⟩ hT fun c o nc e => ?_
  simp only [List.mem_cons, List.not_mem_nil, or_false, not_or] at nc
  exact U c o nc.1 nc.2.1 nc.2.2.1 nc.2.2.2.1 nc.2.2.2.2 e
end
end Mine
end

section
set_option maxRecDepth 100000
namespace Mine
section
variable {prog : Program} {w : World} {A : Around} {E : Value → Shared → Prop} {s : Shared}

theorem end3 {n l1 l2 l3 k : Nat} {xs ys zs : Array Value} {Q : Fin → Shared → Prop} (hh : A.handled = none) (Z : Z3 n l1 l2 l3 xs ys zs .none k k k s.heap) (h1 : l1 < n) (hx : xs[k]? = none)
    (hE : ∀ h' e, KpOff [n, n + 1, n + 2, n + 4, n + 5] s.heap h' → (∃ o, h'.get? e = some o ∧ o.cls = .type "StopIteration") → E (.ref e) { s with heap := h' }) :
    wpAny (model prog w) A (Builtin.«zip.__next__» ⟨[.ref (n + 5)], []⟩) Q E s := by
  obtain ⟨hz0, hTI, ⟨a, b, c, hTO⟩, i1, i2, i3, L1, L2, L3⟩ := Z
  show wpAny _ _ (field (.ref (n + 5)) 2 >>= _) _ _ _
  refine wpAny_bind (wpAny_field hz0 rfl (x := .bool false) rfl ?_)
  show wpAny _ _ (field (.ref (n + 5)) 3 >>= _) _ _ _
  refine wpAny_bind (wpAny_field hz0 rfl (x := .ref (n + 3)) rfl ?_)
  refine wpAny_bind (wpAny_seqItems hTI rfl ?_)
  show wpAny _ _ (Builtin.SmallTypes.ownedTupleIsFree (.ref (n + 5)) >>= _) _ _ _
  refine wpAny_bind ?_
  unfold Builtin.SmallTypes.ownedTupleIsFree
  refine wpAny_bind (wpAny_field hz0 rfl (x := .none) rfl (wpAny_pure ?_))
  simp only [if_true]
  refine wpAny_bind (wpAny_rule ?_)
  refine wpAny_bind (wpAny_field hz0 rfl (x := .ref (n + 4)) rfl ?_)
  refine wpAny_bind (wpAny_setField_rec hz0 (by simp) fun g₁ z₁ s₁ => ?_)
  replace z₁ : IsZip g₁ (n + 5) (n + 3) (n + 4) .ellipsis := z₁
  refine wpAny_bind ?_
  simp only [List.zipIdx_cons, List.zipIdx_nil, List.forIn_cons, List.forIn_nil]
  have k₁ : ∀ c o, c ≠ n + 5 → s.heap.get? c = some o → g₁.get? c = some o := fun c o n e => s₁.extBut _ _ n e
  refine wpAny_bind (wpAny_bind (wpAny_onRaise ?_))
  show wpAny _ _ (Builtin.SmallTypes.nextOf (.ref n) >>= _) _ _ _
  refine wpAny_bind (wpAny_nextOf_list_end hh (i1.at fun o e => k₁ _ o (na (by omega)) e) (L1.at fun o e => k₁ _ o (na (by omega)) e) hx fun g₂ e s₂ he => ?_)
  obtain ⟨oe, hoe, hce⟩ := he
  have z₂ : IsZip g₂ (n + 5) (n + 3) (n + 4) .ellipsis := s₂ _ _ (na (by omega)) z₁
  have hez : e ≠ n + 5 := fun x => by subst x; rw [z₂] at hoe; cases hoe; simp at hce
  refine wpAny_setField_rec z₂ (by simp) fun g _ s₃ => hE g e (fun c o nc x => ?_) ⟨oe, s₃.extBut _ _ hez hoe, hce⟩
  simp only [List.mem_cons, List.not_mem_nil, or_false, not_or] at nc
  exact s₃.extBut _ _ nc.2.2.2.2 (s₂ _ _ nc.1 (k₁ _ _ nc.2.2.2.2 x))

theorem walks3 (hh : A.handled = none) {n l1 l2 l3 : Nat} {xs ys zs : Array Value} {m : Nat} (h1 : l1 < n) (h2 : l2 < n) (h3 : l3 < n) (hx : xs.size = m) (hy : ys.size = m) (hz : zs.size = m) :
    WalksT prog w A (n + 5) [n, n + 1, n + 2, n + 3, n + 4, n + 5, l1, l2, l3] [n, n + 1, n + 2, n + 4, n + 5] m
      (fun i vals => ∃ x y z, xs[i]? = some x ∧ ys[i]? = some y ∧ zs[i]? = some z ∧ vals = #[x, y, z])
      (fun i h => Z3 n l1 l2 l3 xs ys zs .none i i i h)
      (fun i T h => Z3 n l1 l2 l3 xs ys zs (rawInt T) (i + 1) (i + 1) (i + 1) h ∧ T ∉ [n, n + 1, n + 2, n + 4, n + 5]) where
  sub := fun c hc => by
    simp only [List.mem_cons, List.not_mem_nil, or_false] at hc ⊢
    rcases hc with rfl | rfl | rfl | rfl | rfl <;> simp
  frame := fun i h h' Z hk => by
    obtain ⟨hz0, hTI, ⟨a, b, c, hTO⟩, i1, i2, i3, L1, L2, L3⟩ := Z
    exact ⟨hk _ (by simp) _ hz0, hk _ (by simp) _ hTI, ⟨a, b, c, hk _ (by simp) _ hTO⟩, i1.at fun o e => hk _ (by simp) o e, i2.at fun o e => hk _ (by simp) o e, i3.at fun o e => hk _ (by simp) o e,
      L1.at fun o e => hk _ (by simp) o e, L2.at fun o e => hk _ (by simp) o e, L3.at fun o e => hk _ (by simp) o e⟩
  item := fun i s Q E hi Z hQ => by
    have a1 : xs[i]? = some xs[i] := Array.getElem?_eq_getElem (by omega)
    have a2 : ys[i]? = some ys[i] := Array.getElem?_eq_getElem (by omega)
    have a3 : zs[i]? = some zs[i] := Array.getElem?_eq_getElem (by omega)
    have hT : s.TypeIs (.ref (n + 5)) "zip" := ⟨_, Z.z, rfl⟩
    have lt : ∀ c ∈ [n, n + 1, n + 2, n + 4, n + 5], c < s.heap.objs.size := fun c hc => by
      simp only [List.mem_cons, List.not_mem_nil, or_false] at hc
      have := Heap.lt_size Z.z
      rcases hc with rfl | rfl | rfl | rfl | rfl <;> exact Nat.lt_of_le_of_lt (by omega) this
    unfold pyNext
    refine wpAny_bind (wpAny_attempt (wpAny_callSpecial?_slot (name := Str.ofString "__next__") hT F.slot_zip_next
      (wpAny_call_entry F.slot_zip_next hT F.entry_zip_next
        (next3 Z h1 h2 h3 a1 a2 a3 fun h' Z' T k => wpAny_pure ?_) (F.args_zip_next_1 _))))
    exact hQ s.heap.objs.size #[xs[i], ys[i], zs[i]] h' s.toks ⟨_, _, _, a1, a2, a3, rfl⟩ (Nat.le_refl _) ⟨_, T, rfl, _, rfl⟩ ⟨Z', fun m => absurd (lt _ m) (Nat.lt_irrefl _)⟩ k
  go := fun elts k pos i T s Q E hm hQ => by
    obtain ⟨⟨hz0, hTI, ⟨a, b, c, hTO⟩, i1, i2, i3, L1, L2, L3⟩, _⟩ := hm
    refine wpAny_letOwnedTupleGo_zip hz0 fun h' hz' hs' => hQ h' ⟨hz', hs'.extBut _ _ (na (by omega)) hTI, ⟨a, b, c, hs'.extBut _ _ (na (by omega)) hTO⟩, i1.at fun o e => hs'.extBut _ _ (na (by omega)) e, i2.at fun o e => hs'.extBut _ _ (na (by omega)) e, i3.at fun o e => hs'.extBut _ _ (na (by omega)) e,
      L1.at fun o e => hs'.extBut _ _ (na (by omega)) e, L2.at fun o e => hs'.extBut _ _ (na (by omega)) e, L3.at fun o e => hs'.extBut _ _ (na (by omega)) e⟩ fun c o hc e => hs'.extBut _ _ (fun x => hc (by rw [x]; simp)) e
  apart := fun i T h hm => hm.2
  done := fun s Q E Z hQ => by
    have hT : s.TypeIs (.ref (n + 5)) "zip" := ⟨_, Z.z, rfl⟩
    unfold pyNext
    refine wpAny_bind (wpAny_attempt (wpAny_callSpecial?_slot (name := Str.ofString "__next__") hT F.slot_zip_next
      (wpAny_call_entry F.slot_zip_next hT F.entry_zip_next (end3 hh Z h1 (Array.getElem?_eq_none (by omega)) fun h' e hk he => ?_) (F.args_zip_next_1 _))))
    obtain ⟨o, ho, hc⟩ := he
    refine wpAny_bind (wpAny_isInstance (T := "StopIteration") (b := true) ⟨o, ho, hc⟩ isSubtype_stop ?_)
    exact wpAny_pure (hQ _ s.toks hk)
  self := fun i s Q E Z hQ => wpAny_pyIter_zip Z.z hQ
end

noncomputable def zipped : List PyData → List PyData → List PyData → List PyData
  | a :: as, b :: bs, c :: cs => .tuple [a, b, c] :: zipped as bs cs
  | _, _, _ => []
theorem zipped_length : ∀ {n : Nat} {as bs cs : List PyData}, as.length = n → bs.length = n → cs.length = n → (zipped as bs cs).length = n
  | 0, [], _, _, _, _, _ => rfl
  | n + 1, a :: as, b :: bs, c :: cs, h1, h2, h3 => by
    rw [zipped, List.length_cons, zipped_length (n := n) (by simpa using h1) (by simpa using h2) (by simpa using h3)]
theorem zipped_get : ∀ {as bs cs : List PyData} {i : Nat} {a b c : PyData}, as[i]? = some a → bs[i]? = some b → cs[i]? = some c → (zipped as bs cs)[i]? = some (.tuple [a, b, c])
  | _ :: _, _ :: _, _ :: _, 0, _, _, _, h1, h2, h3 => by simp at h1 h2 h3; subst h1 h2 h3; rfl
  | _ :: _, _ :: _, _ :: _, i + 1, _, _, _, h1, h2, h3 => zipped_get (i := i) (by simpa using h1) (by simpa using h2) (by simpa using h3)
  | [], _, _, _, _, _, _, h1, _, _ => by simp at h1
  | _, [], _, _, _, _, _, _, h2, _ => by simp at h2
  | _, _, [], _, _, _, _, _, _, h3 => by simp at h3

section
variable {C : Cx} {ρ : List (Str × PyData)}
/-- what a zip of three lists hands on, once it is made -/
theorem zip3_src {elts : List Expr} {k : Nat} {pt : Pos} {xs ys zs : List PyData} {m : Nat} {l1 l2 l3 : Addr} {vs1 vs2 vs3 : List Value} {s s₁ : Shared} {h' : Heap} {E : Value → Shared → Prop} (P : Pre C ρ s₁)
    (hl1 : s₁.heap.IsList l1 vs1.toArray) (hl2 : s₁.heap.IsList l2 vs2.toArray) (hl3 : s₁.heap.IsList l3 vs3.toArray) (n1 : l1 ∉ C.X) (n2 : l2 ∉ C.X) (n3 : l3 ∉ C.X)
    (r1 : IsAll C.X s₁.heap vs1 xs) (r2 : IsAll C.X s₁.heap vs2 ys) (r3 : IsAll C.X s₁.heap vs3 zs) (m1 : xs.length = m) (m2 : ys.length = m) (m3 : zs.length = m)
    (Z : Z3 s₁.heap.objs.size l1 l2 l3 vs1.toArray vs2.toArray vs3.toArray .none 0 0 0 h') (hk : Kp s₁.heap h') (old : ∀ b, s₁.heap.objs.size ≤ b → s.heap.get? b = none) (ks : Keeps s s₁) :
    wpAny (model C.prog C.w) C.A (pyIter (.ref (s₁.heap.objs.size + 5))) (fun it s₂ =>
      ∃ I fp wr Z, it = .ref I ∧ Turns C (.Tuple elts k pt) I fp wr (zipped xs ys zs) s₂.heap Z ∧ Z 0 s₂.heap ∧ (∀ b ∈ wr, s.heap.get? b = none) ∧ Keeps s s₂) E { s₁ with heap := h' } := by
  have s1 : vs1.toArray.size = m := by rw [List.size_toArray, r1.length, m1]
  have s2 : vs2.toArray.size = m := by rw [List.size_toArray, r2.length, m2]
  have s3 : vs3.toArray.size = m := by rw [List.size_toArray, r3.length, m3]
  have lt : ∀ {l : Addr} {its : Array Value}, s₁.heap.IsList l its → l < s₁.heap.objs.size := fun h => let ⟨_, e, _⟩ := h; Heap.lt_size e
  have W := walks3 (prog := C.prog) (w := C.w) P.ok.good.handled (lt hl1) (lt hl2) (lt hl3) s1 s2 s3
  refine wpAny_pyIter_zip Z.z ?_
  have hz : m = (zipped xs ys zs).length := (zipped_length m1 m2 m3).symm
  rw [hz] at W
  have new : ∀ i, s₁.heap.objs.size + i ∉ C.X := fun i => P.new (Nat.le_add_right _ _)
  have new0 : s₁.heap.objs.size ∉ C.X := new 0
  have lo : ∀ b o, s₁.heap.get? b = some o → s₁.heap.objs.size ≤ b → False := fun b o e q => absurd (Heap.lt_size e) (Nat.not_lt.mpr q)
  generalize s₁.heap.objs.size = n at W Z new new0 old lt lo ⊢
  have fr : ∀ b ∈ [n, n + 1, n + 2, n + 4, n + 5], n ≤ b := by
    simp only [List.forall_mem_cons]
    exact ⟨Nat.le_refl _, Nat.le_add_right _ _, Nat.le_add_right _ _, Nat.le_add_right _ _, Nat.le_add_right _ _, fun _ m => nomatch m⟩
  refine ⟨_, _, _, _, rfl, Turns.ofT W ?_ ?_ ?_, Z, fun b m => old b (fr b m), keeps_trans ks (kp_keeps hk)⟩
  · simp only [List.forall_mem_cons]
    exact ⟨new0, new 1, new 2, new 3, new 4, new 5, n1, n2, n3, fun _ m => nomatch m⟩
  · rintro i h ⟨hz0, hTI, ⟨a, b, c, hTO⟩, ⟨_, i1, _⟩, ⟨_, i2, _⟩, ⟨_, i3, _⟩, _⟩
    simp only [List.forall_mem_cons]
    exact ⟨⟨_, i1⟩, ⟨_, i2⟩, ⟨_, i3⟩, ⟨_, hTO⟩, ⟨_, hz0⟩, fun _ m => nomatch m⟩
  · rintro i vals d ⟨x, y, z, a1, a2, a3, rfl⟩ hd
    obtain ⟨d1, e1, q1⟩ := r1.getv (k := i) (v := x) (by simpa using a1)
    obtain ⟨d2, e2, q2⟩ := r2.getv (k := i) (v := y) (by simpa using a2)
    obtain ⟨d3, e3, q3⟩ := r3.getv (k := i) (v := z) (by simpa using a3)
    rw [zipped_get e1 e2 e3] at hd
    cases hd
    refine ⟨_, rfl, fun h'' kk => ?_⟩
    have up : Up C.X s₁.heap ([n, n + 1, n + 2, n + 4, n + 5] ++ C.X) h'' := fun b o nb e => by
      have nb' : b ∉ [n, n + 1, n + 2, n + 4, n + 5] ++ C.X := fun m => (List.mem_append.mp m).elim (fun m => lo b o e (fr b m)) nb
      exact ⟨nb', kk b o nb' (hk b o e)⟩
    exact .cons (q1.up up) (.cons (q2.up up) (.cons (q3.up up) .nil))
theorem tsrc_zip {x : Str} {e1 e2 e3 : Expr} {elts : List Expr} {k : Nat} {pt pos px : Pos} {xs ys zs : List PyData} {m : Nat} (g : Gl C.hB x (.type "zip")) (hx : C.env.kindOf x = some .globalImplicit) (h1 : Ev C ρ e1 (.list xs)) (h2 : Ev C ρ e2 (.list ys)) (h3 : Ev C ρ e3 (.list zs))
    (m1 : xs.length = m) (m2 : ys.length = m) (m3 : zs.length = m)
    (hd : (x == ("__debug__" : Str)) = false := by decide) (hs : starEach [e1, e2, e3] C.env = (false, eval e1 C.env) :: starEach [e2, e3] C.env := by rfl) (hs2 : starEach [e2, e3] C.env = (false, eval e2 C.env) :: starEach [e3] C.env := by rfl) (hs3 : starEach [e3] C.env = (false, eval e3 C.env) :: starEach [] C.env := by rfl)
    (hp : (backTo pos (starEach [e2, e3] C.env)).any (·.1) = false := by rfl) : TSrc C ρ (.Tuple elts k pt) (.Call (.Name x px) [e1, e2, e3] [] pos) (zipped xs ys zs) := by
  intro s E P
  refine PyProof.Rows.Call_ (gl_name P g hx ?_ hd)
  refine PyProof.Rows.callWith_type1 (wpAny_mono (evs_cons h1 (evs_cons h2 (evs_cons h3 evs_nil hs3) hs2) hs pos s E P) (fun vs s₁ h₁ => ?_) fun _ _ e => e) hs hp
  obtain ⟨kp, q⟩ := h₁
  obtain ⟨v1, _, rfl, q1, q⟩ := q.cons_inv
  obtain ⟨v2, _, rfl, q2, q⟩ := q.cons_inv
  obtain ⟨v3, rfl, q3⟩ := q.one_inv
  obtain ⟨l1, vs1, rfl, n1, hl1, r1⟩ := q1.list_inv
  obtain ⟨l2, vs2, rfl, n2, hl2, r2⟩ := q2.list_inv
  obtain ⟨l3, vs3, rfl, n3, hl3, r3⟩ := q3.list_inv
  refine call_zip3 hl1 hl2 hl3 fun h' Z hk => ?_
  exact zip3_src (P.keep kp) hl1 hl2 hl3 n1 n2 n3 r1 r2 r3 m1 m2 m3 Z hk (fun b m => none_old kp m) kp
end

section
variable {B : Cx} {sin s : Shared} {K : Addr → Obj → Prop} {Y : List Addr} {ρ : List (Str × PyData)} {o : Option Own} {E : Value → Shared → Prop} {Q : Flow → Shared → Prop} {rest : List Stmt}

theorem unpack3 {t : Addr} {v₁ v₂ v₃ : Value} {A : Around} {Q : List Value → Shared → Prop} (hh : A.handled = none) (ht : s.heap.IsTuple t [v₁, v₂, v₃].toArray)
    (h : ∀ h', Heap.ExtBut s.heap.objs.size s.heap h' → Q [v₁, v₂, v₃] { s with heap := h' }) : wpAny (model B.prog B.w) A (unpackItems (.ref t) 3 none) Q E s := by
  have e : 3 = [v₁, v₂, v₃].toArray.size := by rw [List.size_toArray]; rfl
  rw [e]
  exact wpAny_unpackItems_tuple hh ht h
/-- (x, y), z, u from a triple -/
theorem tg_nest {x y z u : Str} {px py pz pu pt pt' : Pos} {k k' : Nat} {d e f g : PyData} (hx : Slot B.env x) (hy : Slot B.env y) (hz : Slot B.env z) (hu : Slot B.env u) :
    Tg B (.Tuple [.Tuple [.Name x px, .Name y py] k pt, .Name z pz, .Name u pu] k' pt') [x, y, z, u] (.tuple [.tuple [d, e], f, g]) [(u, g), (z, f), (y, e), (x, d)] := by
  intro sin K Y ρ o s v Q E S hv ho h
  obtain ⟨a', vs', rfl, n, t, r⟩ := hv.tuple_inv
  obtain ⟨v₁, _, rfl, a, r⟩ := r.cons_inv
  obtain ⟨v₂, _, rfl, b, r⟩ := r.cons_inv
  obtain ⟨v₃, rfl, c⟩ := r.one_inv
  refine wpAny_assign_Tuple S.pre.ok.good.handled t rfl rfl fun h' hx' => ?_
  have k' : Keeps s { s with heap := h' } := ⟨h', s.toks, rfl, fun b o e => hx' b o (Nat.ne_of_lt (Heap.lt_size e)) e⟩
  have u0 : Up (Y ++ B.X) s.heap (Y ++ B.X) h' := Up.keep (kpH k')
  show wpAny _ _ (do holding [v₂, v₃] (assign (.Tuple [.Name x px, .Name y py] k pt) B.env v₁); do holding [v₃] (assign (.Name z pz) B.env v₂); do holding [] (assign (.Name u pu) B.env v₃); pure ()) _ _ _
  refine wpAny_bind (wpAny_holding (asg_two (S.keep k') (a.up u0) hx hy (fun q e => ⟨fun w => ho q e (by rw [w]; simp), fun w => ho q e (by rw [w]; simp)⟩) fun s₁ S₁ u₁ => ?_))
  refine wpAny_bind (wpAny_holding (wpAny_assign_Name (st_store S₁ hz ((b.up u0).up u₁) (fun q e w => ho q e (by rw [w]; simp)) fun s₂ S₂ u₂ => ?_)))
  exact wpAny_bind (wpAny_holding (wpAny_assign_Name (st_store S₂ hu (((c.up u0).up u₁).up u₂) (fun q e w => ho q e (by rw [w]; simp)) fun s₃ S₃ _ => wpAny_pure (h s₃ S₃))))

/-- while -/
theorem ex_while {σ : Type} {test : Expr} {body : List Stmt} {pos : Pos} (R : σ → List (Str × PyData)) (inv : Nat → σ → Prop) (n₀ : Nat) (x₀ : σ) (S : St B sin K Y ρ none s) (h0 : inv n₀ x₀) (hρ : Sub (R x₀) ρ)
    (turn : ∀ n x s', inv n x → St B sin K Y (R x) none s' → ∃ b, Tr (B.on Y) (R x) test b ∧
      (b = true → ∀ s'', St B sin K Y (R x) none s'' → wpAny (model B.prog B.w) B.A (execs body B.env) (LP B sin K Y R (fun _ => none) (fun x' => ∃ m, m < n ∧ inv m x') Q) (notedBy (model B.prog B.w) B.A B.env fun e s' => cameBackBy (model B.prog B.w) B.A B.env E e s') s'') ∧
      (b = false → ∀ s'', St B sin K Y (R x) none s'' → wpAny (model B.prog B.w) B.A (execs rest B.env) Q E s'')) :
    wpAny (model B.prog B.w) B.A (execs (.While test body [] pos :: rest) B.env) Q E s := by
  refine wpAny_execs_cons (wpAny_While (codeAny_whileLoop (fun n s' => ∃ x, inv n x ∧ St B sin K Y (R x) none s') ?_ n₀ ⟨x₀, h0, S.weak (Sub.at hρ)⟩))
  rintro n s' ⟨x, hx, S'⟩
  obtain ⟨b, ht, h1, h2⟩ := turn n x s' hx S'
  refine wpAny_mono (ht s' _ S'.pre) (fun r s₂ h₂ => ?_) fun _ _ e => e
  obtain ⟨rfl, k⟩ := h₂
  have S₂ := S'.keep k
  cases r with
  | true =>
    simp only [if_true]
    refine wpAny_mono (h1 rfl s₂ S₂) (fun f s₃ h₃ => ?_) fun _ _ e => e
    cases f with
    | next => obtain ⟨x', ⟨m, hm, hi⟩, S₃⟩ := h₃; exact ⟨m, hm, x', hi, S₃⟩
    | cont => obtain ⟨x', ⟨m, hm, hi⟩, S₃⟩ := h₃; exact ⟨m, hm, x', hi, S₃⟩
    | brk => exact h₃.elim
    | ret v => exact h₃
  | false =>
    simp only [Bool.false_eq_true, if_false]
    exact wpAny_execs_nil (h2 rfl s₂ S₂)
end
end Mine
end

section
set_option maxRecDepth 100000
namespace Mine

/-! the program's functions, by their place in its text -/
noncomputable def nth (i : Nat) : Option PySem.Stmt := PySem.Challenge.pw_pq0928_01.main.body[i]?
noncomputable def fname (i : Nat) : Str := match nth i with | some (.FunctionDef n ..) => n | _ => ""
noncomputable def fparams (i : Nat) : Arguments := match nth i with | some (.FunctionDef _ p ..) => p | _ => ⟨[], [], none, [], [], none, []⟩
noncomputable def fbody (i : Nat) : List PySem.Stmt := match nth i with | some (.FunctionDef _ _ b ..) => b | _ => []
noncomputable def fscope (i : Nat) : Scope := match nth i with | some (.FunctionDef _ _ _ _ _ _ s ..) => s | _ => ⟨.function, [], false, false, []⟩

structure FnAt (hB : Heap) (a : Addr) (i : Nat) : Prop where
  at' : ∃ o pm cd doc, hB.get? a = some o ∧ o.data = .func (Calls.docDef (fname i) (fparams i) (fbody i) (fscope i) pm cd doc) ∧ hB.CodeRec cd (fname i)

theorem one_of {vs : List Value} (h : vs.length = 1) : ∃ a, vs = [a] := List.length_eq_one_iff.mp h
theorem two_of {vs : List Value} (h : vs.length = 2) : ∃ a b, vs = [a, b] := by
  cases vs with
  | nil => cases h
  | cons a r =>
    obtain ⟨b, rfl⟩ := one_of (vs := r) (Nat.succ.inj h)
    exact ⟨a, b, rfl⟩
theorem three_of {vs : List Value} (h : vs.length = 3) : ∃ a b c, vs = [a, b, c] := by
  cases vs with
  | nil => cases h
  | cons a r =>
    obtain ⟨b, c, rfl⟩ := two_of (vs := r) (Nat.succ.inj h)
    exact ⟨a, b, c, rfl⟩

/-- what a call of a function gives -/
noncomputable def Fun (prog : Program) (w : World) (hB : Heap) (n : Nat) (a : Addr) (args : List PyData) (d : PyData) : Prop :=
  ∀ (A : Around) (X : List Addr) (s : Shared) (E : Value → Shared → Prop) (vs : List Value), Good n A → Kp hB s.heap → (∀ a ∈ X, ∃ o, s.heap.get? a = some o) → IsAll X s.heap vs args →
    wpAny (model prog w) A (call (.ref a) vs) (fun v s' => Keeps s s' ∧ Is X s'.heap v d) E s

theorem zip_lookup_rev {α : Type} : ∀ {xs : List Str}, xs.Nodup → ∀ {vs : List α}, ∀ x : Str, ((xs.zip vs).reverse).lookup x = (xs.zip vs).lookup x
  | [], _, _, _ => rfl
  | _ :: _, _, [], _ => rfl
  | y :: ys, n, v :: vs, x => by
    have n' := List.nodup_cons.mp n
    rw [List.zip_cons_cons, List.reverse_cons, List.lookup_append, zip_lookup_rev n'.2 x, List.lookup_cons, List.lookup_cons, List.lookup_nil]
    cases h : x == y with
    | true =>
      have e := eq_of_beq h
      subst e
      have : (ys.zip vs).lookup x = none := by
        rw [List.lookup_eq_none_iff]
        intro p hp
        have : p.1 ∈ ys := (List.of_mem_zip hp).1
        simp only [bne_iff_ne, ne_eq]
        rintro rfl
        exact n'.1 this
      rw [this]; rfl
    | false =>
      cases (ys.zip vs).lookup x <;> rfl
theorem zip_vars {X : List Addr} {h : Heap} : ∀ {xs : List Str} {vs : List Value} {ds : List PyData}, IsAll X h vs ds → ∀ {x d}, (xs.zip ds).lookup x = some d → ∃ v, (xs.zip vs).lookup x = some v ∧ Is X h v d
  | [], _, _, _, _, _, e => by simp at e
  | _ :: _, _, _, .nil, _, _, e => by simp at e
  | y :: ys, _, _, .cons a r, x, d, e => by
    rw [List.zip_cons_cons, List.lookup_cons] at e
    rw [List.zip_cons_cons, List.lookup_cons]
    cases h : x == y with
    | true => rw [h] at e; cases e; exact ⟨_, rfl, a⟩
    | false => rw [h] at e; exact zip_vars r e

/-- a frame is entered -/
theorem st_enter {prog : Program} {w : World} {hB : Heap} {A : Around} {X : List Addr} {s : Shared} {name : Str} {scope : Scope} {a : Addr} {cd : Value} {h₁ : Heap} {tk : Nat} {xs : List Str} {vs : List Value} {ds : List PyData}
    (g : Good 1 A) (base : Kp hB s.heap) (liv : ∀ a ∈ X, ∃ o, s.heap.get? a = some o) (hv : IsAll X s.heap vs ds) (F : Fr s.heap s.heap.objs.size h₁ (fun x => (xs.zip vs).reverse.lookup x)) (hk : scope.kind = .function) (nd : xs.Nodup) (hl : ∀ x ∈ xs, scope.names.lookup x = some .local) :
    St ⟨prog, w, hB, A, X, envOf name scope s.heap.objs.size a cd⟩ s (fun b x => s.heap.get? b = some x) [s.heap.objs.size] (xs.zip ds) none { s with heap := h₁, toks := tk } := by
  have k : Kp s.heap h₁ := F.keep
  have nL : s.heap.get? s.heap.objs.size = none := next_none _
  refine ⟨⟨⟨g, hk, rfl, rfl⟩, base.trans k, fun b m => ?_, fun x d e => ?_⟩, ⟨h₁, tk, rfl⟩, k, List.mem_singleton.mpr rfl, fun x e => ?_, ⟨_, F.ns⟩, fun y c e => (nomatch e), fun y z c e => (nomatch e), fun q e => (nomatch e), fun b x e => base b x e, fun b x e => e⟩
  · rcases List.mem_append.mp m with m | m
    · obtain ⟨o, es, ep, e, _⟩ := F.ns
      exact ⟨o, by rw [List.mem_singleton.mp m]; exact e⟩
    · obtain ⟨o, e⟩ := liv b m
      exact ⟨o, k b o e⟩
  · obtain ⟨v, e1, e2⟩ := zip_vars hv e
    have hx : x ∈ xs := by
      have : (x, d) ∈ xs.zip ds := by
        have := List.lookup_eq_some_iff.mp e
        obtain ⟨l, r, q, _⟩ := this
        rw [q]; simp
      exact (List.of_mem_zip this).1
    refine ⟨v, .inl ⟨hl x hx, _, F.ns, by rw [zip_lookup_rev nd, e1]⟩, e2.up fun b o n e => ⟨fun m => ?_, k b o e⟩⟩
    rcases List.mem_append.mp m with m | m
    · rw [List.mem_singleton.mp m, nL] at e; cases e
    · exact n m
  · have e : s.heap.get? s.heap.objs.size = some x := e
    rw [nL] at e; cases e

/-- a frame's end: a datum is handed back, what was there stands -/
abbrev Ret (sin : Shared) (X : List Addr) (d : PyData) (f : Flow) (s' : Shared) : Prop := ∃ v, f = .ret v ∧ Keeps sin s' ∧ Is X s'.heap v d
theorem fun_enter {prog : Program} {w : World} {hB : Heap} {n i : Nat} {a : Addr} {ds : List PyData} {d : PyData} (xs : List Str) (lim : hB.NoLimit) (f : FnAt hB a i)
    (hbind : ∀ pm cd doc vs, vs.length = xs.length → bindArgs (Calls.docDef (fname i) (fparams i) (fbody i) (fscope i) pm cd doc) ⟨vs, []⟩ = pure (xs.zip vs)) (hds : ds.length = xs.length)
    (body : ∀ A L cd X s sin E, Good (n + 1) A → St ⟨prog, w, hB, A, X, envOf (fname i) (fscope i) L a cd⟩ sin (fun b x => sin.heap.get? b = some x) [L] (xs.zip ds) none s →
      wpAny (model prog w) A (execs (fbody i) (envOf (fname i) (fscope i) L a cd)) (Ret sin X d) E s)
    (hk : (fscope i).kind = .function := by rfl) (nd : xs.Nodup := by decide) (hl : (xs.all fun x => decide ((fscope i).names.lookup x = some .local)) = true := by decide) (hcell : ∀ x ∈ (fscope i).names, x.2 ≠ .cell := by decide)
    (hco : (fscope i).isCoroutine = false := by rfl) (hgen : (fscope i).isGenerator = false := by rfl) :
    Fun prog w hB (n + 2) a ds d := by
  intro A X s E vs g base liv hv
  obtain ⟨o, pm, cd, doc, ho, hdat, hcd⟩ := f.at'
  have hl' : ∀ x ∈ xs, (fscope i).names.lookup x = some .local := fun x m => of_decide_eq_true (List.all_eq_true.mp hl x m)
  refine wpAny_call (PyProof.Rows.call_plain (binds := xs.zip vs) g.room (base _ _ ho) hdat (lim.keeps base) (hcd.keeps base) (hbind _ _ _ _ (by rw [hv.length, hds])) (fun x m => hl' _ (List.of_mem_zip m).1) (fun h₁ F => ?_) hco hgen hk hcell)
  refine wpAny_mono (body (A.deeper (envOf (fname i) (fscope i) s.heap.objs.size a cd)) _ cd X _ s _ g.deeper (st_enter (g.deeper.mono (by omega)) base liv hv F hk nd hl')) (fun f s' h' => ?_) fun _ _ e => e
  obtain ⟨v, rfl, k, q⟩ := h'
  exact ⟨k, q⟩

section
variable {C : Cx} {ρ : List (Str × PyData)}
/-- a call of a function of the program -/
theorem ev_call {x : Str} {n i : Nat} {a : Addr} {e : Expr} {es : List Expr} {ds : List PyData} {d : PyData} {pos px : Pos} (g : Gl C.hB x (.ref a)) (f : FnAt C.hB a i) (F : Fun C.prog C.w C.hB n a ds d) (gd : Good n C.A) (hx : C.env.kindOf x = some .globalImplicit) (h : Evs C ρ (e :: es) ds)
    (hd : (x == ("__debug__" : Str)) = false := by decide) (hs : starEach (e :: es) C.env = (false, eval e C.env) :: starEach es C.env := by rfl) : Ev C ρ (.Call (.Name x px) (e :: es) [] pos) d := by
  intro s E P
  obtain ⟨o, pm, cd, doc, ho, hdat, hcd⟩ := f.at'
  refine PyProof.Rows.Call_ (gl_name P g hx ?_ hd)
  refine PyProof.Rows.callWith_def hdat (wpAny_mono (h pos s E P) (fun vs s₁ h₁ => ?_) fun _ _ e => e) hs
  have P₁ := P.keep h₁.1
  refine ⟨P₁.base _ _ ho, wpAny_mono (F C.A C.X s₁ E vs gd P₁.base P₁.liv h₁.2) (fun v s₂ h₂ => ⟨keeps_trans h₁.1 h₂.1, h₂.2⟩) fun _ _ e => e⟩
theorem ev_call0 {x : Str} {n i : Nat} {a : Addr} {d : PyData} {pos px : Pos} (g : Gl C.hB x (.ref a)) (f : FnAt C.hB a i) (F : Fun C.prog C.w C.hB n a [] d) (gd : Good n C.A) (hx : C.env.kindOf x = some .globalImplicit)
    (hd : (x == ("__debug__" : Str)) = false := by decide) : Ev C ρ (.Call (.Name x px) [] [] pos) d := by
  intro s E P
  obtain ⟨o, pm, cd, doc, ho, hdat, hcd⟩ := f.at'
  refine PyProof.Rows.Call_ (gl_name P g hx ?_ hd)
  refine Calls.callWith_function (o := o) (evalArgs_nil3 ⟨⟨P.base _ _ ho, hdat⟩, ?_⟩)
  exact wpAny_mono (F C.A C.X s E [] gd P.base P.liv .nil) (fun v s₂ h₂ => h₂) fun _ _ e => e

/-- "sep".join([..]) -/
theorem ev_join {o e : Expr} {sep : Str} {ys : List Str} {apos pos : Pos} (ho : Ev C ρ o (.str sep)) (he : Ev C ρ e (.list (ys.map .str))) (hw : (ys.map (·.length)).sum + ys.length ≤ 1048576) (hsep : sep.length ≤ 16)
    (hb : attributeBase o "join" C.env (eval o C.env) = eval o C.env := by rfl) (hl : (apos.endLine == pos.line) = true := by rfl) (hse : starEach [e] C.env = [(false, eval e C.env)] := by rfl) :
    Ev C ρ (.Call (.Attribute o "join" apos) [e] [] pos) (.str (Txt.join sep ys)) := by
  intro s E P
  refine wpAny_Call_method_lateS hb (by rw [hse]; rfl) hl (wpAny_mono (ho s E P) (fun u s₁ h₁ => ?_) fun _ _ e => e)
  obtain ⟨k₁, q₁⟩ := h₁
  cases q₁
  refine ⟨"str", "str.join", F.plainAttrs_str, F.slot_str_join, F.type_str_join, typeIs_str _ _ _, (fun _ e => nomatch e), ?_⟩
  rw [hse]
  refine Calls.callWith_builtin rfl (Calls.evalArgs_plain (Calls.spliced_cons (wpAny_mono (he s₁ E (P.keep k₁)) (fun v s₂ h₂ => Calls.spliced_nil ?_) fun _ _ e => e)))
  obtain ⟨k₂, q₂⟩ := h₂
  cases q₂ with
  | list n l r =>
    obtain ⟨ll, rfl, hys⟩ := strVals r
    exact SC.join l hys (joinOk_of_weight hw hsep) fun t' k => ⟨keeps_trans (keeps_trans k₁ k₂) (keeps_toks _ _), .str _ _⟩

/-- TEXT.split(sep) -/
theorem ev_split {x : Str} {px : Pos} {e : Expr} {y sep : Str} {ys : List Str} {apos pos : Pos} (ho : Ev C ρ (.Name x px) (.str y)) (he : Ev C ρ e (.str sep)) (hy : (sep.length == 0) = false) (hz : y.length ≤ 1000) (hys : ys.length ≤ 1000)
    (h1 : (decide (y.length < sep.length) || decide (Builtin.Str.strKind y < Builtin.Str.strKind sep)) = false) (hf : (Builtin.Str.occurrences y sep 0 y.length (y.length + 1)).isEmpty = false) (hn : Builtin.Str.partsBetween y (Builtin.Str.occurrences y sep 0 y.length (y.length + 1)) sep.length = ys)
    (hb : attributeBase (.Name x px) "split" C.env (eval (.Name x px) C.env) = eval (.Name x px) C.env := by rfl) (hl : (apos.endLine == pos.line) = true := by rfl) (hse : starEach [e] C.env = [(false, eval e C.env)] := by rfl) :
    Ev C ρ (.Call (.Attribute (.Name x px) "split" apos) [e] [] pos) (.list (ys.map .str)) := by
  intro s E P
  refine wpAny_Call_method_lateS hb (by rw [hse]; rfl) hl (wpAny_mono (ho s E P) (fun u s₁ h₁ => ?_) fun _ _ e => e)
  obtain ⟨k₁, q₁⟩ := h₁
  cases q₁
  rw [hse]
  refine ⟨"str", _, F.plainAttrs_str, F.slot_str_split, F.type_str_split, typeIs_str _ _ _, (fun _ e => nomatch e), method1_meets F.slot_str_split F.entry_str_split (wpAny_mono (he s₁ E (P.keep k₁)) (fun v s₂ h₂ => ?_) fun _ _ e => e)⟩
  obtain ⟨k₂, q₂⟩ := h₂
  cases q₂
  have kk := keeps_trans k₁ k₂
  refine ⟨typeIs_str _ _ _, F.args_str_split_2 _ _, ⟨_, meets_str_split_sep y sep _ _ h1 hy hf (by rw [sizeLine_eq]; omega) (by rw [hn, sizeLine_eq]; omega), ?_⟩⟩
  rw [hn]
  show wants _ E _ { s₂ with toks := _, heap := s₂.heap.push { cls := .type "list", data := .seq (strsFrom s₂.toks ys).toArray } }
  rw [strsFrom_eq]
  refine ⟨keeps_trans kk (keeps_push s₂ _ _), .list ((P.keep kk).new (Nat.le_refl _)) ⟨_, Heap.get?_push_size _ rfl, rfl, _, rfl⟩ ?_⟩
  have := strsAll (X := C.X) (h := s₂.heap.push { cls := .type "list", data := .seq (strValues (PySem.numbered s₂.toks ys)).toArray }) (PySem.numbered s₂.toks ys)
  rw [numbered_texts] at this
  exact this
end
end Mine
end

section
set_option maxRecDepth 100000
namespace Mine

structure Base (hB : Heap) : Prop where
  lim : hB.NoLimit
  f5 : FnAt hB 66 5
  f8 : FnAt hB 73 8
  f9 : FnAt hB 80 9
  f10 : FnAt hB 87 10
  f11 : FnAt hB 92 11
  f12 : FnAt hB 99 12
  f13 : FnAt hB 106 13
  f16 : FnAt hB 114 16
  f17 : FnAt hB 121 17
  f18 : FnAt hB 128 18
  g5 : Gl hB "upper_text" (.ref 66)
  g8 : Gl hB "sort_words" (.ref 73)
  g9 : Gl hB "read_sort_keys" (.ref 80)
  g10 : Gl hB "show_sort_keys" (.ref 87)
  g11 : Gl hB "sort_rows" (.ref 92)
  g12 : Gl hB "is_ahead" (.ref 99)
  g13 : Gl hB "sorted_place" (.ref 106)
  g15 : Gl hB "_law_words" (.ref 107)
  g16 : Gl hB "_law_read" (.ref 114)
  g17 : Gl hB "_law_heard" (.ref 121)
  g18 : Gl hB "_law_first" (.ref 128)
  gW : ∃ t, Gl hB "SORT_WORDS" (.str "ARRIVAL CC DATE DISPLAYFROM DISPLAYTO FROM SIZE SUBJECT TO" t)
  bAbs : Gl hB "abs" (.builtin "abs")
  bInt : Gl hB "int" (.type "int")
  bLen : Gl hB "len" (.builtin "len")
  bRange : Gl hB "range" (.type "range")
  bEnum : Gl hB "enumerate" (.type "enumerate")
  bSorted : Gl hB "sorted" (.builtin "sorted")
  bZip : Gl hB "zip" (.type "zip")
  bChr : Gl hB "chr" (.builtin "chr")
  bOrd : Gl hB "ord" (.builtin "ord")

theorem ev_eq {C : Cx} {ρ : List (Str × PyData)} {e : Expr} {d d' : PyData} (h : Ev C ρ e d) (q : d = d') : Ev C ρ e d' := q ▸ h
theorem tr_eq {C : Cx} {ρ : List (Str × PyData)} {e : Expr} {d d' : Bool} (h : Tr C ρ e d) (q : d = d') : Tr C ρ e d' := q ▸ h

section
variable {prog : Program} {w : World} {hB : Heap}

noncomputable def up1 (c : Nat) : Nat := if 97 ≤ c ∧ c ≤ 122 then c - 32 else c
noncomputable def upF : PyData → PyData
  | .str x => .str ⟨(x.cps.toList.map up1).toArray⟩
  | d => d
noncomputable def upTxt (x : Str) : Str := Txt.join "" (x.cps.toList.map fun c => ⟨#[up1 c]⟩)

theorem lt_one (a b : Nat) : decide ([a] < [b]) = decide (a < b) := by
  have : ([a] < [b]) ↔ a < b := by
    refine ⟨fun h => ?_, fun h => List.Lex.rel h⟩
    cases h with
    | rel h => exact h
    | cons h => cases h
  simp only [this]

theorem fun_upper (b : Base hB) (t : Str) (ht : t.length ≤ 1000) : Fun prog w hB 4 66 [.str t] (.str (upTxt t)) := by
  refine fun_enter ["text"] b.lim b.f5 (fun pm cd doc vs h => ?_) rfl (fun A L cd X s sin E g S => ?_)
  · obtain ⟨v, rfl⟩ := one_of h
    rfl
  · refine ex_return S (ev_join (ys := t.cps.toList.map fun c => ⟨#[up1 c]⟩) ev_str ?_ ?_ ?_) fun v s' k i => ⟨v, rfl, k, i⟩
    · refine ev_eq (ev_comp upF (src_text (ev_name rfl)) ?_ rfl ?_ rfl ?_ rfl caught_nil ?_ fun c d hd => ?_) ?_
      · show (t.cps.toList.map _).length ≤ _
        rw [List.length_map, Array.length_toList]
        exact Nat.le_trans ht (by decide)
      · decide
      · decide
      · intro d hd
        obtain ⟨c, _, rfl⟩ := List.mem_map.mp hd
        rfl
      · obtain ⟨c, _, rfl⟩ := List.mem_map.mp hd
        refine ev_if (x := decide (97 ≤ c ∧ c ≤ 122)) (tr_eq (tr_chain ev_str (ev_name rfl) ev_str cmp_leStr cmp_leStr) ?_) (fun h => ?_) fun h => ?_
        · show (!decide ([c] < [97]) && !decide ([122] < [c])) = _
          rw [lt_one, lt_one]
          by_cases h1 : c < 97 <;> by_cases h2 : 122 < c <;> simp [h1, h2] <;> omega
        · have h := of_decide_eq_true h
          refine ev_eq (ev_bi b.bChr rfl (evs_cons (ev_sub (ev_bi b.bOrd rfl (evs_cons (ev_name rfl) evs_nil) bi_ord) ev_int) evs_nil) (bi_chr (by omega) (by omega))) ?_
          show PyData.str ⟨#[((c : Int) - 32).toNat]⟩ = .str ⟨#[up1 c]⟩
          rw [up1, if_pos h]
          have : ((c : Int) - 32).toNat = c - 32 := by omega
          rw [this]
        · have h := of_decide_eq_false h
          refine ev_eq (ev_name rfl) ?_
          show PyData.str ⟨#[c]⟩ = .str ⟨#[up1 c]⟩
          rw [up1, if_neg h]
      · show PyData.list ((t.cps.toList.map _).map _) = _
        rw [List.map_map, List.map_map]
        rfl
    · rw [List.map_map, List.length_map, Array.length_toList]
      have : ∀ l : List Nat, (l.map (Str.length ∘ fun c => (⟨#[up1 c]⟩ : Str))).sum = l.length := fun l => by
        induction l with
        | nil => rfl
        | cons a r ih => rw [List.map_cons, List.sum_cons, ih, List.length_cons]; show 1 + _ = _; omega
      rw [this, Array.length_toList]
      have : t.cps.size ≤ 1000 := ht
      omega
    · decide

noncomputable def sortWords : List Str := ["ARRIVAL", "CC", "DATE", "DISPLAYFROM", "DISPLAYTO", "FROM", "SIZE", "SUBJECT", "TO"]
theorem fun_words (b : Base hB) : Fun prog w hB 4 73 [] (.list (sortWords.map .str)) := by
  refine fun_enter [] b.lim b.f8 (fun pm cd doc vs h => ?_) rfl (fun A L cd X s sin E g S => ?_)
  · obtain rfl := List.eq_nil_of_length_eq_zero h
    rfl
  · obtain ⟨t, gW⟩ := b.gW
    refine ex_return S (ev_split (ev_gname gW rfl) ev_str ?_ ?_ ?_ ?_ ?_ ?_) fun v s' k i => ⟨v, rfl, k, i⟩
    · decide
    · decide
    · decide
    · decide +kernel
    · decide +kernel
    · decide +kernel
end
end Mine
end

section
set_option maxRecDepth 100000
namespace Mine

noncomputable def keyD (k : Str × Bool) : PyData := .tuple [.str k.1, .bool k.2]
noncomputable def keysD (ks : List (Str × Bool)) : PyData := .list (ks.map keyD)
noncomputable def rowD (r : Int × List Int) : PyData := .tuple [.int r.1, .list (r.2.map .int)]
noncomputable def rowsD (rs : List (Int × List Int)) : PyData := .list (rs.map rowD)
noncomputable def textsD (ts : List Str) : PyData := .list (ts.map .str)

noncomputable def showKey (k : Str × Bool) : List Str := if k.2 then ["REVERSE", k.1] else [k.1]
noncomputable def showKeys (ks : List (Str × Bool)) : List Str := ks.flatMap showKey
theorem showKeys_length (ks : List (Str × Bool)) : (showKeys ks).length ≤ 2 * ks.length := by
  induction ks with
  | nil => exact Nat.le_refl _
  | cons k r ih =>
    show (showKey k ++ showKeys r).length ≤ _
    rw [List.length_append, List.length_cons]
    have : (showKey k).length ≤ 2 := by unfold showKey; split <;> simp
    omega

noncomputable def two (x y : Str) : PyData → List (Str × PyData)
  | .tuple [a, b] => [(y, b), (x, a)]
  | _ => []

section
variable {prog : Program} {w : World} {hB : Heap}

theorem fun_show (b : Base hB) (ks : List (Str × Bool)) (hk : ks.length ≤ 1000) : Fun prog w hB 4 87 [keysD ks] (textsD (showKeys ks)) := by
  refine fun_enter ["keys"] b.lim b.f10 (fun pm cd doc vs h => ?_) rfl (fun A L cd X s sin E g S => ?_)
  · obtain ⟨v, rfl⟩ := one_of h
    rfl
  · refine ex_own S (.inl rfl) rfl fun s₁ l hl S₁ => ?_
    refine ex_for (xs := ["word", "is_reverse"]) (f := two "word" "is_reverse") (fun _ => [("keys", keysD ks)]) (fun i : Nat => some ⟨"found", l, (showKeys (ks.take i)).map .str⟩) (fun i x => i = x) 0 S₁ (tsrc_list (ev_name rfl)) ?_ rfl ⟨rfl, trivial⟩ rfl ?_ ?_ ?_ ?_
    · intro d hd
      obtain ⟨k, _, rfl⟩ := List.mem_map.mp hd
      exact tg_two (.inl rfl) (.inl rfl)
    · intro x q h
      cases h
      show ("found" : Str) ∉ _
      decide
    · intro x q h
      cases h
      exact ⟨_, rfl, rfl⟩
    · rintro wr K' i _ d s' hK hd rfl S
      rw [List.getElem?_map] at hd
      obtain ⟨k, hk', rfl⟩ := Option.map_eq_some_iff.mp hd
      have hi : i < ks.length := (List.getElem?_eq_some_iff.mp hk').1
      have e : showKeys (ks.take (i + 1)) = showKeys (ks.take i) ++ showKey k := by
        unfold showKeys
        rw [List.take_add_one, hk', List.flatMap_append]
        simp
      have hl1 := showKeys_length (ks.take i)
      rw [List.length_take] at hl1
      have hl2 : (showKey k).length ≤ 2 := by unfold showKey; split <;> simp
      refine ex_extend (es := (showKey k).map .str) S (ev_if (x := k.2) (tr_val (ev_name rfl)) (fun h => ?_) fun h => ?_) (by rw [List.length_map, List.length_map]; omega) fun s'' S' => ?_
      · refine ev_eq (ev_list (evs_cons ev_str (evs_cons (ev_name rfl) evs_nil))) ?_
        rw [showKey, h]
        rfl
      · refine ev_eq (ev_list (evs_cons (ev_name rfl) evs_nil)) ?_
        rw [showKey, h]
        rfl
      · refine ex_nil ⟨i + 1, rfl, ?_⟩
        show St _ _ _ _ _ (some ⟨_, _, (showKeys (ks.take (i + 1))).map .str⟩) _
        rw [e, List.map_append]
        exact S'.weak (Sub.at ⟨rfl, trivial⟩)
    · rintro _ s' rfl S
      rw [List.length_map, List.take_length] at S
      exact ex_return (own_done S hl) (ev_name rfl) fun v s' k i => ⟨v, rfl, k, i⟩
end
end Mine
end

section
set_option maxRecDepth 100000
namespace Mine

noncomputable def aheadW : List (Str × Bool) → List Int → List Int → Option Bool
  | k :: ks, a :: as, b :: bs => if a = b then aheadW ks as bs else some (decide (a < b) != k.2)
  | _, _, _ => none
noncomputable def ahead (ks : List (Str × Bool)) (r o : Int × List Int) : Bool := match aheadW ks r.2 o.2 with
  | some b => b
  | none => decide (r.1 < o.1)
theorem aheadW_drop {ks : List (Str × Bool)} {as bs : List Int} {i : Nat} {k : Str × Bool} {a b : Int} (h1 : ks[i]? = some k) (h2 : as[i]? = some a) (h3 : bs[i]? = some b) :
    aheadW (ks.drop i) (as.drop i) (bs.drop i) = if a = b then aheadW (ks.drop (i + 1)) (as.drop (i + 1)) (bs.drop (i + 1)) else some (decide (a < b) != k.2) := by
  have d : ∀ {α : Type} {l : List α} {x : α}, l[i]? = some x → l.drop i = x :: l.drop (i + 1) := fun {α l x} h => by
    obtain ⟨hi, rfl⟩ := List.getElem?_eq_some_iff.mp h
    exact List.drop_eq_getElem_cons hi
  rw [d h1, d h2, d h3]
  rfl

theorem eqv_int {a b : Int} : PyData.eqv (.int a) (.int b) = decide (a = b) := by
  show (_ == _) = _
  by_cases h : a = b <;> simp [h]
theorem eqv_ne {a b : Int} (h : (!PyData.eqv (.int a) (.int b)) = true) : a ≠ b := by
  rw [eqv_int] at h
  simpa using h
theorem eqv_eq {a b : Int} (h : (!PyData.eqv (.int a) (.int b)) = false) : a = b := by
  rw [eqv_int] at h
  simpa using h
theorem eqv_bool {a b : Bool} : (!PyData.eqv (.bool a) (.bool b)) = (a != b) := by cases a <;> cases b <;> rfl
theorem ev_val {X : List Addr} {h : Heap} {v : Value} {d d' : PyData} (i : Is X h v d) (q : d = d') : Is X h v d' := q ▸ i

section
variable {prog : Program} {w : World} {hB : Heap}
variable {C : Cx} {ρ : List (Str × PyData)}

/-- row[1][at] -/
theorem ev_worth {x y : Str} {px py p1 p2 p3 : Pos} {kk : Nat} {r : Int × List Int} {i : Nat} {a : Int} (hx : ρ.lookup x = some (rowD r)) (hy : ρ.lookup y = some (.int (i : Nat))) (h : r.2[i]? = some a) (hi : i < 1000)
    (h1 : (x == ("__debug__" : Str)) = false := by decide) (h2 : (y == ("__debug__" : Str)) = false := by decide) :
    Ev C ρ (.Subscript (.Subscript (.Name x px) (.Constant (.int 1) kk p1) p2) (.Name y py) p3) (.int a) :=
  ev_item (ev_tupItem (i := 1) (ev_name hx h1) ev_int (by decide) (by decide) rfl) (ev_name hy h2) (by omega) (by omega) (by rw [List.getElem?_map, Int.toNat_natCast, h]; rfl)

theorem fun_ahead (b : Base hB) (ks : List (Str × Bool)) (r o : Int × List Int) (hk : ks.length ≤ 900) (h1 : r.2.length = ks.length) (h2 : o.2.length = ks.length) :
    Fun prog w hB 4 99 [keysD ks, rowD r, rowD o] (.bool (ahead ks r o)) := by
  refine fun_enter ["keys", "one", "other"] b.lim b.f12 (fun pm cd doc vs h => ?_) rfl (fun A L cd X s sin E g S => ?_)
  · obtain ⟨v₁, v₂, v₃, rfl⟩ := three_of h
    rfl
  · refine ex_for (xs := ["at", "key"]) (f := two "at" "key") (fun _ => [("keys", keysD ks), ("one", rowD r), ("other", rowD o)]) (fun _ => none) (fun i (_ : Unit) => aheadW ks r.2 o.2 = aheadW (ks.drop i) (r.2.drop i) (o.2.drop i)) () S (tsrc_enum b.bEnum rfl (ev_name rfl)) ?_ rfl ⟨rfl, rfl, rfl, trivial⟩ rfl ?_ ?_ ?_ ?_
    · intro d hd
      obtain ⟨i, hi⟩ := List.getElem?_of_mem hd
      rw [numbered_get] at hi
      obtain ⟨d', _, rfl⟩ := Option.map_eq_some_iff.mp hi
      exact tg_two (.inl rfl) (.inl rfl)
    · intro x q h
      cases h
    · intro x q h
      cases h
    · intro wr K' i _ d s' hK hd inv S
      rw [numbered_get, List.getElem?_map, Nat.zero_add] at hd
      obtain ⟨_, hd', rfl⟩ := Option.map_eq_some_iff.mp hd
      obtain ⟨k, hk', rfl⟩ := Option.map_eq_some_iff.mp hd'
      have hi : i < ks.length := (List.getElem?_eq_some_iff.mp hk').1
      obtain ⟨a, ha⟩ : ∃ a, r.2[i]? = some a := ⟨_, List.getElem?_eq_getElem (by omega)⟩
      obtain ⟨c, hc⟩ : ∃ a, o.2[i]? = some a := ⟨_, List.getElem?_eq_getElem (by omega)⟩
      rw [aheadW_drop hk' ha hc] at inv
      refine ex_if S (tr_cmp (ev_worth rfl rfl ha (by omega)) (ev_worth rfl rfl hc (by omega)) (cmp_ne rfl rfl)) (fun h s₁ S₁ => ?_) fun h s₁ S₁ => ?_
      · refine ex_return S₁ (ev_cmp (ev_cmp (ev_worth rfl rfl ha (by omega)) (ev_worth rfl rfl hc (by omega)) cmp_lt) (ev_tupItem (i := 1) (ev_name rfl) ev_int (by decide) (by decide) rfl) (cmp_ne rfl rfl)) fun v s' k' i' => ⟨v, rfl, k', ev_val i' ?_⟩
        have hac : a ≠ c := eqv_ne h
        rw [if_neg hac] at inv
        rw [ahead, inv, eqv_bool]
      · refine then_nil (ex_nil ⟨(), ?_, S₁.weak (Sub.at ⟨rfl, rfl, rfl, trivial⟩)⟩)
        show aheadW ks r.2 o.2 = _
        rw [inv, if_pos (eqv_eq h)]
    · intro _ s' inv S
      refine ex_return S (ev_cmp (ev_tupItem (i := 0) (ev_name rfl) ev_int (by decide) (by decide) rfl) (ev_tupItem (i := 0) (ev_name rfl) ev_int (by decide) (by decide) rfl) cmp_lt) fun v s' k' i' => ⟨v, rfl, k', ev_val i' ?_⟩
      rw [numbered_length, List.length_map, List.drop_length] at inv
      rw [ahead, inv]
      rfl

theorem fun_place (b : Base hB) (ks : List (Str × Bool)) (rs : List (Int × List Int)) (r : Int × List Int) (k : Nat) (hks : ks.length ≤ 900) (hrs : rs.length ≤ 900) (h1 : ∀ q ∈ rs, q.2.length = ks.length) (h2 : r.2.length = ks.length)
    (hk : k ≤ rs.length) (hp : ∀ i q, rs[i]? = some q → ahead ks q r = decide (i < k)) : Fun prog w hB 6 106 [keysD ks, rowsD rs, rowD r] (.int k) := by
  refine fun_enter ["keys", "rows", "row"] b.lim b.f13 (fun pm cd doc vs h => ?_) rfl (fun A L cd X s sin E g S => ?_)
  · obtain ⟨v₁, v₂, v₃, rfl⟩ := three_of h
    rfl
  · refine ex_pair S (ev_tuple (evs_cons ev_int (evs_cons (ev_bi b.bLen rfl (evs_cons (ev_name rfl) evs_nil) (bi_len (by rw [List.length_map]; omega))) evs_nil))) (.inl rfl) (.inl rfl) (fun q e => (nomatch e)) fun s₁ S₁ => ?_
    refine ex_while (fun p : Nat × Nat => [("low", .int p.1), ("high", .int p.2), ("keys", keysD ks), ("rows", rowsD rs), ("row", rowD r)]) (fun n p => p.1 ≤ k ∧ k ≤ p.2 ∧ p.2 ≤ rs.length ∧ n = p.2 - p.1) rs.length (0, rs.length) S₁ ⟨Nat.zero_le _, hk, Nat.le_refl _, rfl⟩ ⟨rfl, ?_, rfl, rfl, rfl, trivial⟩ ?_
    · show some _ = some _
      rw [List.length_map]
    · rintro n ⟨lo, hi⟩ s' ⟨a1, a2, a3, a4⟩ S₂
      simp only at a1 a2 a3 a4
      refine ⟨decide ((lo : Int) < hi), tr_cmp (ev_name rfl) (ev_name rfl) cmp_lt, fun h s₃ S₃ => ?_, fun h s₃ S₃ => ?_⟩
      · have h := of_decide_eq_true h
        refine ex_assign S₃ (ev_eq (ev_div (ev_add (ev_name rfl) (ev_name rfl)) ev_int (by decide) (PyProof.noPylong_small (by omega))) (d' := .int (((lo + hi) / 2 : Nat) : Int)) ?_) (.inl rfl) (fun q e => (nomatch e)) fun s₄ S₄ => ?_
        · rw [Int.fdiv_eq_ediv_of_nonneg _ (by decide)]
          congr 1
        · obtain ⟨q, hq⟩ : ∃ q, rs[(lo + hi) / 2]? = some q := ⟨_, List.getElem?_eq_getElem (by omega)⟩
          have hq1 := h1 q (List.mem_of_getElem? hq)
          refine ex_if S₄ (tr_val (ev_call b.g12 b.f12 (fun_ahead b ks q r hks hq1 h2) (g.mono (by omega)) rfl (evs_cons (ev_name rfl) (evs_cons (ev_item (ev_name rfl) (ev_name rfl) (by omega) (by omega) ?_) (evs_cons (ev_name rfl) evs_nil))))) (fun h' s₅ S₅ => ?_) fun h' s₅ S₅ => ?_
          · rw [List.getElem?_map, Int.toNat_natCast, hq]; rfl
          · rw [hp _ _ hq] at h'
            have h' := of_decide_eq_true h'
            refine ex_assign S₅ (ev_add (ev_name rfl) ev_int) (.inl rfl) (fun q e => (nomatch e)) fun s₆ S₆ => ?_
            refine then_nil (ex_nil ⟨((lo + hi) / 2 + 1, hi), ⟨_, ?_, ?_, a2, a3, rfl⟩, S₆.weak (Sub.at ⟨?_, rfl, rfl, rfl, rfl, trivial⟩)⟩)
            · show hi - ((lo + hi) / 2 + 1) < n
              omega
            · show (lo + hi) / 2 + 1 ≤ k
              omega
            · show some _ = some _
              congr 2
          · rw [hp _ _ hq] at h'
            have h' := of_decide_eq_false h'
            refine ex_assign S₅ (ev_name rfl) (.inl rfl) (fun q e => (nomatch e)) fun s₆ S₆ => ?_
            refine then_nil (ex_nil ⟨(lo, (lo + hi) / 2), ⟨_, ?_, a1, ?_, ?_, rfl⟩, S₆.weak (Sub.at ⟨rfl, rfl, rfl, rfl, rfl, trivial⟩)⟩)
            · show (lo + hi) / 2 - lo < n
              omega
            · show k ≤ (lo + hi) / 2
              omega
            · show (lo + hi) / 2 ≤ rs.length
              omega
      · have h := of_decide_eq_false h
        have e : lo = k := by omega
        subst e
        exact ex_return S₃ (ev_name rfl) fun v s' k' i' => ⟨v, rfl, k', i'⟩
end
end Mine
end

section
set_option maxRecDepth 100000
namespace Mine

noncomputable def nest (x y z u : Str) : PyData → List (Str × PyData)
  | .tuple [.tuple [d, e], f, g] => [(u, g), (z, f), (y, e), (x, d)]
  | _ => []

noncomputable def lawRead : Nat → List (Str × Bool) → Bool → List Str → List (Str × Bool) × Int
  | at', ks, t, [] => (ks, if ks.isEmpty || t then (at' : Int) else -1)
  | at', ks, t, g :: r => if g == "REVERSE" && !t then lawRead (at' + 1) ks true r else if sortWords.any (· == g) then lawRead (at' + 1) (ks ++ [(g, t)]) false r else (ks, (at' : Int))

section
variable {prog : Program} {w : World} {hB : Heap}

theorem fun_first (b : Base hB) (ks : List (Str × Bool)) (r o : Int × List Int) (h1 : r.2.length = ks.length) (h2 : o.2.length = ks.length) :
    Fun prog w hB 4 128 [keysD ks, rowD r, rowD o] (.bool (ahead ks r o)) := by
  refine fun_enter ["keys", "one", "other"] b.lim b.f18 (fun pm cd doc vs h => ?_) rfl (fun A L cd X s sin E g S => ?_)
  · obtain ⟨v₁, v₂, v₃, rfl⟩ := three_of h
    rfl
  · refine ex_for (xs := ["word", "is_turned", "low", "high"]) (f := nest "word" "is_turned" "low" "high") (fun _ => [("one", rowD r), ("other", rowD o)]) (fun _ => none) (fun i (_ : Unit) => aheadW ks r.2 o.2 = aheadW (ks.drop i) (r.2.drop i) (o.2.drop i)) () S
      (tsrc_zip b.bZip rfl (ev_name rfl) (ev_tupItem (i := 1) (ev_name rfl) ev_int (by decide) (by decide) rfl) (ev_tupItem (i := 1) (ev_name rfl) ev_int (by decide) (by decide) rfl) (List.length_map ..) (by rw [List.length_map, h1]) (by rw [List.length_map, h2])) ?_ rfl ⟨rfl, rfl, trivial⟩ rfl ?_ ?_ ?_ ?_
    · intro d hd
      obtain ⟨i, hi⟩ := List.getElem?_of_mem hd
      have hi' := (List.getElem?_eq_some_iff.mp hi).1
      rw [zipped_length (List.length_map ..) (by rw [List.length_map, h1]) (by rw [List.length_map, h2])] at hi'
      obtain ⟨k, hk'⟩ : ∃ a, ks[i]? = some a := ⟨_, List.getElem?_eq_getElem (by omega)⟩
      obtain ⟨a, ha⟩ : ∃ a, r.2[i]? = some a := ⟨_, List.getElem?_eq_getElem (by omega)⟩
      obtain ⟨c, hc⟩ : ∃ a, o.2[i]? = some a := ⟨_, List.getElem?_eq_getElem (by omega)⟩
      rw [zipped_get (a := keyD k) (b := .int a) (c := .int c) (by rw [List.getElem?_map, hk']; rfl) (by rw [List.getElem?_map, ha]; rfl) (by rw [List.getElem?_map, hc]; rfl)] at hi
      cases hi
      show Tg _ _ _ (.tuple [.tuple [.str k.1, .bool k.2], .int a, .int c]) [("high", .int c), ("low", .int a), ("is_turned", .bool k.2), ("word", .str k.1)]
      exact tg_nest (.inl rfl) (.inl rfl) (.inl rfl) (.inl rfl)
    · intro x q h
      cases h
    · intro x q h
      cases h
    · intro wr K' i _ d s' hK hi inv S
      have hi' := (List.getElem?_eq_some_iff.mp hi).1
      rw [zipped_length (List.length_map ..) (by rw [List.length_map, h1]) (by rw [List.length_map, h2])] at hi'
      obtain ⟨k, hk'⟩ : ∃ a, ks[i]? = some a := ⟨_, List.getElem?_eq_getElem (by omega)⟩
      obtain ⟨a, ha⟩ : ∃ a, r.2[i]? = some a := ⟨_, List.getElem?_eq_getElem (by omega)⟩
      obtain ⟨c, hc⟩ : ∃ a, o.2[i]? = some a := ⟨_, List.getElem?_eq_getElem (by omega)⟩
      rw [zipped_get (a := keyD k) (b := .int a) (c := .int c) (by rw [List.getElem?_map, hk']; rfl) (by rw [List.getElem?_map, ha]; rfl) (by rw [List.getElem?_map, hc]; rfl)] at hi
      cases hi
      rw [aheadW_drop hk' ha hc] at inv
      refine ex_if S (tr_cmp (ev_name rfl) (ev_name rfl) (cmp_ne rfl rfl)) (fun h s₁ S₁ => ?_) fun h s₁ S₁ => ?_
      · have hac : a ≠ c := eqv_ne h
        rw [if_neg hac] at inv
        refine ex_return (d := .bool (decide (a < c) != k.2)) S₁ (ev_if (x := k.2) (tr_val (ev_name rfl)) (fun h => ?_) fun h => ?_) fun v s' k' i' => ⟨v, rfl, k', ev_val i' ?_⟩
        · refine ev_eq (ev_cmp (ev_name rfl) (ev_name rfl) cmp_lt) ?_
          rw [h]
          by_cases q : a < c
          · have : ¬ c < a := by omega
            simp [q, this]
          · have : c < a := by omega
            simp [q, this]
        · refine ev_eq (ev_cmp (ev_name rfl) (ev_name rfl) cmp_lt) ?_
          rw [h]
          by_cases q : a < c <;> simp [q]
        · rw [ahead, inv]
      · refine then_nil (ex_nil ⟨(), ?_, S₁.weak (Sub.at ⟨rfl, rfl, trivial⟩)⟩)
        show aheadW ks r.2 o.2 = _
        rw [inv, if_pos (eqv_eq h)]
    · intro _ s' inv S
      refine ex_return S (ev_cmp (ev_tupItem (i := 0) (ev_name rfl) ev_int (by decide) (by decide) rfl) (ev_tupItem (i := 0) (ev_name rfl) ev_int (by decide) (by decide) rfl) cmp_lt) fun v s' k' i' => ⟨v, rfl, k', ev_val i' ?_⟩
      rw [zipped_length (List.length_map ..) (by rw [List.length_map, h1]) (by rw [List.length_map, h2]), List.drop_length] at inv
      rw [ahead, inv]
      rfl

noncomputable def KeysOk (ks : List (Str × Bool)) : Prop := ∀ k ∈ ks, k.1 ∈ sortWords
theorem strOk_word {x : Str} (h : x ∈ sortWords) : PyData.strOk x = true := by
  have : (sortWords.all PyData.strOk) = true := by decide +kernel
  exact List.all_eq_true.mp this x h
theorem shaped_keys {ks : List (Str × Bool)} (h : KeysOk ks) : SeqAt.shaped (keysD ks) = true := by
  have a : ∀ l : List (Str × Bool), KeysOk l → PyData.canLayAll0 (l.map keyD) = true := fun l h => by
    induction l with
    | nil => rfl
    | cons k r ih =>
      have h1 := strOk_word (h k (List.mem_cons_self ..))
      have h2 := ih fun q m => h q (List.mem_cons_of_mem _ m)
      simp [PyData.canLayAll0, PyData.canLay0, keyD, h1, h2]
  have d : ∀ l : List (Str × Bool), PyData.depthAll (l.map keyD) ≤ 1 := fun l => by
    induction l with
    | nil => exact Nat.zero_le _
    | cons k r ih =>
      have : max 1 (PyData.depthAll (r.map keyD)) ≤ 1 := by omega
      simpa [PyData.depthAll, PyData.depth, keyD] using this
  have d' := d ks
  simp [SeqAt.shaped, keysD, PyData.canLay0, PyData.depth, a ks h]
  omega
theorem shaped_ints (l : List Int) : SeqAt.shaped (.list (l.map .int)) = true := by
  have a : PyData.canLayAll0 (l.map .int) = true := by
    induction l with
    | nil => rfl
    | cons k r ih => simp [PyData.canLayAll0, PyData.canLay0, ih]
  have d : PyData.depthAll (l.map .int) = 0 := by
    clear a
    induction l with
    | nil => rfl
    | cons k r ih => simp [PyData.depthAll, PyData.depth, ih]
  simp [SeqAt.shaped, PyData.canLay0, PyData.depth, a, d]
theorem any_mem {x : Str} {l : List Str} (h : l.any (· == x) = true) : x ∈ l := by
  obtain ⟨y, m, e⟩ := List.any_eq_true.mp h
  rw [← eq_of_beq e]; exact m
theorem KeysOk.snoc {ks : List (Str × Bool)} {g : Str} {t : Bool} (h : KeysOk ks) (q : sortWords.any (· == g) = true) : KeysOk (ks ++ [(g, t)]) := fun k m => by
  rcases List.mem_append.mp m with m | m
  · exact h k m
  · rw [List.mem_singleton.mp m]; exact any_mem q

theorem eqv_nil {l : List PyData} : PyData.eqv (.list l) (.list []) = l.isEmpty := by cases l <;> rfl

theorem fun_read (b : Base hB) (ws : List Str) (hw : ws.length ≤ 900) (hz : ∀ x ∈ ws, x.length ≤ 1000) :
    Fun prog w hB 4 114 [textsD ws] (.tuple [keysD (lawRead 0 [] false (ws.map Txt.upper)).1, .int (lawRead 0 [] false (ws.map Txt.upper)).2]) := by
  refine fun_enter ["words"] b.lim b.f16 (fun pm cd doc vs h => ?_) rfl (fun A L cd X s sin E g S => ?_)
  · obtain ⟨v, rfl⟩ := one_of h
    rfl
  · refine ex_ownPair S (fun Y => ev_bool) (.inl rfl) (.inl rfl) rfl (by decide) fun s₁ l hl S₁ => ?_
    refine ex_for (xs := ["at", "word"]) (f := two "at" "word") (fun p : List (Str × Bool) × Bool => [("is_turned", .bool p.2), ("words", textsD ws)]) (fun p => some ⟨"keys", l, p.1.map keyD⟩)
      (fun i p => lawRead 0 [] false (ws.map Txt.upper) = lawRead i p.1 p.2 ((ws.map Txt.upper).drop i) ∧ p.1.length ≤ i ∧ KeysOk p.1) ([], false) S₁ (tsrc_enum b.bEnum rfl (ev_name rfl)) ?_ ⟨rfl, Nat.le_refl _, fun k m => (nomatch m)⟩ ⟨rfl, rfl, trivial⟩ rfl ?_ ?_ ?_ ?_
    · intro d hd
      obtain ⟨i, hi⟩ := List.getElem?_of_mem hd
      rw [numbered_get] at hi
      obtain ⟨d', _, rfl⟩ := Option.map_eq_some_iff.mp hi
      exact tg_two (.inl rfl) (.inl rfl)
    · intro x q h
      cases h
      show ("keys" : Str) ∉ _
      decide
    · intro x q h
      cases h
      exact ⟨_, rfl, rfl⟩
    · rintro wr K' i ⟨ks, t⟩ d s' hK hd ⟨inv, hlen, hok⟩ S
      rw [numbered_get, List.getElem?_map, Nat.zero_add] at hd
      obtain ⟨_, hd', rfl⟩ := Option.map_eq_some_iff.mp hd
      obtain ⟨y, hy, rfl⟩ := Option.map_eq_some_iff.mp hd'
      have hi : i < ws.length := (List.getElem?_eq_some_iff.mp hy).1
      simp only at inv hlen hok
      have hdrop : (ws.map Txt.upper).drop i = Txt.upper y :: (ws.map Txt.upper).drop (i + 1) := by
        rw [List.drop_eq_getElem_cons (by rw [List.length_map]; exact hi)]
        congr 1
        obtain ⟨_, e⟩ := List.getElem?_eq_some_iff.mp hy
        rw [List.getElem_map, e]
      rw [hdrop, lawRead] at inv
      refine ex_assign S (ev_upper (ev_name rfl) (hz y (List.mem_of_getElem? hy))) (.inl rfl) (fun q e => by cases e; show ("keys" : Str) ≠ _; decide) fun s₁ S₁ => ?_
      refine ex_if S₁ (tr_and (x := Txt.upper y == "REVERSE") (y := !t) (tr_cmp (ev_name rfl) ev_str cmp_eqStr) fun _ => tr_not (tr_val (ev_name rfl))) (fun h s₂ S₂ => ?_) fun h s₂ S₂ => ?_
      · rw [if_pos h] at inv
        refine ex_assign S₂ ev_bool (.inl rfl) (fun q e => by cases e; show ("keys" : Str) ≠ _; decide) fun s₃ S₃ => ?_
        exact then_nil (ex_nil ⟨(ks, true), ⟨inv, Nat.le_succ_of_le hlen, hok⟩, S₃.weak (Sub.at ⟨rfl, rfl, trivial⟩)⟩)
      · rw [if_neg (by rw [h]; exact Bool.false_ne_true)] at inv
        refine ex_if S₂ (tr_cmp (ev_name rfl) (ev_tuple (evs_cons ev_str (evs_cons ev_str (evs_cons ev_str (evs_cons ev_str (evs_cons ev_str (evs_cons ev_str (evs_cons ev_str (evs_cons ev_str (evs_cons ev_str evs_nil)))))))))) (cmp_inTup (ys := sortWords))) (fun h' s₃ S₃ => ?_) fun h' s₃ S₃ => ?_
        · rw [if_pos h'] at inv
          refine ex_append S₃ (ev_tuple (evs_cons (ev_name rfl) (evs_cons (ev_name rfl) evs_nil))) (by rw [List.length_map]; show ks.length ≤ _; omega) fun s₄ S₄ => ?_
          refine ex_assign S₄ ev_bool (.inl rfl) (fun q e => by cases e; show ("keys" : Str) ≠ _; decide) fun s₅ S₅ => ?_
          refine then_nil (then_nil (ex_nil ⟨(ks ++ [(Txt.upper y, t)], false), ⟨inv, ?_, hok.snoc h'⟩, ?_⟩))
          · simp only [List.length_append, List.length_singleton]; omega
          · show St _ _ _ _ _ (some ⟨_, _, (ks ++ [(Txt.upper y, t)]).map keyD⟩) _
            rw [List.map_append]
            exact S₅.weak (Sub.at ⟨rfl, rfl, trivial⟩)
        · rw [if_neg (by rw [h']; exact Bool.false_ne_true)] at inv
          refine ex_return (own_done S₃ hl) (ev_tuple (evs_cons (ev_name rfl) (evs_cons (ev_name rfl) evs_nil))) fun v s' k' i' => ⟨v, rfl, k', ev_val i' ?_⟩
          rw [inv]
          rfl
    · rintro ⟨ks, t⟩ s' ⟨inv, hlen, hok⟩ S
      simp only at inv hlen hok
      rw [numbered_length, List.length_map] at inv hlen
      have hdrop : (ws.map Txt.upper).drop ws.length = [] := List.drop_eq_nil_of_le (by rw [List.length_map]; exact Nat.le_refl _)
      rw [hdrop, lawRead] at inv
      refine ex_return (d := .tuple [keysD ks, .int (if ks.isEmpty || t then (ws.length : Int) else -1)]) (own_done S hl) (ev_tuple (evs_cons (ev_name rfl) (evs_cons (ev_if (x := ks.isEmpty || t) (tr_or (tr_eq (tr_cmp (ev_name rfl) (ev_list evs_nil) (cmp_eq ?_ rfl)) ?_) fun _ => tr_val (ev_name rfl)) (fun h => ?_) fun h => ?_) evs_nil))) fun v s' k' i' => ⟨v, rfl, k', ev_val i' ?_⟩
      · exact shaped_keys hok
      · rw [eqv_nil, List.isEmpty_map]
      · refine ev_eq (ev_bi b.bLen rfl (evs_cons (ev_name rfl) evs_nil) (bi_len (by rw [List.length_map]; omega))) ?_
        rw [if_pos h, List.length_map]
      · rw [if_neg (by rw [h]; exact Bool.false_ne_true)]
        exact ev_neg ev_int
      · rw [inv]
end
end Mine
end

section
set_option maxRecDepth 100000
namespace Mine

/-! the project's own fault: made, raised, caught -/
noncomputable abbrev bm59 : List Value := [.ref 46, .type "Exception", .type "BaseException", .type "object"]
structure XK (K : Frag) : Prop where
  cls : ∃ nm q N bs sn sub ab col dd k0 k1 k2 k3 k5, K.lookup 59 = some (excClassObj nm q 59 N bs bm59 true sn sub ab col dd k0 k1 k2 k3 k5 "Exception.__new__")
  init : findIn K (.ref 59) "__init__" = some (some (.ref 36))
  ga : findIn K (.ref 59) "__getattribute__" = some (some (.builtin "BaseException.__getattribute__"))
  gattr : findIn K (.ref 59) "__getattr__" = some none
  sa : findIn K (.ref 59) "__setattr__" = some (some (.builtin "object.__setattr__"))
  at_ : findIn K (.ref 59) "at" = some none
  what : findIn K (.ref 59) "what" = some none

section
variable {M : Model} {A : Around} {E : Value → Shared → Prop} {h : Heap} {g : Array GenState} {d : Drawn} {t : Nat} {os : OsState}
variable {nm q : Str} {N : Addr} {bs : List Value} {sn : List Str} {sub : List Value} {ab : Bool} {col : Option Bool} {dd : Option Addr} {k0 k1 k2 k3 k5 : Option Value}

theorem chk_new {rest : List Value} {Q : Unit → Shared → Prop} (hC : h.get? 59 = some (excClassObj nm q 59 N bs bm59 true sn sub ab col dd k0 k1 k2 k3 k5 "Exception.__new__"))
    (hq : Q () ⟨h, g, d, t, os⟩) : wpAny M A (checkBuiltinCall "Exception.__new__" ⟨.ref 59 :: rest, []⟩) Q E ⟨h, g, d, t, os⟩ := by
  have F := PySem.F.excBase_Exception
  have hcont : (Value.ref 59 :: bm59).contains (.type "Exception") = true := by decide
  have hstar := F.noStar
  simp only [checkBuiltinCall, F.newKind, F.newSplit, F.newRow]
  repeat (first | refine wpAny_loadPart_at hC ?_ | (refine wpAny_isSubtype_exc hC ?_; rw [hcont]) | refine wpAny_staticBase_exc hC ?_ | refine wpAny_madeBy_exc hC ?_ | simp only [bne_self_eq_false, Bool.false_eq_true, if_false] | wp_step)
  exact hq
end

section
variable {prog : Program} {w : World} {A : Around} {E : Value → Shared → Prop} {h : Heap} {g : Array GenState} {d : Drawn} {t : Nat} {os : OsState}
variable {nm q : Str} {N : Addr} {bs : List Value} {sn : List Str} {sub : List Value} {ab : Bool} {col : Option Bool} {dd : Option Addr} {k0 k1 k2 k3 k5 : Option Value}

theorem code_new {R : Result → Shared → Prop} {rest : List Value} (hC : h.get? 59 = some (excClassObj nm q 59 N bs bm59 true sn sub ab col dd k0 k1 k2 k3 k5 "Exception.__new__"))
    (hq : R (.ok (.ret (.ref (h.objs.size + 1)))) ⟨(h.push { cls := .type "tuple", data := .seq rest.toArray }).push
      { cls := .ref 59, data := .fields #[.ref h.objs.size, .none, .none, .none, .bool false, .none] }, g, d, t, os⟩) (hrest : rest.length ≤ sizeLine) :
    codeAny (model prog w) A (.builtin "Exception.__new__" ⟨.ref 59 :: rest, []⟩) R ⟨h, g, d, t, os⟩ := by
  have F := PySem.F.excBase_Exception
  have hends := F.ends
  have hcB : (Value.ref 59 :: bm59).contains (.type "Exception") = true := by decide
  have hcA : (Value.ref 59 :: bm59).contains (.type "AttributeError") = false := by decide
  have hcN : (Value.ref 59 :: bm59).contains (.type "NameError") = false := by decide
  refine codeAny_builtinAt F.entry ?_
  unfold Builtin.«BaseException.__new__»
  refine PySem.wpAt_bind ?_
  show PySem.wpAt _ _ _ (stack >>= _) _ _ _
  refine PySem.wpAt_bind (PySem.wpAt_stack fun p below => PySem.wpAt_of_wpAny ?_)
  wp_walk
  refine PySem.wpAt_of_wpAny ?_
  rw [F.owner]
  repeat (first | with_reducible refine wpAny_madeHere_exc F.canon hC ?_ | with_reducible refine wpAny_loadPart_at hC ?_ | (with_reducible refine wpAny_isSubtype_exc hC ?_; first | rw [hcB] | rw [hcA] | rw [hcN]) | wp_step)
  show R _ _
  rw [Heap.size_push]
  exact hq

theorem type_call59 {rest : List Value} {oI : Obj} {Q : Fin → Shared → Prop} (hC : h.get? 59 = some (excClassObj nm q 59 N bs bm59 true sn sub ab col dd k0 k1 k2 k3 k5 "Exception.__new__"))
    (hi : Looks (model prog w) h (typeLookup (.ref 59) "__init__") (some (.ref 36))) (hfI : h.get? 36 = some oI) (hfc : oI.cls = .type "function")
    (hq : ∀ h' e, Heap.MadeExcOf h h' e (.ref 59) rest →
      wpAny (model prog w) A (call (.ref 36) (.ref e :: rest)) (fun r s' => r = .none ∧ Q (.done (.ret (.ref e))) s') E ⟨h', g, d, t, os⟩) (hrest : rest.length ≤ sizeLine) :
    wpAny (model prog w) A (Builtin.«type.__call__» ⟨.ref 59 :: rest, []⟩) Q E ⟨h, g, d, t, os⟩ := by
  have F := PySem.F.excBase_Exception
  repeat (first | with_reducible refine wpAny_loadPart_at hC ?_ | with_reducible refine wpAny_madeBy_exc hC ?_ | wp_step)
  refine codeAny_call_builtin_code (Code.quiet_builtin _ F.quiet) (chk_new hC ?_)
  refine code_new hC ?_ hrest
  show wpAny _ _ _ _ _ _
  have up : ∀ b o, h.get? b = some o → ((h.push { cls := .type "tuple", data := .seq rest.toArray }).push { cls := .ref 59, data := .fields #[.ref h.objs.size, .none, .none, .none, .bool false, .none] }).get? b = some o :=
    fun b o e => Heap.get?_push_of_some _ (Heap.get?_push_of_some _ e)
  have hC₁ := up _ _ hC
  have hfI₁ := up _ _ hfI
  have hget : ((h.push { cls := .type "tuple", data := .seq rest.toArray }).push
      { cls := .ref 59, data := .fields #[.ref h.objs.size, .none, .none, .none, .bool false, .none] }).get? (h.objs.size + 1) = some
      { cls := .ref 59, data := .fields #[.ref h.objs.size, .none, .none, .none, .bool false, .none] } := by heap_get
  have hcC : (Value.ref 59 :: bm59).contains (.ref 59) = true := by decide
  unfold isInstance
  repeat (first | with_reducible refine wpAny_loadPart_at hget ?_ | (with_reducible refine wpAny_isSubtype_exc hC₁ ?_; rw [hcC]) | wp_step)
  show wpAny _ _ (typeLookup (.ref 59) _) _ _ _
  refine (hi.keeps up).at ?_
  refine wpAny_holding (wpAny_bind ?_)
  unfold bindSpecial
  refine wpAny_bind (wpAny_typeOf (T := "function") ⟨_, hfI₁, hfc⟩ ?_)
  rw [if_pos (by decide)]
  refine wpAny_pure (wpAny_bind (wpAny_mono (hq _ (h.objs.size + 1) ⟨up, Heap.get?_none_of_le (Nat.le_succ _), h.objs.size, hget, Heap.get?_none_of_le (Nat.le_refl _), ?_⟩) (fun r s' hr => ?_) fun _ _ x => x))
  · exact Heap.get?_push_of_some _ (Heap.get?_push_at rfl rfl)
  · obtain ⟨rfl, hQ⟩ := hr
    wp_walk
    exact hQ

theorem call59 {rest : List Value} {oI : Obj} {Q : Value → Shared → Prop} (hC : h.get? 59 = some (excClassObj nm q 59 N bs bm59 true sn sub ab col dd k0 k1 k2 k3 k5 "Exception.__new__"))
    (hi : Looks (model prog w) h (typeLookup (.ref 59) "__init__") (some (.ref 36))) (hfI : h.get? 36 = some oI) (hfc : oI.cls = .type "function")
    (hq : ∀ h' e, Heap.MadeExcOf h h' e (.ref 59) rest →
      wpAny (model prog w) (A.under (.builtin "type.__call__" ⟨.ref 59 :: rest, []⟩)) (call (.ref 36) (.ref e :: rest)) (fun r s' => r = .none ∧ Q (.ref e) s') E ⟨h', g, d, t, os⟩) (hrest : rest.length ≤ sizeLine) :
    wpAny (model prog w) A (call (.ref 59) rest) Q E ⟨h, g, d, t, os⟩ := by
  have f1 := tc_lookup
  have f2 := tc_bind (.ref 59)
  have hT : (⟨h, g, d, t, os⟩ : Shared).TypeIs (.ref 59) "type" := ⟨_, hC, rfl⟩
  refine wpAny_call (codeAny_of_tree ?_)
  show wpAny _ _ (callAny (.ref 59) _) _ _ _
  repeat (any_goals (first | assumption | with_reducible refine wpAny_loadPart_at hC ?_ | wp_step))
  refine ⟨rfl, ?_⟩
  refine codeAny_call_builtin_at (Code.quiet_builtin _ (by decide +kernel)) entry_typeCall (wpAny_check_type_call_sub hC (type_call59 hC hi hfI hfc (fun h' e hm => ?_) hrest))
  exact hq h' e hm
end
end Mine
end

section
set_option maxRecDepth 100000
namespace Mine
section
open Builtin Builtin.ObjectAttr
variable {prog : Program} {w : World} {A : Around} {E : Value → Shared → Prop} {h : Heap} {g : Array GenState} {d : Drawn} {t : Nat} {os : OsState}
variable {nm q : Str} {N x : Addr} {bs : List Value} {sn : List Str} {sub : List Value} {ab : Bool} {col : Option Bool} {dd : Option Addr} {k0 k1 k2 k3 k5 : Option Value} {mA : Str → Option Value} {name : Str} {v : Value}

theorem chk_store {M : Model} {o : Obj} {nameV : Value} {Q : Unit → Shared → Prop} (hC : h.get? 59 = some (excClassObj nm q 59 N bs bm59 true sn sub ab col dd k0 k1 k2 k3 k5 "Exception.__new__")) (hx : h.get? x = some o) (hc : o.cls = .ref 59) (hq : Q () ⟨h, g, d, t, os⟩) :
    wpAny M A (checkBuiltinCall "object.__setattr__" ⟨[.ref x, nameV, v], []⟩) Q E ⟨h, g, d, t, os⟩ := by
  have SF := PySem.F.store_Exception
  have hcB : (Value.ref 59 :: bm59).contains (.type "object") = true := by decide
  simp only [checkBuiltinCall, SF.kind, SF.split]
  refine wpAny_bind ?_
  · unfold isInstance
    repeat (first | (with_reducible refine wpAny_loadPart_at hx ?_; rw [hc]) | (with_reducible refine wpAny_isSubtype_exc hC ?_; rw [hcB]) | wp_step)
    exact hq

theorem refuse59 (self : Value) : refuseLoop self "__setattr__" (.ref 59 :: bm59) = pure () := by
  rw [refuseLoop_ref, refuseLoop_ref]
  exact PySem.F.store_Exception.passes self

theorem store_run {tk : Tok} {Q : Fin → Shared → Prop} {ns : List Str} (hC : h.get? 59 = some (excClassObj nm q 59 N bs bm59 true sn sub ab col dd k0 k1 k2 k3 k5 "Exception.__new__"))
    (hl : Looks (model prog w) h (typeLookup (.ref 59) name) none) (I : h.Inst x 59 mA)
    (hq : ∀ h' tk', h'.Inst x 59 (fun y => if y = name then some v else mA y) →
      (∀ b o, b ≠ x → (∀ o₀ dx, h.get? x = some o₀ → o₀.dict = some dx → b ≠ dx) → h.get? b = some o → h'.get? b = some o) →
      (∀ o₀, h.get? x = some o₀ → ∃ o₁, h'.get? x = some o₁ ∧ o₁.cls = o₀.cls ∧ o₁.data = o₀.data ∧ (∃ dx, o₁.dict = some dx ∧ (o₀.dict = none → h.get? dx = none)) ∧ ∀ dx, o₀.dict = some dx → o₁.dict = some dx) → Q (.done (.ret .none)) ⟨h', g, d, tk', os⟩) (hw : Within mA ns) (hsz : ns.length ≤ 1000) :
    wpAny (model prog w) A (Builtin.«object.__setattr__» ⟨[.ref x, .str name tk, v], []⟩) Q E ⟨h, g, d, t, os⟩ := by
  obtain ⟨o, hx, hc, hnc, hd⟩ := I
  have hpass := refuse59 (.ref x)
  unfold Builtin.«object.__setattr__»
  repeat (first | rw [refuse_eq] | (rw [hpass]) | (with_reducible refine wpAny_loadPart_at hx ?_; rw [hc]) | with_reducible refine wpAny_mroOf_exc hC ?_ | with_reducible refine Looks.at hl ?_ | wp_step)
  rcases hd with ⟨hdn, hmA⟩ | ⟨dx, hdx, hne, hns⟩
  · rw [hdn, if_neg (by simp [typeHasDict])]
    split
    · rename_i hcd
      cases hcd
    split
    · rename_i c hcd
      exact absurd hcd (hnc c)
    · have hx₁ : (h.push { cls := .type "dict", data := .dict #[] }).get? x = some o := Heap.get?_push_of_some _ hx
      have hxs : x ≠ h.objs.size := Nat.ne_of_lt (Heap.lt_size hx)
      refine wpAny_bind (wpAny_alloc' ?_)
      refine wpAny_bind (wpAny_update' hx₁ ?_)
      refine wpAny_pure ?_
      have hgd : ((h.push { cls := .type "dict", data := .dict #[] }).update x fun o => { cls := o.cls, dict := some h.objs.size, data := o.data, slots := o.slots }).get? h.objs.size
          = some { cls := .type "dict", data := .dict #[] } :=
        (Heap.get?_update_ne _ _ _ _ hxs.symm).trans (Heap.get?_push_at rfl rfl)
      have hnd : ((h.push { cls := .type "dict", data := .dict #[] }).update x fun o => { cls := o.cls, dict := some h.objs.size, data := o.data, slots := o.slots }).Ns h.objs.size (fun _ => none) :=
        ⟨_, #[], _, hgd, rfl, fun e he => absurd he (by simp), fun _ => rfl⟩
      show wpAny _ _ (storeInDict h.objs.size (.str name tk) name v) _ _ _
      unfold storeInDict newKeyGuard
      refine wpAny_bind (wpAny_pure (wpAny_bind (wpAny_nsSet1 (Heap.Ns1.of_empty hnd) fun h' hn' hs => ?_)))
      obtain ⟨oD, esD, epD, hoD, hdD, hcD⟩ := hn'.count (Within.cons name v Within.nil)
      refine wpAny_bind (wpAny_lookBehind hoD (by rw [hdD]; exact pastItsLine_dict (Nat.le_trans hcD (by rw [List.length_cons, List.length_nil, sizeLine_eq]; omega))) ?_)
      wp_walk
      have hx' : h'.get? x = some { cls := o.cls, dict := some h.objs.size, data := o.data, slots := o.slots } := ?_
      refine hq h' _ ⟨{ cls := o.cls, dict := some h.objs.size, data := o.data, slots := o.slots }, hx', hc, hnc, .inr ⟨h.objs.size, rfl, hxs.symm, ?_⟩⟩ (fun b ob hbx _ hb => ?_)
        (fun o₀ h₀ => by obtain rfl : o = o₀ := Option.some.inj (hx.symm.trans h₀); exact ⟨_, hx', rfl, rfl, ⟨_, rfl, fun _ => next_none h⟩, fun dx e => by rw [hdn] at e; cases e⟩)
      · obtain ⟨o', es, ep, e1, e2, e3, eu, e4⟩ := hn'
        exact ⟨o', es, ep, e1, e2, e3, eu, fun y => by rw [e4 y]; by_cases hy : y = name <;> simp [hy, hmA]⟩
      · exact (hs.2 b (Nat.ne_of_lt (Heap.lt_size hb))).trans ((Heap.get?_update_ne _ _ _ _ hbx).trans (Heap.get?_push_of_some _ hb))
      · refine (hs.2 x hxs).trans (Heap.get?_update_self _ hx₁ ?_)
        have hfr := (Heap.get?_some_iff.mp hx).2
        obtain ⟨oc, od, odt, osl⟩ := o
        cases odt <;> first | rfl | exact hfr
  · rw [hdx]
    refine wpAny_pure ?_
    show wpAny _ _ (storeInDict dx (.str name tk) name v) _ _ _
    unfold storeInDict newKeyGuard
    refine wpAny_bind (wpAny_pure (wpAny_bind (wpAny_nsSet1 hns fun h' hn' hs => ?_)))
    obtain ⟨oD, esD, epD, hoD, hdD, hcD⟩ := hn'.count (Within.cons name v hw)
    refine wpAny_bind (wpAny_lookBehind hoD (by rw [hdD]; exact pastItsLine_dict (Nat.le_trans hcD (by rw [List.length_cons, sizeLine_eq]; omega))) ?_)
    wp_walk
    refine hq h' _ ⟨o, (hs.2 x hne.symm).trans hx, hc, hnc, .inr ⟨dx, hdx, hne, hn'⟩⟩ (fun b ob _ hbd hb => ?_)
      (fun o₀ h₀ => by obtain rfl : o = o₀ := Option.some.inj (hx.symm.trans h₀); exact ⟨o, (hs.2 x hne.symm).trans hx, rfl, rfl, ⟨dx, hdx, fun z => by rw [hdx] at z; cases z⟩, fun _ e => e⟩)
    exact (hs.2 b (hbd o dx hx hdx)).trans hb

theorem store59 {Q : Unit → Shared → Prop} {ns : List Str} (hC : h.get? 59 = some (excClassObj nm q 59 N bs bm59 true sn sub ab col dd k0 k1 k2 k3 k5 "Exception.__new__"))
    (hsa : Looks (model prog w) h (typeLookup (.ref 59) "__setattr__") (some (.builtin "object.__setattr__"))) (hl : Looks (model prog w) h (typeLookup (.ref 59) name) none) (I : h.Inst x 59 mA)
    (hq : ∀ h' tk', h'.Inst x 59 (fun y => if y = name then some v else mA y) →
      (∀ b o, b ≠ x → (∀ o₀ dx, h.get? x = some o₀ → o₀.dict = some dx → b ≠ dx) → h.get? b = some o → h'.get? b = some o) →
      (∀ o₀, h.get? x = some o₀ → ∃ o₁, h'.get? x = some o₁ ∧ o₁.cls = o₀.cls ∧ o₁.data = o₀.data ∧ (∃ dx, o₁.dict = some dx ∧ (o₀.dict = none → h.get? dx = none)) ∧ ∀ dx, o₀.dict = some dx → o₁.dict = some dx) → Q () ⟨h', g, d, tk', os⟩) (hw : Within mA ns) (hsz : ns.length ≤ 1000) :
    wpAny (model prog w) A (setAttr (.ref x) name v) Q E ⟨h, g, d, t, os⟩ := by
  have SF := PySem.F.store_Exception
  obtain ⟨o, hx, hc, _⟩ := id I
  have f3 := SF.slot.bind (.ref x)
  unfold setAttr callSpecial? specialOf
  repeat (any_goals (first | assumption | (with_reducible refine wpAny_loadPart_at hx ?_; rw [hc]) | with_reducible refine Looks.at hsa ?_ | wp_step))
  refine codeAny_call_builtin SF.slot.plain SF.entry (chk_store hC hx hc (store_run hC hl I (fun h' tk' I' hk hsame => ?_) hw hsz))
  repeat (any_goals (first | assumption | wp_step))
  exact hq h' tk' I' hk hsame
end
end Mine
end

section
set_option maxRecDepth 100000
namespace Mine
section
variable {prog : Program} {w : World} {A : Around} {E : Value → Shared → Prop} {h : Heap} {g : Array GenState} {d : Drawn} {t : Nat} {os : OsState}
variable {nm q : Str} {N x : Addr} {bs : List Value} {sn : List Str} {sub : List Value} {ab : Bool} {col : Option Bool} {dd : Option Addr} {k0 k1 k2 k3 k5 : Option Value}

theorem chk_init {M : Model} {e : Addr} {oe : Obj} {rest : List Value} {Q : Unit → Shared → Prop}
    (hC : h.get? 59 = some (excClassObj nm q 59 N bs bm59 true sn sub ab col dd k0 k1 k2 k3 k5 "Exception.__new__")) (he : h.get? e = some oe) (hcls : oe.cls = .ref 59) (hq : Q () ⟨h, g, d, t, os⟩) :
    wpAny M A (checkBuiltinCall "Exception.__init__" ⟨.ref e :: rest, []⟩) Q E ⟨h, g, d, t, os⟩ := by
  have F := PySem.F.excBase_Exception
  have hcB : (Value.ref 59 :: bm59).contains (.type "Exception") = true := by decide
  have hshort := F.noStar
  simp only [checkBuiltinCall, F.initKind, F.initSplit, F.initRow]
  repeat (first | (with_reducible refine wpAny_loadPart_at he ?_; rw [hcls]) | with_reducible refine wpAny_loadPart_at hC ?_ | (with_reducible refine wpAny_isSubtype_exc hC ?_; rw [hcB]) | wp_step)
  refine wpAny_onRaise ?_
  rw [show ∀ (a b : String) (n : Nat), Bind.check ⟨.positional, "*", "Exception", .self, [⟨"args", .varPos, false⟩]⟩ a b n (List.map (fun x => x.fst) ({ pos := Value.ref e :: rest } : Args).kw) = pure () from
    fun a b n => check_star_args _ _ _ _ _ _]
  exact wpAny_pure hq

noncomputable abbrev faultObj (dx : Option Addr) (a0 : Value) : Obj := { cls := .ref 59, dict := dx, data := .fields #[a0, .none, .none, .none, .bool false, .none] }
theorem init_base {e t0 : Addr} {v : Value} {Q : Value → Shared → Prop} (hC : h.get? 59 = some (excClassObj nm q 59 N bs bm59 true sn sub ab col dd k0 k1 k2 k3 k5 "Exception.__new__"))
    (he : h.get? e = some (faultObj none (.ref t0)))
    (hq : ∀ h' t1, h'.get? e = some (faultObj none (.ref t1)) → (∀ b o, b ≠ e → h.get? b = some o → h'.get? b = some o) → Q .none ⟨h', g, d, t, os⟩) :
    wpAny (model prog w) A (call (.builtin "Exception.__init__") [.ref e, v]) Q E ⟨h, g, d, t, os⟩ := by
  have F := PySem.F.excBase_Exception
  refine wpAny_call (codeAny_call_builtin F.init.plain F.initEntry (chk_init hC he rfl ?_))
  have hne : h.objs.size ≠ e := Nat.ne_of_gt (Heap.lt_size he)
  wp_walk
  refine hq _ h.objs.size ?_ fun b o hb x => ?_
  · rw [Heap.get?_update_self _ (Heap.get?_push_of_some _ he) rfl]
    rfl
  · rw [Heap.get?_update_other _ _ (Ne.symm hb)]
    exact Heap.get?_push_of_some _ x

theorem meth_init {s : Shared} {pl : Sem Bool} {Q : Value × List Value → Shared → Prop} (h : Q (.builtin "Exception.__init__", []) { s with toks := s.toks + 1 }) : wpAny (model prog w) A (getMethod (.type "Exception") "__init__" pl) Q E s := by
  have X : Frag.In [] s.heap := fun a o e => by cases e
  have hs : Manifest.isStub "Exception" = false := by decide +kernel
  have hstub : opaqueClassAbove (.type "Exception") = pure none := by unfold opaqueClassAbove; dsimp only; rw [hs]; rfl
  have L0 : Looks (model prog w) s.heap (typeOf (.type "Exception")) (.type "type") := Looks.of_pure (by kernel_rfl)
  have hg : findIn [] (.type "type") "__getattribute__" = some (some (.builtin "type.__getattribute__")) := type_tga
  unfold getMethod specialOf
  refine wpAny_bind (wpAny_bind (L0.here ((looks_findIn X hg).here ?_)))
  dsimp only
  rw [if_pos canon_tga]
  refine wpAny_bind (wpAny_mono (Q := fun v => Q (v, [])) (E := E) ?_ (fun _ _ z => wpAny_pure z) fun _ _ z => z)
  have LO : Looks (model prog w) s.heap (opaqueClassAbove (.type "Exception")) none := Looks.of_pure hstub
  refine cls_open X LO L0 hg (looks_hook X (r := none) (by rfl)) (by show subIn [] _ _ = _; rfl) (r := .val (.builtin "Exception.__init__")) (by kernel_rfl) ?_
  exact wpAny_pure (by show wpAny _ _ (handedOut _) _ _ _; rw [handedOut_of (by decide +kernel)]; exact wpAny_pure h)
end
end Mine
end

section
set_option maxRecDepth 100000
namespace Mine

noncomputable def initDef : Option PySem.Stmt := match nth 2 with | some (.ClassDef _ _ _ b ..) => b[0]? | _ => none
noncomputable def initParams : Arguments := match initDef with | some (.FunctionDef _ p ..) => p | _ => ⟨[], [], none, [], [], none, []⟩
noncomputable def initBody : List PySem.Stmt := match initDef with | some (.FunctionDef _ _ b ..) => b | _ => []
noncomputable def initScope : Scope := match initDef with | some (.FunctionDef _ _ _ _ _ _ s ..) => s | _ => ⟨.function, [], false, false, []⟩
noncomputable def initFd (pm cd doc : Value) : FuncData := { Calls.docDef "__init__" initParams initBody initScope pm cd doc with qualname := "PostError.__init__", defaults := .ref 29 }

structure InitAt (hB : Heap) : Prop where
  at' : ∃ o pm cd doc dv n oT, hB.get? 36 = some o ∧ o.cls = .type "function" ∧ o.data = .func (initFd pm cd doc) ∧ hB.get? 29 = some oT ∧ oT.data = .seq #[dv] n ∧ hB.CodeRec cd "PostError.__init__"

structure FaultBase (hB : Heap) : Prop where
  frag : ∃ K : Frag, K.In hB ∧ XK K
  ini : InitAt hB
  exc : Gl hB "Exception" (.type "Exception")
  fault : Gl hB "QueryFault" (.ref 59)

section
variable {prog : Program} {w : World} {A : Around} {E : Value → Shared → Prop} {s : Shared} {hB : Heap}

theorem cellI : ∀ x ∈ initScope.names, x.2 ≠ .cell := by decide
theorem locI : ∀ x ∈ (["self", "what", "at"] : List Str), initScope.names.lookup x = some .local := by decide

/-- (F: what its attributes' own address is off) what is known of a fault that has been made -/
noncomputable def FaultAt (F : Addr → Prop) (h : Heap) (e : Addr) (i : Int) : Prop := ∃ o t1 dx m u, F dx ∧ h.get? e = some o ∧ o.cls = .ref 59 ∧ o.data = .fields #[.ref t1, .none, .none, .none, .bool false, .none] ∧ o.dict = some dx ∧ dx ≠ e ∧ h.Ns dx m ∧ m "at" = some (.int i u)

theorem FaultAt.mono {F G : Addr → Prop} {h : Heap} {e : Addr} {i : Int} (f : FaultAt F h e i) (k : ∀ a, F a → G a) : FaultAt G h e i :=
  let ⟨o, t1, dx, m, u, p, r⟩ := f; ⟨o, t1, dx, m, u, k _ p, r⟩
theorem swap_expr {e : Expr} {l : Nat} {env : Env} (h : swapsWith e none l env = pure false := by rfl) : swapsWith e none l env = pure false := h

theorem init_walk {h : Heap} {gn : Array GenState} {dr : Drawn} {tk : Nat} {os : OsState} {x : Str} {t u : Tok} {i : Int} {L e t0 : Addr} {pm cd doc : Value} {m : Str → Option Value} {Q : Flow → Shared → Prop} (b : FaultBase hB) (base : Kp hB h) (gd : Good 1 A)
    (hn : h.Ns L m) (m1 : m "self" = some (.ref e)) (m2 : m "what" = some (.str x t)) (m3 : m "at" = some (.int i u)) (he : h.get? e = some (faultObj none (.ref t0))) (hLe : L ≠ e) (heB : hB.get? e = none)
    (hq : ∀ h' tk', (∀ b o, b ≠ e → h.get? b = some o → h'.get? b = some o) → FaultAt (fun a => h.get? a = none) h' e i → Q .next ⟨h', gn, dr, tk', os⟩) :
    wpAny (model prog w) A (execs initBody (callEnv (initFd pm cd doc) L 36)) Q E ⟨h, gn, dr, tk, os⟩ := by
  obtain ⟨K, X, xk⟩ := b.frag
  obtain ⟨nm, q, N, bs, sn, sub, ab, col, dd, k0, k1, k2, k3, k5, hK⟩ := xk.cls
  have hC₀ := base _ _ (X _ _ hK)
  have hk : (callEnv (initFd pm cd doc) L 36).scope.kind = .function := rfl
  have ld : ∀ {h' : Heap} {tk' : Nat} {y : Str} {v : Value} {p : Pos} {A' : Around} {E' : Value → Shared → Prop} {Q' : Value → Shared → Prop}, (∀ b o, b ≠ e → h.get? b = some o → h'.get? b = some o) → (callEnv (initFd pm cd doc) L 36).kindOf y = some .local →
      m y = some v → (y == ("__debug__" : Str)) = false → Q' v ⟨h', gn, dr, tk', os⟩ → wpAny (model prog w) A' (eval (.Name y p) (callEnv (initFd pm cd doc) L 36)) Q' E' ⟨h', gn, dr, tk', os⟩ :=
    fun k a b c d => wpAny_Name (wpAny_loadName_local hk a (let ⟨o, es, ep, e', r⟩ := hn; ⟨o, es, ep, k _ _ hLe e', r⟩) b d) c
  have P : Pre ⟨prog, w, hB, A, [], callEnv (initFd pm cd doc) L 36⟩ [] ⟨h, gn, dr, tk, os⟩ := ⟨⟨gd, hk, rfl, rfl⟩, base, fun _ m => (nomatch m), fun _ _ e => (nomatch e)⟩
  refine wpAny_execs_cons (wpAny_Expr_any (methodCall_KW (gl_name P b.exc rfl ?_)) rfl rfl)
  refine meth_init ?_
  refine PyProof.Rows.callWith_builtin1 (args_cons (ld (fun _ _ _ e => e) rfl m1 (by decide) (args_cons (ld (fun _ _ _ e => e) rfl m2 (by decide) (args_nil ?_))))) 
  refine init_base hC₀ he fun h₁ t1 he₁ k₁ => ?_
  have hsa : Looks (model prog w) hB (typeLookup (.ref 59) "__setattr__") (some (.builtin "object.__setattr__")) := looks_findIn X xk.sa
  have hlw : Looks (model prog w) hB (typeLookup (.ref 59) "what") none := looks_findIn X xk.what
  have hla : Looks (model prog w) hB (typeLookup (.ref 59) "at") none := looks_findIn X xk.at_
  have b₁ : Kp hB h₁ := fun b o e => k₁ b o (fun q => by rw [q, heB] at e; cases e) (base b o e)
  refine wpAny_execs_cons (plainObj_wpAny_Assign_Attribute (ld k₁ rfl m2 (by decide) (ld k₁ rfl m1 (by decide) ?_)) rfl)
  refine store59 (ns := []) (mA := fun _ => none) (b₁ _ _ (X _ _ hK)) (hsa.keeps b₁) (hlw.keeps b₁) ⟨_, he₁, rfl, (fun c e => nomatch e), .inl ⟨rfl, fun _ => rfl⟩⟩ (fun h₂ tk₂ I₂ k₂ s₂ => ?_) Within.nil (Nat.zero_le _)
  obtain ⟨o₂, he₂, c2, d2, ⟨dx, hdx, hdn⟩, _⟩ := s₂ _ he₁
  have hdn := hdn rfl
  have k12 : ∀ b o, b ≠ e → h.get? b = some o → h₂.get? b = some o := fun b o n z => k₂ b o n (fun o₀ dx z1 z2 => by rw [he₁] at z1; cases z1; cases z2) (k₁ b o n z)
  have b₂ : Kp hB h₂ := fun b o z => k12 b o (fun q => by rw [q, heB] at z; cases z) (base b o z)
  have hdxe : dx ≠ e := fun q => by rw [q, he₁] at hdn; cases hdn
  refine wpAny_execs_cons (plainObj_wpAny_Assign_Attribute (ld k12 rfl m3 (by decide) (ld k12 rfl m1 (by decide) ?_)) rfl)
  refine store59 (ns := ["what"]) (b₂ _ _ (X _ _ hK)) (hsa.keeps b₂) (hla.keeps b₂) I₂ (fun h₃ tk₃ I₃ k₃ s₃ => ?_) ?_ (Nat.le_of_ble_eq_true rfl)
  · obtain ⟨o₃, he₃, c3, d3, _, hd3⟩ := s₃ _ he₂
    have hd3 := hd3 _ hdx
    have dxn : h.get? dx = none := by
      cases z : h.get? dx with
      | none => rfl
      | some o => rw [k₁ dx o hdxe z] at hdn; cases hdn
    refine wpAny_execs_nil (hq h₃ tk₃ (fun b o n z => k₃ b o n (fun o₀ dx' z1 z2 w => by
      rw [he₂] at z1; cases z1
      rw [hdx] at z2; cases z2
      rw [w, dxn] at z; cases z) (k12 b o n z)) ?_)
    obtain ⟨oo, h1, h2, h3, h4⟩ := I₃
    rw [he₃] at h1
    cases h1
    rcases h4 with ⟨h4, _⟩ | ⟨d', h4, h5, h6⟩
    · rw [h4] at hd3; cases hd3
    · rw [h4] at hd3
      cases hd3
      exact ⟨o₃, t1, dx, _, u, dxn, he₃, h2, by rw [d3, d2], h4, h5, h6.ns, by simp⟩
  · exact Within.cons _ _ Within.nil

theorem mk_fault {x : Str} {t u : Tok} {i : Int} {Q : Value → Shared → Prop} (b : FaultBase hB) (lim : hB.NoLimit) (base : Kp hB s.heap) (gd : Good 4 A)
    (hq : ∀ s' e, (∃ h' tk', s' = { s with heap := h', toks := tk' }) → Kp s.heap s'.heap → s.heap.get? e = none → FaultAt (fun a => s.heap.get? a = none) s'.heap e i → Q (.ref e) s') :
    wpAny (model prog w) A (call (.ref 59) [.str x t, .int i u]) Q E s := by
  obtain ⟨K, X, xk⟩ := b.frag
  obtain ⟨nm, q, N, bs, sn, sub, ab, col, dd, k0, k1, k2, k3, k5, hK⟩ := xk.cls
  have hC₀ := X _ _ hK
  obtain ⟨o, pm, cd, doc, dv, n, oT, hfI, hfc, hdat, hT, hTd, hcd⟩ := b.ini.at'
  obtain ⟨hp, gn, dr, tk, os⟩ := s
  dsimp only at base hq
  have li : Looks (model prog w) hB (typeLookup (.ref 59) "__init__") (some (.ref 36)) := looks_findIn X xk.init
  refine call59 (base _ _ hC₀) (li.keeps base) (base _ _ hfI) hfc (fun h₁ e M => ?_) (by rw [sizeLine_eq]; show 2 ≤ _; omega)
  have base₁ : Kp hB h₁ := base.trans M.keeps
  have room : (A.under (.builtin "type.__call__" ⟨[.ref 59, .str x t, .int i u], []⟩)).depth < recursionLimit := by
    have := gd.depth
    show A.depth + 1 < 1000
    omega
  refine wpAny_call (codeAny_call_def (fd := initFd pm cd doc) (body := initBody) (binds := [("self", .ref e), ("what", .str x t), ("at", .int i u)]) room (base₁ _ _ hfI) hdat (lim.keeps base₁) (hcd.keeps base₁) rfl
    (BindsTo.of_defaults rfl (base₁ _ _ hT) hTd rfl rfl) cellI (fun p hp => locI p.1 (by rcases List.mem_cons.mp hp with rfl | hp; exact .head _; rcases List.mem_cons.mp hp with rfl | hp; exact .tail _ (.head _); rw [List.mem_singleton.mp hp]; exact .tail _ (.tail _ (.head _)))) (fun h₂ hn k₂ => ?_) rfl rfl rfl)
  obtain ⟨t0, he, _, _⟩ := M.there
  have hen := M.new
  have he₂ := k₂ _ _ he
  have base₂ : Kp hB h₂ := base₁.trans k₂
  have hLn : h₁.get? h₁.objs.size = none := next_none _
  have heL : e ≠ h₁.objs.size := Nat.ne_of_lt (Heap.lt_size he)
  have heB : hB.get? e = none := by
    cases z : hB.get? e with
    | none => rfl
    | some o => rw [base e o z] at hen; cases hen
  have gd' : Good 1 ((A.under (.builtin "type.__call__" ⟨[.ref 59, .str x t, .int i u], []⟩)).deeper (callEnv (initFd pm cd doc) h₁.objs.size 36)) := by
    refine ⟨gd.handled, ?_, ?_⟩
    · have := gd.depth
      show A.depth + 1 + 1 + 1 ≤ 900
      omega
    · have := gd.units
      have : (A.under (.builtin "type.__call__" ⟨[.ref 59, .str x t, .int i u], []⟩)).units = A.units + 1 := rfl
      show (A.under (.builtin "type.__call__" ⟨[.ref 59, .str x t, .int i u], []⟩)).units + 3 + 40 * 1 ≤ 9000
      omega
  refine init_walk b base₂ gd' hn rfl rfl rfl he₂ heL.symm heB fun h₃ tk₃ k₃ hf => ⟨rfl, ?_⟩
  exact hq _ e ⟨h₃, tk₃, rfl⟩ (fun b o z => k₃ b o (fun w => by rw [w, hen] at z; cases z) (k₂ _ _ (M.keeps _ _ z))) hen (hf.mono fun a z => by
    cases y : hp.get? a with
    | none => rfl
    | some o => rw [k₂ _ _ (M.keeps _ _ y)] at z; cases z)
end
end Mine
end

section
set_option maxRecDepth 100000
namespace Mine
section
variable {M : Model} {A : Around} {E : Value → Shared → Prop} {env : Env}
variable {nm q : Str} {N : Addr} {bs : List Value} {sn : List Str} {sub : List Value} {ab : Bool} {col : Option Bool} {dd : Option Addr} {k0 k1 k2 k3 k5 : Option Value}

theorem raise_made {s : Shared} {x : Sem Value} {Q : Flow → Shared → Prop} (hh : A.handled = none)
    (h : wpAny M A x (fun v s₁ => ∃ e o, v = .ref e ∧ s₁.heap.get? 59 = some (excClassObj nm q 59 N bs bm59 true sn sub ab col dd k0 k1 k2 k3 k5 "Exception.__new__") ∧
      s₁.heap.get? e = some o ∧ o.cls = .ref 59 ∧ (∃ t, o.data = .fields #[.ref t, .none, .none, .none, .bool false, .none]) ∧ E (.ref e) s₁) E s) :
    wpAny M A (raiseStmt env (some x) none) Q E s := by
  have hcB : (Value.ref 59 :: bm59).contains (.type "BaseException") = true := by decide
  unfold raiseStmt
  refine wpAny_bind (wpAny_mono h (fun v s₁ h₁ => ?_) fun _ _ x => x)
  obtain ⟨e, o, rfl, hC, he, hc, ⟨t, hd⟩, hE⟩ := h₁
  obtain ⟨hp, g, d, tk, os⟩ := s₁
  obtain ⟨oc, od, oda, osl⟩ := o
  dsimp only at hc hd
  subst hc hd
  repeat (first | with_reducible refine wpAny_loadPart_at he ?_ | with_reducible refine wpAny_loadPart_at hC ?_ | (with_reducible refine wpAny_isSubtype_exc hC ?_; rw [hcB]) | wp_step)
  exact wpAny_raiseNew_none hh hE
end

section
variable {prog : Program} {w : World} {A : Around} {E : Value → Shared → Prop} {s : Shared} {env : Env} {hB : Heap}

theorem raise_call {x : Str} {np cpos pos : Pos} {args : List Expr} {Q : Flow → Shared → Prop} (b : FaultBase hB) (hh : A.handled = none)
    (h : wpAny (model prog w) A (eval (.Call (.Name x np) args [] cpos) env) (fun v s₁ => ∃ e i, v = .ref e ∧ Kp hB s₁.heap ∧ (∃ F, FaultAt F s₁.heap e i) ∧ E (.ref e) s₁) E s) :
    wpAny (model prog w) A (exec (.Raise (some (.Call (.Name x np) args [] cpos)) none pos) env) Q E s := by
  obtain ⟨K, X, xk⟩ := b.frag
  obtain ⟨nm, q, N, bs, sn, sub, ab, col, dd, k0, k1, k2, k3, k5, hK⟩ := xk.cls
  rw [arm_exec_Raise]
  refine wpAny_bind (wpAny_standAt (raise_made (nm := nm) (q := q) (N := N) (bs := bs) (sn := sn) (sub := sub) (ab := ab) (col := col) (dd := dd) (k0 := k0) (k1 := k1) (k2 := k2) (k3 := k3) (k5 := k5) hh (wpAny_bind (wpAny_mono h (fun v s₃ h₃ => wpAny_bind (wpAny_standAt (wpAny_pure ?_))) fun _ _ x => x))))
  obtain ⟨e, i, rfl, hb, ⟨_, o, t1, dx, m, u, _, h1, h2, h3, h4, h5, h6, h7⟩, hE⟩ := h₃
  exact ⟨e, o, rfl, hb _ _ (X _ _ hK), h1, h2, ⟨t1, h3⟩, hE⟩
end

section
variable {B : Cx} {sin s : Shared} {K : Addr → Obj → Prop} {Y : List Addr} {ρ : List (Str × PyData)} {o : Option Own} {E : Value → Shared → Prop} {Q : Flow → Shared → Prop} {rest : List Stmt}
theorem ex_raise {a c : Expr} {np cpos pos : Pos} {x : Str} {i : Int} (S : St B sin K Y ρ o s) (b : FaultBase B.hB) (lim : B.hB.NoLimit) (gd : Good 4 B.A) (hx : B.env.kindOf "QueryFault" = some .globalImplicit) (he : Evs (B.on Y) ρ [a, c] [.str x, .int i])
    (h : ∀ s' e, St B sin K Y ρ o s' → s.heap.get? e = none → FaultAt (fun a => s.heap.get? a = none) s'.heap e i → E (.ref e) s') (hse : starEach [a, c] B.env = (false, eval a B.env) :: starEach [c] B.env := by rfl) (hp : (backTo cpos ((false, eval a B.env) :: starEach [c] B.env)).any (·.1) = false := by rfl) :
    wpAny (model B.prog B.w) B.A (execs (.Raise (some (.Call (.Name "QueryFault" np) [a, c] [] cpos)) none pos :: rest) B.env) Q E s := by
  obtain ⟨K₀, X, xk⟩ := b.frag
  obtain ⟨nm, q, N, bs, sn, sub, ab, col, dd, k0, k1, k2, k3, k5, hK⟩ := xk.cls
  refine wpAny_execs_cons (raise_call b S.pre.ok.good.handled (PyProof.Rows.Call_ (gl_name (C := B.on Y) S.pre b.fault hx ?_)))
  show wpAny _ _ (callWith cpos (.ref 59) [] (backTo cpos (starEach [a, c] B.env)) []) _ _ _
  have he' := he cpos s E S.pre
  rw [show starEach [a, c] (B.on Y).env = starEach [a, c] B.env from rfl] at he'
  rw [hse] at he' ⊢
  unfold callWith
  refine wpAny_bind (wpAny_holding (Calls.evalArgs_plain (wpAny_mono he' (fun vs s₁ h₁ => wpAny_bind (wpAny_standAt ?_)) fun _ _ x => x)))
  have S₁ := S.keep h₁.1
  obtain ⟨k₁, hv⟩ := h₁
  cases hv with
  | cons p r =>
    cases r with
    | cons p' r =>
      cases r
      cases p
      cases p'
      rename_i t u
      have base₁ := S₁.pre.base
      have hC := base₁ _ _ (X _ _ hK)
      have hn : s₁.heap.get? s₁.heap.objs.size = none := next_none _
      obtain ⟨hp₁, gn, dr, tk, os⟩ := s₁
      simp only [hp]
      refine wpAny_bind (wpAny_keeperOf_exc hC ?_)
      refine wpAny_bind (mk_fault (s := ⟨hp₁, gn, dr, tk, os⟩) b lim base₁ gd fun s₂ e same k₂ hen hf => wpAny_bind (wpAny_holding (wpAny_point (wpAny_pure ?_))))
      obtain ⟨h', tk', rfl⟩ := same
      have kk : Keeps ⟨hp₁, gn, dr, tk, os⟩ { (⟨hp₁, gn, dr, tk, os⟩ : Shared) with heap := h', toks := tk' } := ⟨h', tk', rfl, k₂⟩
      refine ⟨e, i, rfl, base₁.trans k₂, ⟨_, hf⟩, h _ e (S₁.keep kk) ?_ (hf.mono fun a z => ?_)⟩
      · cases z : s.heap.get? e with
        | none => rfl
        | some ob => have z' : hp₁.get? e = some ob := (kpH k₁) _ _ z; rw [z'] at hen; cases hen
      · cases y : s.heap.get? a with
        | none => rfl
        | some ob => have z' : hp₁.get? a = some ob := (kpH k₁) _ _ y; have z : hp₁.get? a = none := z; rw [z'] at z; cases z
end
end Mine
end

section
set_option maxRecDepth 100000
namespace Mine

/-! a raised object passes frames -/
noncomputable def base0 : Heap := ⟨#[], {}⟩
theorem base0_none (a : Addr) : base0.get? a = none := Heap.get?_none_of_le (Nat.zero_le _)
abbrev FF (h : Heap) (l : List Env) : Prop := h.FunFrames base0 l

structure Kept (fs : List Addr) (e : Addr) (h₀ h : Heap) : Prop where
  keep : ∀ b o, b ∉ fs → b ≠ e → h₀.get? b = some o → h.get? b = some o
  fram : ∀ b o, b ∈ fs → h₀.get? b = some o → ∃ sl, h.get? b = some { o with slots := sl }
theorem Kept.refl {fs : List Addr} {e : Addr} {h : Heap} : Kept fs e h h := ⟨fun _ _ _ _ z => z, fun _ o _ z => ⟨o.slots, z⟩⟩
theorem Kept.trans {fs : List Addr} {e : Addr} {h h' h'' : Heap} (x : Kept fs e h h') (y : Kept fs e h' h'') : Kept fs e h h'' :=
  ⟨fun b o n m z => y.keep b o n m (x.keep b o n m z), fun b o m z => let ⟨_, p⟩ := x.fram b o m z; let ⟨sl, q⟩ := y.fram b _ m p; ⟨sl, q⟩⟩

/-- the raised object with its chain of entries; P: what its fields do not touch -/
structure Traced (fs : List Addr) (h₀ : Heap) (e : Addr) (P : Obj → Prop) (fl : Value) (h : Heap) : Prop where
  kept : Kept fs e h₀ h
  exc : ∃ oe vs T oT ts, h.get? e = some oe ∧ P oe ∧ oe.data = .fields vs ∧ vs[1]? = some (.ref T) ∧ h₀.get? T = none ∧ T ≠ e ∧ T ∉ fs ∧ h.get? T = some oT ∧ oT.data = .fields ts ∧ ts[3]? = some fl

section
variable {M : Model} {A : Around} {E : Value → Shared → Prop} {s : Shared}

theorem entry_step {fs : List Addr} {h₀ : Heap} {P : Obj → Prop} (hP : ∀ o f, P o → P (o.mapFields f)) {env : Env} {outer : List Env} {L e : Addr} {oe : Obj} {vs : Array Value} {head : Value} {hadNext : Bool} {Q : Unit → Shared → Prop}
    (hfr : A.frames = some (env :: outer)) (hl : FF s.heap (env :: outer)) (hf : env.frame = some L) (sub : ∀ b ∈ (env :: outer).filterMap (·.frame), b ∈ fs) (hfs : ∀ b ∈ fs, ∃ o, s.heap.get? b = some o) (hef : e ∉ fs) (k : Kept fs e h₀ s.heap)
    (he : s.heap.get? e = some oe) (hPe : P oe) (hd : oe.data = .fields vs) (hsz : 1 < vs.size)
    (h : ∀ h', Traced fs h₀ e P (rawInt L) h' → FF h' (env :: outer) → (∀ b ∈ fs, ∃ o, h'.get? b = some o) → Q () { s with heap := h' }) :
    wpAny M A (do let a ← frameOf env; let pl ← entryPlaceOf L hadNext; let b ← EntryCells.newEntry head a .none (rawInt L) .none pl; setField (.ref e) 1 b) Q E s := by
  have hene : e ∉ (env :: outer).filterMap (·.frame) := fun hm => hef (sub e hm)
  refine wpAny_bind (wpAny_frameOf_fun hfr hl hf fun h₁ hs₁ => ?_)
  refine wpAny_bind (wpAny_entryPlaceOf fun pl hpl => ?_)
  unfold EntryCells.newEntry newFields
  refine wpAny_bind (wpAny_newObj_type ?_ (hpl.sizeOk5 _ _ _ _ _))
  have he₁ : h₁.get? e = some oe := (hs₁.2.1 e hene).trans he
  generalize hto : ({ cls := .type "traceback", dict := none, data := .fields ([head, .ref L, .none, rawInt L, .none] ++ (if pl.isEmpty then List.replicate 6 Value.none else pl)).toArray } : Obj) = ot
  have hotf : ot.data = .fields ([head, .ref L, .none, rawInt L, .none] ++ (if pl.isEmpty then List.replicate 6 Value.none else pl)).toArray := by rw [← hto]
  have hot3 : (([head, .ref L, .none, rawInt L, .none] ++ (if pl.isEmpty then List.replicate 6 Value.none else pl)).toArray)[3]? = some (rawInt L) := by
    first | (simp; done) | (rcases hpl with rfl | ⟨_, _, _, _, _, _, _, rfl⟩ <;> simp)
  have hofr : ot.isFreed = false := by rw [← hto]; rfl
  have he₂ := Heap.get?_push_of_some (h := h₁) ot he₁
  refine wpAny_setField he₂ hd hsz ?_
  have hTe : h₁.objs.size ≠ e := Nat.ne_of_gt (Heap.lt_size he₁)
  have hd₃ := Obj.data_mapFields hd (·.setIfInBounds 1 (Value.ref h₁.objs.size))
  have he₃ := Heap.get?_update_self (Obj.mapFields (·.setIfInBounds 1 (Value.ref h₁.objs.size))) he₂ (Obj.isFreed_of_fields hd₃)
  have hT₃ := (Heap.get?_update_other (h₁.push ot) (Obj.mapFields (·.setIfInBounds 1 (Value.ref h₁.objs.size))) (Ne.symm hTe)).trans (Heap.get?_push_size h₁ hofr)
  have keep : ∀ b o, b ≠ e → h₁.get? b = some o → ((h₁.push ot).update e (Obj.mapFields (·.setIfInBounds 1 (Value.ref h₁.objs.size)))).get? b = some o := fun b o hbe hb => by
    rw [Heap.get?_update_other _ _ (Ne.symm hbe)]
    exact Heap.get?_push_of_some _ hb
  have step : Kept fs e s.heap ((h₁.push ot).update e (Obj.mapFields (·.setIfInBounds 1 (Value.ref h₁.objs.size)))) :=
    ⟨fun b o n m z => keep b o m ((hs₁.2.1 b fun q => n (sub b q)).trans z), fun b o m z => let ⟨sl, q⟩ := hs₁.2.2 b o z; ⟨sl, keep b _ (fun w => hef (w ▸ m)) q⟩⟩
  have hTfs : h₁.objs.size ∉ fs := fun m => by
    obtain ⟨o, z⟩ := hfs _ m
    obtain ⟨sl, q⟩ := hs₁.2.2 _ o z
    exact absurd (Heap.lt_size q) (Nat.lt_irrefl _)
  have hTn : h₀.get? h₁.objs.size = none := by
    cases z : h₀.get? h₁.objs.size with
    | none => rfl
    | some o =>
      have z1 := k.keep _ o hTfs hTe z
      obtain ⟨sl, q⟩ := hs₁.2.2 _ o z1
      exact absurd (Heap.lt_size q) (Nat.lt_irrefl _)
  refine h _ ⟨k.trans step, ⟨_, _, h₁.objs.size, ot, _, he₃, hP _ _ hPe, hd₃, by simp [hsz], hTn, hTe, hTfs, hT₃, hotf, hot3⟩⟩ (hl.of_keeps fun b o hb hnf => ?_) fun b m => ?_
  · obtain ⟨sl, q⟩ := hs₁.2.2 b o hb
    refine ⟨_, keep b _ (fun w => ?_) q, rfl⟩
    rw [w, he] at hb
    cases hb
    exact hnf vs hd
  · obtain ⟨o, z⟩ := hfs b m
    obtain ⟨sl, q⟩ := step.fram b o m z
    exact ⟨_, q⟩

/-- the flight's mark is taken off -/
theorem land_step {fs : List Addr} {h₀ : Heap} {P : Obj → Prop} {l : List Env} {e : Addr} {fl : Value} {Q : Unit → Shared → Prop} (hl : FF s.heap l) (hfs : ∀ b ∈ fs, ∃ o, s.heap.get? b = some o) (t : Traced fs h₀ e P fl s.heap)
    (h : ∀ h', Traced fs h₀ e P .none h' → FF h' l → (∀ b ∈ fs, ∃ o, h'.get? b = some o) → Q () { s with heap := h' }) : wpAny M A (setFlight (.ref e) none) Q E s := by
  obtain ⟨k, oe, vs, T, oT, ts, he, hPe, hd, h1, hnT, hTe, hTf, hT, hdT, h3⟩ := t
  have hsz3 : 3 < ts.size := (Array.getElem?_eq_some_iff.mp h3).1
  have other : ∀ b, b ≠ T → (s.heap.update T (Obj.mapFields (·.setIfInBounds 3 ((none : Option Addr).elim Value.none fun f => rawInt f)))).get? b = s.heap.get? b :=
    fun b hb => Heap.get?_update_other _ _ (Ne.symm hb)
  unfold setFlight
  refine wpAny_bind (wpAny_field he hd h1 ?_)
  rw [if_pos (show (Value.ref T != Value.none) = true from by simp)]
  refine wpAny_setField hT hdT hsz3 (h _ ⟨⟨fun b o n m z => (other b fun q => by rw [q, hnT] at z; cases z).trans (k.keep b o n m z), fun b o m z => ?_⟩, ?_⟩ (hl.of_keeps fun b o hb hnf => ⟨o, (other b fun q => ?_).trans hb, rfl⟩) fun b m => ?_)
  · obtain ⟨sl, q⟩ := k.fram b o m z
    exact ⟨sl, (other b fun w => hTf (w ▸ m)).trans q⟩
  · exact ⟨oe, vs, T, _, _, (other e (Ne.symm hTe)).trans he, hPe, hd, h1, hnT, hTe, hTf, Heap.get?_update_self _ hT (Obj.isFreed_of_fields (Obj.data_mapFields hdT _)), Obj.data_mapFields hdT _, by simp [hsz3]⟩
  · rw [q, hT] at hb
    cases hb
    exact hnf ts hdT
  · obtain ⟨o, z⟩ := hfs b m
    exact ⟨o, (other b fun w => hTf (w ▸ m)).trans z⟩

/-- the frame in which it was raised is left -/
theorem leave_first {fs : List Addr} {P : Obj → Prop} (hP : ∀ o f, P o → P (o.mapFields f)) {env : Env} {outer : List Env} {L e : Addr} {oe : Obj} {vs : Array Value} {Q : Unit → Shared → Prop}
    (hfr : A.frames = some (env :: outer)) (hl : FF s.heap (env :: outer)) (hf : env.frame = some L) (sub : ∀ b ∈ (env :: outer).filterMap (·.frame), b ∈ fs) (hfs : ∀ b ∈ fs, ∃ o, s.heap.get? b = some o) (hef : e ∉ fs)
    (he : s.heap.get? e = some oe) (hPe : P oe) (hd : oe.data = .fields vs) (h1 : vs[1]? = some .none)
    (h : ∀ h', Traced fs s.heap e P .none h' → FF h' outer → (∀ b ∈ fs, ∃ o, h'.get? b = some o) → Q () { s with heap := h' }) : wpAny M A (leaving env (.ref e)) Q E s := by
  unfold leaving noteFrame
  simp only [hf]
  refine wpAny_bind (wpAny_bind (wpAny_field he hd h1 ?_))
  rw [if_neg (by decide)]
  refine entry_step hP hfr hl hf sub hfs hef Kept.refl he hPe hd (Array.getElem?_eq_some_iff.mp h1).1 fun h' t' l' f' => ?_
  exact land_step l' f' t' fun h'' t'' l'' f'' => h h'' t'' l''.2.2 f''

/-- a frame further out sees it -/
theorem note_next {fs : List Addr} {h₀ : Heap} {P : Obj → Prop} (hP : ∀ o f, P o → P (o.mapFields f)) {env : Env} {outer : List Env} {L e : Addr} {Q : Unit → Shared → Prop}
    (hfr : A.frames = some (env :: outer)) (hl : FF s.heap (env :: outer)) (hf : env.frame = some L) (sub : ∀ b ∈ (env :: outer).filterMap (·.frame), b ∈ fs) (hfs : ∀ b ∈ fs, ∃ o, s.heap.get? b = some o) (hef : e ∉ fs)
    (t : Traced fs h₀ e P .none s.heap)
    (h : ∀ h', Traced fs h₀ e P (rawInt L) h' → FF h' (env :: outer) → (∀ b ∈ fs, ∃ o, h'.get? b = some o) → Q () { s with heap := h' }) : wpAny M A (noteFrame (.ref e) env) Q E s := by
  obtain ⟨k, oe, vs, T, oT, ts, he, hPe, hd, h1, hnT, hTe, hTf, hT, hdT, h3⟩ := t
  unfold noteFrame
  simp only [hf]
  refine wpAny_bind (wpAny_field he hd h1 ?_)
  rw [if_pos (show (Value.ref T != Value.none) = true from by simp)]
  refine wpAny_bind (wpAny_field hT hdT h3 ?_)
  rw [if_neg (show ¬ ((Value.none == rawInt L) = true) from by simp [rawInt])]
  refine wpAny_bind (wpAny_setField hT hdT (Array.getElem?_eq_some_iff.mp h3).1 ?_)
  have other : ∀ b, b ≠ T → (s.heap.update T (Obj.mapFields (·.setIfInBounds 3 Value.none))).get? b = s.heap.get? b := fun b hb => Heap.get?_update_other _ _ (Ne.symm hb)
  refine entry_step hP hfr (hl.of_keeps fun b o hb hnf => ⟨o, (other b fun q => ?_).trans hb, rfl⟩) hf sub (fun b m => ?_) hef ⟨fun b o n m z => (other b fun q => by rw [q, hnT] at z; cases z).trans (k.keep b o n m z), fun b o m z => ?_⟩
    ((other e (Ne.symm hTe)).trans he) hPe hd (Array.getElem?_eq_some_iff.mp h1).1 h
  · rw [q, hT] at hb
    cases hb
    exact hnf ts hdT
  · obtain ⟨o, z⟩ := hfs b m
    exact ⟨o, (other b fun w => hTf (w ▸ m)).trans z⟩
  · obtain ⟨sl, q⟩ := k.fram b o m z
    exact ⟨sl, (other b fun w => hTf (w ▸ m)).trans q⟩
end
end Mine
end

section
set_option maxRecDepth 100000
namespace Mine

noncomputable def projRead : Nat → List (Str × Bool) → Bool → List Str → Except Int (List (Str × Bool))
  | at', ks, t, [] => if ks.isEmpty || t then .error at' else .ok ks
  | at', ks, t, g :: r => if g == "REVERSE" then (if t then .error at' else projRead (at' + 1) ks true r) else if sortWords.any (· == g) then projRead (at' + 1) (ks ++ [(g, t)]) false r else .error at'

/-- the state in which a fault leaves the frame -/
structure Raised (B : Cx) (sin : Shared) (e : Addr) (i : Int) (s : Shared) : Prop where
  same : ∃ h tk, s = { sin with heap := h, toks := tk }
  keep : Kp sin.heap s.heap
  ns : ∃ m, s.heap.Ns B.env.locals m
  ne : e ≠ B.env.locals
  new : sin.heap.get? e = none
  flt : FaultAt (fun a => sin.heap.get? a = none ∧ a ≠ B.env.locals) s.heap e i

theorem St.raised {B : Cx} {sin s s' : Shared} {K : Addr → Obj → Prop} {Y : List Addr} {ρ : List (Str × PyData)} {o : Option Own} {e : Addr} {i : Int} (S : St B sin K Y ρ o s) (S' : St B sin K Y ρ o s') (hn : s.heap.get? e = none) (f : FaultAt (fun a => s.heap.get? a = none) s'.heap e i) : Raised B sin e i s' where
  same := S'.same
  keep := fun b o z => S'.kept b o (S'.old b o z)
  ns := S'.ns
  ne := fun w => by
    obtain ⟨m, ob, es, ep, z, _⟩ := S.ns
    rw [← w, hn] at z
    cases z
  new := by
    cases z : sin.heap.get? e with
    | none => rfl
    | some ob => have := S.kept e ob (S.old e ob z); rw [hn] at this; cases this
  flt := f.mono fun a z => by
    constructor
    · cases y : sin.heap.get? a with
      | none => rfl
      | some ob => have := S.kept a ob (S.old a ob y); rw [z] at this; cases this
    · intro v
      obtain ⟨m, ob, es, ep, y, _⟩ := S.ns
      rw [← v, z] at y
      cases y

section
variable {prog : Program} {w : World} {hB : Heap}
abbrev ReadRet (sin : Shared) (X : List Addr) (ws : List Str) (f : Flow) (s' : Shared) : Prop := ∃ v ks, projRead 0 [] false (ws.map upTxt) = .ok ks ∧ f = .ret v ∧ Keeps sin s' ∧ Is X s'.heap v (keysD ks)
theorem run_read (b : Base hB) (fb : FaultBase hB) (ws : List Str) (hw : ws.length ≤ 900) (hz : ∀ x ∈ ws, x.length ≤ 1000) {A : Around} {L : Addr} {cd : Value} {X : List Addr} {s sin : Shared} {E : Value → Shared → Prop} (g : Good 6 A)
    (S : St ⟨prog, w, hB, A, X, envOf (fname 9) (fscope 9) L 80 cd⟩ sin (fun b x => sin.heap.get? b = some x) [L] [("words", textsD ws)] none s)
    (hE : PassesOwn (model prog w) A (envOf (fname 9) (fscope 9) L 80 cd) E)
    (hR : ∀ e i s', projRead 0 [] false (ws.map upTxt) = .error i → Raised ⟨prog, w, hB, A, X, envOf (fname 9) (fscope 9) L 80 cd⟩ sin e i s' → E (.ref e) s') :
    wpAny (model prog w) A (execs (fbody 9) (envOf (fname 9) (fscope 9) L 80 cd)) (ReadRet sin X ws) E s := by
  refine ex_ownPair S (fun Y => ev_bool) (.inl rfl) (.inl rfl) rfl (by decide) fun s₁ l hl S₁ => ?_
  refine ex_for (xs := ["at", "word"]) (f := two "at" "word") (fun p : List (Str × Bool) × Bool => [("is_reverse", .bool p.2), ("words", textsD ws)]) (fun p => some ⟨"found", l, p.1.map keyD⟩)
      (fun i p => projRead 0 [] false (ws.map upTxt) = projRead i p.1 p.2 ((ws.map upTxt).drop i) ∧ p.1.length ≤ i ∧ KeysOk p.1) ([], false) S₁ (tsrc_enum b.bEnum rfl (ev_name rfl)) ?_ ⟨rfl, Nat.le_refl _, fun k m => (nomatch m)⟩ ⟨rfl, rfl, trivial⟩ rfl ?_ ?_ ?_ ?_
  · intro d hd
    obtain ⟨i, hi⟩ := List.getElem?_of_mem hd
    rw [numbered_get] at hi
    obtain ⟨d', _, rfl⟩ := Option.map_eq_some_iff.mp hi
    exact tg_two (.inl rfl) (.inl rfl)
  · intro x q h
    cases h
    show ("found" : Str) ∉ _
    decide
  · intro x q h
    cases h
    exact ⟨_, rfl, rfl⟩
  · rintro wr K' i ⟨ks, t⟩ d s' hK hd ⟨inv, hlen, hok⟩ S
    rw [numbered_get, List.getElem?_map, Nat.zero_add] at hd
    obtain ⟨_, hd', rfl⟩ := Option.map_eq_some_iff.mp hd
    obtain ⟨y, hy, rfl⟩ := Option.map_eq_some_iff.mp hd'
    have hi : i < ws.length := (List.getElem?_eq_some_iff.mp hy).1
    simp only at inv hlen hok
    have hdrop : (ws.map upTxt).drop i = upTxt y :: (ws.map upTxt).drop (i + 1) := by
      rw [List.drop_eq_getElem_cons (by rw [List.length_map]; exact hi)]
      congr 1
      obtain ⟨_, e⟩ := List.getElem?_eq_some_iff.mp hy
      rw [List.getElem_map, e]
    rw [hdrop, projRead] at inv
    refine wpAny_passesOwn hE ?_
    refine ex_assign S (ev_call b.g5 b.f5 (fun_upper b y (hz y (List.mem_of_getElem? hy))) (g.mono (by decide)) rfl (evs_cons (ev_name rfl) evs_nil)) (.inl rfl) (fun q e => by cases e; show ("found" : Str) ≠ _; decide) fun s₁ S₁ => ?_
    refine ex_if S₁ (tr_cmp (ev_name rfl) ev_str cmp_eqStr) (fun h s₂ S₂ => ?_) fun h s₂ S₂ => ?_
    · rw [if_pos h] at inv
      refine ex_if S₂ (tr_val (ev_name rfl)) (fun h' s₃ S₃ => ?_) fun h' s₃ S₃ => ?_
      · rw [if_pos h'] at inv
        exact ex_raise S₃ fb b.lim (g.mono (by decide)) rfl (evs_cons ev_str (evs_cons (ev_name rfl) evs_nil)) fun s₄ e S₄ hn hf => hR e i s₄ inv (S₃.raised S₄ hn hf)
      · have h' : t = false := h'
        rw [if_neg (by rw [h']; exact Bool.false_ne_true)] at inv
        refine then_nil (ex_assign S₃ ev_bool (.inl rfl) (fun q e => by cases e; show ("found" : Str) ≠ _; decide) fun s₄ S₄ => ?_)
        exact then_nil (ex_nil ⟨(ks, true), ⟨inv, Nat.le_succ_of_le hlen, hok⟩, S₄.weak (Sub.at ⟨rfl, rfl, trivial⟩)⟩)
    · rw [if_neg (by rw [h]; exact Bool.false_ne_true)] at inv
      refine ex_if S₂ (tr_cmp (ev_name rfl) (ev_call0 b.g8 b.f8 (fun_words b) (g.mono (by decide)) rfl) (cmp_inList (ys := sortWords))) (fun h' s₃ S₃ => ?_) fun h' s₃ S₃ => ?_
      · rw [if_pos h'] at inv
        refine ex_append S₃ (ev_tuple (evs_cons (ev_name rfl) (evs_cons (ev_name rfl) evs_nil))) (by rw [List.length_map]; show ks.length ≤ _; omega) fun s₄ S₄ => ?_
        refine ex_assign S₄ ev_bool (.inl rfl) (fun q e => by cases e; show ("found" : Str) ≠ _; decide) fun s₅ S₅ => ?_
        refine then_nil (then_nil (ex_nil ⟨(ks ++ [(upTxt y, t)], false), ⟨inv, ?_, hok.snoc h'⟩, ?_⟩))
        · simp only [List.length_append, List.length_singleton]; omega
        · show St _ _ _ _ _ (some ⟨_, _, (ks ++ [(upTxt y, t)]).map keyD⟩) _
          rw [List.map_append]
          exact S₅.weak (Sub.at ⟨rfl, rfl, trivial⟩)
      · rw [if_neg (by rw [h']; exact Bool.false_ne_true)] at inv
        exact ex_raise S₃ fb b.lim (g.mono (by decide)) rfl (evs_cons ev_str (evs_cons (ev_name rfl) evs_nil)) fun s₄ e S₄ hn hf => hR e i s₄ inv (S₃.raised S₄ hn hf)
  · rintro ⟨ks, t⟩ s' ⟨inv, hlen, hok⟩ S
    simp only at inv hlen hok
    rw [numbered_length, List.length_map] at inv hlen
    have hdrop : (ws.map upTxt).drop ws.length = [] := List.drop_eq_nil_of_le (by rw [List.length_map]; exact Nat.le_refl _)
    rw [hdrop, projRead] at inv
    have S := own_done S hl
    refine ex_if S (tr_or (x := ks.isEmpty) (y := t) (tr_eq (tr_cmp (ev_name rfl) (ev_list evs_nil) (cmp_eq (shaped_keys hok) rfl)) (by rw [eqv_nil, List.isEmpty_map])) fun _ => tr_val (ev_name rfl)) (fun h s₁ S₁ => ?_) fun h s₁ S₁ => ?_
    · rw [if_pos h] at inv
      refine ex_raise S₁ fb b.lim (g.mono (by decide)) rfl (evs_cons ev_str (evs_cons (ev_bi b.bLen rfl (evs_cons (ev_name rfl) evs_nil) (bi_len (by rw [List.length_map]; omega))) evs_nil)) fun s₄ e S₄ hn hf => hR e _ s₄ inv (S₁.raised S₄ hn ?_)
      rw [List.length_map] at hf
      exact hf
    · rw [if_neg (by rw [h]; exact Bool.false_ne_true)] at inv
      exact then_nil (ex_return S₁ (ev_name rfl) fun v s' k i => ⟨v, ks, inv, rfl, k, i⟩)
end
end Mine
end

section
set_option maxRecDepth 100000
namespace Mine
section
open Builtin Builtin.ObjectAttr
variable {prog : Program} {w : World} {A : Around} {E : Value → Shared → Prop} {h : Heap} {g : Array GenState} {d : Drawn} {t : Nat} {os : OsState}
variable {nm q : Str} {N x : Addr} {bs : List Value} {sn : List Str} {sub : List Value} {ab : Bool} {col : Option Bool} {dd : Option Addr} {k0 k1 k2 k3 k5 : Option Value}

theorem chk_ga {M : Model} {o : Obj} {nameV : Value} {Q : Unit → Shared → Prop} (hC : h.get? 59 = some (excClassObj nm q 59 N bs bm59 true sn sub ab col dd k0 k1 k2 k3 k5 "Exception.__new__"))
    (hx : h.get? x = some o) (hc : o.cls = .ref 59) (hq : Q () ⟨h, g, d, t, os⟩) : wpAny M A (checkBuiltinCall "BaseException.__getattribute__" ⟨[.ref x, nameV], []⟩) Q E ⟨h, g, d, t, os⟩ := by
  have hk : builtinKind "BaseException.__getattribute__" = some .slot := by decide +kernel
  have hsplit : splitId "BaseException.__getattribute__" = some ("BaseException", "__getattribute__") := by decide +kernel
  have hcB : (Value.ref 59 :: bm59).contains (.type "BaseException") = true := by decide
  have ha := PySem.F.args_bexc_ga (.ref x) nameV
  simp only [checkBuiltinCall, hk, hsplit]
  refine wpAny_bind ?_
  · unfold isInstance
    repeat (first | (with_reducible refine wpAny_loadPart_at hx ?_; rw [hc]) | (with_reducible refine wpAny_isSubtype_exc hC ?_; rw [hcB]) | wp_step)
    exact hq

theorem get_at {o : Obj} {vs : Array Value} {dx : Addr} {m : Str → Option Value} {v : Value} {expr : Bool} {Q : Value → Shared → Prop} (hC : h.get? 59 = some (excClassObj nm q 59 N bs bm59 true sn sub ab col dd k0 k1 k2 k3 k5 "Exception.__new__"))
    (hga : Looks (model prog w) h (typeLookup (.ref 59) "__getattribute__") (some (.builtin "BaseException.__getattribute__"))) (hgt : Looks (model prog w) h (typeLookup (.ref 59) "__getattr__") none) (hat : Looks (model prog w) h (typeLookup (.ref 59) "at") none)
    (hx : h.get? x = some o) (hc : o.cls = .ref 59) (hd : o.data = .fields vs) (hdx : o.dict = some dx) (hn : h.Ns dx m) (hm : m "at" = some v) (hv : handedIn v = true) (hq : Q v ⟨h, g, d, t + 1, os⟩) :
    wpAny (model prog w) A (getAttr (.ref x) "at" expr) Q E ⟨h, g, d, t, os⟩ := by
  have G := PySem.F.attr_Exception.ga
  have f3 := G.bind (.ref x)
  have hx0 : (expr && onTheHeap (Value.builtin "BaseException.__getattribute__")) = false := by cases expr <;> rfl
  have hx2 : (Value.builtin "BaseException.__getattribute__" == Value.builtin "object.__getattribute__") = false := by decide +kernel
  have hx1 : (onTheHeap (Value.ref 59) && Value.builtin "BaseException.__getattribute__" == Value.builtin "object.__getattribute__") = false := by rw [hx2]; rfl
  unfold getAttr getAttrBy
  repeat (any_goals (first | assumption | (with_reducible refine wpAny_loadPart_at hx ?_; rw [hc]) | with_reducible refine Looks.at hga ?_ | with_reducible refine Looks.at hgt ?_ | wp_step))
  refine codeAny_call_builtin G.plain PySem.F.entry_bexc_ga (chk_ga hC hx hc ?_)
  repeat (any_goals (first | assumption | (with_reducible refine wpAny_loadPart_at hx ?_; rw [hc]) | with_reducible refine Looks.at hat ?_ | wp_step))
  rw [hd]
  show wpAny _ _ (instanceDict x false) _ _ _
  unfold instanceDict
  refine wpAny_bind (wpAny_loadPart_at hx ?_)
  rw [hc, hdx]
  refine wpAny_bind (m := classData 59) ?_
  unfold classData
  refine wpAny_bind (wpAny_load hC (wpAny_pure ?_))
  refine wpAny_pure (a := some dx) ?_
  show wpAny _ _ (nsGet dx "at") _ _ _
  refine wpAny_nsGet hn ?_
  rw [hm]
  refine wpAny_bind (wpAny_rule (wpAny_pure ?_))
  refine wpAny_pure ?_
  show wpAny _ _ (handedOut v) _ _ _
  rw [handedOut_of hv]
  exact wpAny_pure hq
end
end Mine
end

section
set_option maxRecDepth 100000
namespace Mine

noncomputable abbrev wn : List Str := ["words"]
noncomputable def heardD (r : Except Int (List (Str × Bool))) : PyData := match r with
  | .ok ks => .tuple [keysD ks, .int (-1)]
  | .error i => .tuple [.none, .int i]

theorem gl_at {prog : Program} {w : World} {hB : Heap} {A : Around} {env : Env} {x : Str} {v : Value} {pos : Pos} {s : Shared} {E : Value → Shared → Prop} {Q : Value → Shared → Prop} (hk : env.scope.kind = .function) (hg : env.globals = mainGlobals) (hb : env.builtins = builtinsNs) (base : Kp hB s.heap)
    (g : Gl hB x v) (hx : env.kindOf x = some .globalImplicit) (h : Q v s) (hd : (x == ("__debug__" : Str)) = false := by decide) : wpAny (model prog w) A (eval (.Name x pos) env) Q E s := by
  obtain ⟨mg, n, g⟩ := g
  refine Calls.Name_function_global hk hx ?_ hd
  rcases g with g | ⟨g, mb, n', g'⟩
  · exact Calls.loadGlobal_global (by rw [hg]; exact n.keeps base) g h
  · exact Calls.loadGlobal_builtin (by rw [hg]; exact n.keeps base) g (by rw [hb]; exact n'.keeps base) g' h

section
variable {prog : Program} {w : World} {hB : Heap}

/-- read_sort_keys, called where it does not raise -/
theorem fun_readOk (b : Base hB) (fb : FaultBase hB) (ws : List Str) (ks : List (Str × Bool)) (hw : ws.length ≤ 900) (hz : ∀ x ∈ ws, x.length ≤ 1000) (hr : projRead 0 [] false (ws.map upTxt) = .ok ks) : Fun prog w hB 7 80 [textsD ws] (keysD ks) := by
  refine fun_enter wn b.lim b.f9 (fun pm cd doc vs h => ?_) rfl (fun A L cd X s sin E g S => ?_)
  · obtain ⟨v, rfl⟩ := one_of h
    rfl
  · refine wpAny_mono (run_read b fb ws hw hz g S (E := fun _ _ => False) PassesOwn.never fun e i s' h => by rw [hr] at h; cases h) (fun f s' h => ?_) fun _ _ e => e.elim
    obtain ⟨v, ks', h1, rfl, k, i⟩ := h
    rw [hr] at h1
    cases h1
    exact ⟨v, rfl, k, i⟩

/-- what a call that may catch a fault leaves: the outer frames' objects may have other slots -/
structure KeptF (fs : List Addr) (h h' : Heap) : Prop where
  keep : ∀ b o, b ∉ fs → h.get? b = some o → h'.get? b = some o
  fram : ∀ b o, b ∈ fs → h.get? b = some o → ∃ sl, h'.get? b = some { o with slots := sl }
theorem KeptF.of {fs : List Addr} {h h' : Heap} (k : Kp h h') : KeptF fs h h' := ⟨fun b o _ z => k b o z, fun b o _ z => ⟨o.slots, k b o z⟩⟩
theorem KeptF.trans {fs : List Addr} {h h' h'' : Heap} (x : KeptF fs h h') (y : KeptF fs h' h'') : KeptF fs h h'' :=
  ⟨fun b o n z => y.keep b o n (x.keep b o n z), fun b o m z => let ⟨_, p⟩ := x.fram b o m z; let ⟨sl, q⟩ := y.fram b _ m p; ⟨sl, q⟩⟩

/-- what a call of _law_heard leaves -/
noncomputable def HeardPost (outer : List Env) (X : List Addr) (s : Shared) (d : PyData) (v : Value) (s' : Shared) : Prop :=
  (∃ h' tk, s' = { s with heap := h', toks := tk }) ∧ KeptF (outer.filterMap (·.frame)) s.heap s'.heap ∧ Is X s'.heap v d

noncomputable abbrev env17 (L : Addr) (cd : Value) : Env := envOf (fname 17) (fscope 17) L 121 cd
theorem heard_body (b : Base hB) (fb : FaultBase hB) (ws : List Str) (hw : ws.length ≤ 900) (hz : ∀ x ∈ ws, x.length ≤ 1000) {A₁ : Around} {outer : List Env} {X : List Addr} {s s₁ : Shared} {E : Value → Shared → Prop} {L : Addr} {cd : Value} (gH : Good 8 A₁) (fr2 : A₁.frames = some (env17 L cd :: outer)) (hff : FF s.heap outer)
    (hBf : ∀ b ∈ outer.filterMap (·.frame), hB.get? b = none) (base : Kp hB s.heap) (liv : ∀ a ∈ X, ∃ o, s.heap.get? a = some o) (hLn : s.heap.get? L = none)
    (S : St ⟨prog, w, hB, A₁, X, env17 L cd⟩ s (fun b x => s.heap.get? b = some x) [L] (wn.zip [textsD ws]) none s₁) :
    wpAny (model prog w) A₁ (execs (fbody 17) (env17 L cd)) (fun f s' => ∃ v, f = .ret v ∧ HeardPost outer X s (heardD (projRead 0 [] false (ws.map upTxt))) v s') E s₁ := by
  obtain ⟨o9, pm9, cd9, doc9, ho9, hdat9, hcd9⟩ := b.f9.at'
  obtain ⟨K₀, XX, xk⟩ := fb.frag
  obtain ⟨nm, q, N, bs, sn, sub, ab, col, dd, k0, k1, k2, k3, k5, hK⟩ := xk.cls
  have hl9 : ∀ x ∈ wn, (fscope 9).names.lookup x = some .local := by decide
  refine wpAny_execs_cons (wpAny_Try_except ?_)
  refine wpAny_execs_cons (wpAny_Return_some (Tuple_ (args_cons (PyProof.Rows.Call_ (gl_name S.pre b.g9 rfl ?_)))))
  refine PyProof.Rows.callWith_def hdat9 (wpAny_mono ((show Evs (Cx.on ⟨prog, w, hB, A₁, X, env17 L cd⟩ [L]) (wn.zip [textsD ws]) _ [textsD ws] from evs_cons (ev_name rfl) evs_nil) _ s₁ _ S.pre) (fun vs₂ s₂ h₂ => ?_) fun _ _ e => e)
  obtain ⟨k₂, hv₂⟩ := h₂
  have S₂ := S.keep k₂
  have base₂ := S₂.pre.base
  refine ⟨base₂ _ _ ho9, ?_⟩
  have bind9 : bindArgs (Calls.docDef (fname 9) (fparams 9) (fbody 9) (fscope 9) pm9 cd9 doc9) ⟨vs₂, []⟩ = pure (wn.zip vs₂) := by
    obtain ⟨v, rfl⟩ := one_of hv₂.length
    rfl
  refine wpAny_call (PyProof.Rows.call_plain (binds := wn.zip vs₂) gH.room (base₂ _ _ ho9) hdat9 (b.lim.keeps base₂) (hcd9.keeps base₂) bind9 (fun x m => hl9 _ (List.of_mem_zip m).1) (fun h₃ F₃ => ?_) rfl rfl rfl (by decide))
  have S₃ := st_enter (prog := prog) (w := w) (hB := hB) (A := A₁.deeper (envOf (fname 9) (fscope 9) s₂.heap.objs.size 80 cd9)) (X := [L] ++ X) (cd := cd9) (a := 80) (tk := s₂.toks + (wn.zip vs₂).length) (name := fname 9) (gH.deeper.mono (by omega)) base₂ S₂.pre.liv hv₂ F₃ rfl (by decide) hl9
  have hLRn : s₂.heap.get? s₂.heap.objs.size = none := next_none _
  generalize hLR : s₂.heap.objs.size = LR at S₃ hLRn F₃ ⊢
  refine wpAny_mono (run_read b fb ws hw hz (gH.deeper.mono (by omega)) S₃ (by passes_own) fun e i s₄ hpr R => ?_) (fun f s₄ h₄ => ?_) fun _ _ e => e
  · obtain ⟨oe, t1, dx, mx, u, ⟨hdxn, hdxL⟩, he, hc, hd, hdx, hdxe, hnx, hat⟩ := R.flt
    have same₂ := S₂.same
    obtain ⟨h₂', tk₂', hs₂⟩ := same₂
    have kSs : ∀ b o, s.heap.get? b = some o → s₂.heap.get? b = some o := fun b o z => S₂.kept b o z
    have kS₄ : ∀ b o, s.heap.get? b = some o → s₄.heap.get? b = some o := fun b o z => R.keep b o (kSs b o z)
    have heS : s.heap.get? e = none := by
      cases z : s.heap.get? e with
      | none => rfl
      | some ob => have := kSs e ob z; rw [R.new] at this; cases this
    have heB : hB.get? e = none := by
      cases z : hB.get? e with
      | none => rfl
      | some ob => rw [base e ob z] at heS; cases heS
    -- the frames
    obtain ⟨mR, oR, esR, epR, hgR, hdR, hkR⟩ := R.ns
    obtain ⟨mH, hnH⟩ := S₂.ns
    have hnH₄ := hnH.keeps R.keep
    have hgH : ∃ ob es ep, s₄.heap.get? L = some ob ∧ ob.data = .dict es ep := let ⟨ob, es, ep, z, d, _⟩ := hnH₄; ⟨ob, es, ep, z, d⟩
    obtain ⟨oH, esH, epH, hgH, hdH⟩ := hgH
    have ffo : FF s₄.heap outer := hff.of_keeps fun b o z _ => ⟨o, kS₄ b o z, rfl⟩
    have ffH : FF s₄.heap (env17 L cd :: outer) := ⟨(show (fscope 17).kind ≠ .module by decide), ⟨L, oH, rfl, base0_none _, hgH, fun vs z => by rw [hdH] at z; cases z⟩, ffo⟩
    have ffR : FF s₄.heap (envOf (fname 9) (fscope 9) LR 80 cd9 :: env17 L cd :: outer) := ⟨(show (fscope 9).kind ≠ .module by decide), ⟨LR, oR, rfl, base0_none _, hgR, fun vs z => by rw [hdR] at z; cases z⟩, ffH⟩
    have hLRL : LR ≠ L := fun w => by
      obtain ⟨ob, es, ep, z, _⟩ := hnH
      have z : s₂.heap.get? L = some ob := z
      rw [← w, hLRn] at z
      cases z
    let fs : List Addr := LR :: L :: outer.filterMap (·.frame)
    have live : ∀ b ∈ fs, ∃ o, s₄.heap.get? b = some o := fun b m => by
      rcases List.mem_cons.mp m with rfl | m
      · exact ⟨_, hgR⟩
      rcases List.mem_cons.mp m with rfl | m
      · exact ⟨_, hgH⟩
      · obtain ⟨_, o, z, _⟩ := hff.mem m
        exact ⟨o, kS₄ b o z⟩
    have hef : e ∉ fs := fun m => by
      rcases List.mem_cons.mp m with w | m
      · exact R.ne w
      rcases List.mem_cons.mp m with w | m
      · obtain ⟨ob, es, ep, z, _⟩ := hnH
        have z : s₂.heap.get? L = some ob := z
        rw [← w, R.new] at z
        cases z
      · obtain ⟨_, o, z, _⟩ := hff.mem m
        rw [heS] at z
        cases z
    have hBfs : ∀ b o, hB.get? b = some o → b ∉ fs ∧ b ≠ e := fun b o z => by
      refine ⟨fun m => ?_, fun v => by rw [v, heB] at z; cases z⟩
      rcases List.mem_cons.mp m with v | m
      · have := base₂ b o z
        rw [v, hLRn] at this
        cases this
      rcases List.mem_cons.mp m with v | m
      · have := base b o z
        rw [v, hLn] at this
        cases this
      · rw [hBf b m] at z
        cases z
    have sub1 : ∀ b ∈ (envOf (fname 9) (fscope 9) LR 80 cd9 :: env17 L cd :: outer).filterMap (·.frame), b ∈ fs := fun b m => m
    have sub2 : ∀ b ∈ (env17 L cd :: outer).filterMap (·.frame), b ∈ fs := fun b m => .tail _ m
    let P : Obj → Prop := fun o => o.cls = .ref 59 ∧ o.dict = some dx
    have hP : ∀ o f, P o → P (o.mapFields f) := fun o f p => ⟨(Obj.cls_mapFields _ _).trans p.1, by obtain ⟨_, _, dt, _⟩ := o; cases dt <;> exact p.2⟩
    have fr1 : (A₁.deeper (envOf (fname 9) (fscope 9) LR 80 cd9)).frames = some (envOf (fname 9) (fscope 9) LR 80 cd9 :: env17 L cd :: outer) := by
      show A₁.frames.map _ = _
      rw [fr2]; rfl
    refine leave_first (fs := fs) (P := P) hP fr1 ffR rfl sub1 live hef he ⟨hc, hdx⟩ hd rfl fun h₅ t₅ ff₅ lv₅ => ?_
    show wpAny _ _ (noteFrame (.ref e) _) _ _ _
    refine note_next hP fr2 ff₅ rfl sub2 lv₅ hef t₅ fun h₆ t₆ ff₆ lv₆ => ?_
    refine land_step ff₆ lv₆ t₆ fun h₇ t₇ ff₇ lv₇ => ?_
    have base₇ : Kp hB h₇ := fun b o z => t₇.kept.keep b o (hBfs b o z).1 (hBfs b o z).2 (R.keep b o (base₂ b o z))
    have hC₇ := base₇ _ _ (XX _ _ hK)
    obtain ⟨oe₇, vs₇, T₇, oT₇, ts₇, he₇, hPe₇, hd₇, _⟩ := t₇.exc
    refine wpAny_handleBy_cons (codeAny_handlers_test (gl_at rfl rfl rfl base₇ fb.fault rfl ?_)) (by intro q; cases q)
    refine wpAny_excMatches_sub_self hC₇ he₇ hPe₇.1 (by decide) (codeAny_handlers_suite_as ?_)
    refine land_step ff₇ lv₇ t₇ fun h₈ t₈ ff₈ lv₈ => ?_
    have base₈ : Kp hB h₈ := fun b o z => t₈.kept.keep b o (hBfs b o z).1 (hBfs b o z).2 (R.keep b o (base₂ b o z))
    have n₈ : ∃ m, h₈.Ns L m := by
      obtain ⟨ob, es, ep, z, d, k, f⟩ := hnH₄
      obtain ⟨sl, z'⟩ := t₈.kept.fram L ob (.tail _ (.head _)) z
      exact ⟨mH, _, es, ep, z', d, k, f⟩
    obtain ⟨m₈, n₈⟩ := n₈
    refine wpAny_storeName_local rfl n₈ (fun h₉ n₉ sb₉ => ?_) rfl
    have hdxfs : dx ∉ fs := fun m => by
      rcases List.mem_cons.mp m with v | m
      · exact hdxL v
      rcases List.mem_cons.mp m with v | m
      · obtain ⟨ob, es, ep, z, _⟩ := hnH
        have z : s₂.heap.get? L = some ob := z
        rw [← v, hdxn] at z
        cases z
      · obtain ⟨_, o, z, _⟩ := hff.mem m
        have := kSs _ _ z
        rw [hdxn] at this
        cases this
    have ne {a : Addr} (n : a ∉ fs) : a ≠ L := fun v => n (v ▸ .tail _ (.head _))
    obtain ⟨oe₈, vs₈, T₈, oT₈, ts₈, he₈, hPe₈, hd₈, _⟩ := t₈.exc
    have he₉ := sb₉.extBut _ _ (ne hef) he₈
    have hnx₉ : h₉.Ns dx mx := let ⟨ob, es, ep, z, r⟩ := hnx; ⟨ob, es, ep, sb₉.extBut _ _ (ne hdxfs) (t₈.kept.keep _ _ hdxfs hdxe z), r⟩
    have base₉ : Kp hB h₉ := fun b o z => sb₉.extBut _ _ (ne (hBfs b o z).1) (base₈ b o z)
    have kk : KeptF (outer.filterMap (·.frame)) s.heap h₉ := by
      have nfs : ∀ b o, s.heap.get? b = some o → b ∉ outer.filterMap (·.frame) → b ∉ fs := fun b o z n m => by
        rcases List.mem_cons.mp m with v | m
        · have := kSs b o z
          rw [v, hLRn] at this
          cases this
        rcases List.mem_cons.mp m with v | m
        · rw [v, hLn] at z
          cases z
        · exact n m
      have nL : ∀ b o, s.heap.get? b = some o → b ≠ L := fun b o z v => by rw [v, hLn] at z; cases z
      refine ⟨fun b o n z => sb₉.extBut _ _ (nL b o z) (t₈.kept.keep b o (nfs b o z n) (fun v => by rw [v, heS] at z; cases z) (kS₄ b o z)), fun b o m z => ?_⟩
      obtain ⟨sl, z'⟩ := t₈.kept.fram b o (.tail _ (.tail _ m)) (kS₄ b o z)
      exact ⟨sl, sb₉.extBut _ _ (nL b o z) z'⟩
    refine wpAny_execs_cons (wpAny_Return_some (Tuple_ (args_cons (wpAny_Constant_none (args_cons (Attribute_name (wpAny_Name (wpAny_loadName_local rfl rfl n₉ (v := .ref e) (by simp) ?_) (by decide))))))))
    refine get_at (base₉ _ _ (XX _ _ hK)) ((looks_findIn XX xk.ga).keeps base₉) ((looks_findIn XX xk.gattr).keeps base₉) ((looks_findIn XX xk.at_).keeps base₉) he₉ hPe₈.1 hd₈ hPe₈.2 hnx₉ hat rfl (args_nil ?_)
    refine wpAny_newTuple (hsz := by rw [sizeLine_eq]; show 2 ≤ _; omega) ?_
    have n₁₀ := n₉.push { cls := .type "tuple", data := .seq [Value.none, .int i u].toArray }
    refine wpAny_nameGoes rfl n₁₀ rfl fun h₁₁ m₁₁ n₁₁ sb₁₁ => ?_
    obtain ⟨h₄', tk₄', e₄⟩ := R.same
    have g1 : s₄.gens = s.gens := by rw [e₄]; show s₂.gens = _; rw [hs₂]
    have g2 : s₄.drawn = s.drawn := by rw [e₄]; show s₂.drawn = _; rw [hs₂]
    have g3 : s₄.os = s.os := by rw [e₄]; show s₂.os = _; rw [hs₂]
    have up : ∀ b o, b ≠ L → h₉.get? b = some o → h₁₁.get? b = some o := fun b o n z => sb₁₁.extBut _ _ n (Heap.get?_push_of_some _ z)
    rw [hpr]
    refine ⟨_, rfl, ⟨h₁₁, _, by show (⟨h₁₁, s₄.gens, s₄.drawn, _, s₄.os⟩ : Shared) = ⟨h₁₁, s.gens, s.drawn, _, s.os⟩; rw [g1, g2, g3]⟩, ⟨fun b o n z => ?_, fun b o m z => ?_⟩, ?_⟩
    · exact up b o (fun v => by rw [v, hLn] at z; cases z) (kk.keep b o n z)
    · obtain ⟨sl, z'⟩ := kk.fram b o m z
      exact ⟨sl, up b _ (fun v => by rw [v, hLn] at z; cases z) z'⟩
    · have hT : h₉.objs.size ≠ L := fun v => by
        have := n₉.lt
        rw [← v] at this
        exact Nat.lt_irrefl _ this
      refine .tuple (fun m => ?_) ⟨_, sb₁₁.extBut _ _ hT (Heap.get?_push_size _ rfl), rfl, _, rfl⟩ (.cons .none (.cons (.int _ _) .nil))
      obtain ⟨o, z⟩ := liv _ m
      have z' : ∃ o', h₉.get? h₉.objs.size = some o' := by
        by_cases q : h₉.objs.size ∈ outer.filterMap (·.frame)
        · obtain ⟨sl, z'⟩ := kk.fram _ o q z
          exact ⟨_, z'⟩
        · exact ⟨_, kk.keep _ o q z⟩
      obtain ⟨o', z'⟩ := z'
      exact absurd (Heap.lt_size z') (Nat.lt_irrefl _)
  · obtain ⟨v, ks, hpr, rfl, k₄, hi⟩ := h₄
    have S₄ := S₂.keep k₄
    refine wpAny_mono ((show Evs (Cx.on ⟨prog, w, hB, A₁, X, env17 L cd⟩ [L]) (wn.zip [textsD ws]) _ [.int (-1)] from evs_cons (ev_neg ev_int) evs_nil) _ s₄ _ S₄.pre) (fun vs₅ s₅ h₅ => ?_) fun _ _ e => e
    obtain ⟨k₅, hv₅⟩ := h₅
    have S₅ := S₄.keep k₅
    have hlen : vs₅.length = 1 := by rw [hv₅.length]; rfl
    refine wpAny_newTuple (hsz := by rw [List.length_cons, hlen, sizeLine_eq]; omega) ?_
    have S₆ := S₅.keep (keeps_push s₅ { cls := .type "tuple", data := .seq (v :: vs₅).toArray } s₅.toks)
    rw [hpr]
    refine ⟨_, rfl, ?_, ?_, ?_⟩
    · obtain ⟨h', tk, e⟩ := S₆.same
      exact ⟨h', tk, e⟩
    · exact KeptF.of fun b o z => S₆.kept b o z
    · have less : ∀ {h : Heap}, Up ([L] ++ X) h X h := Up.less fun b m => List.mem_append.mpr (.inr m)
      have kp : ∀ b o, s₅.heap.get? b = some o → (s₅.heap.push { cls := .type "tuple", data := .seq (v :: vs₅).toArray }).get? b = some o := fun b o e => Heap.get?_push_of_some _ e
      refine .tuple (fun m => S₅.pre.new (Nat.le_refl _) (List.mem_append.mpr (.inr m))) ⟨_, Heap.get?_push_size _ rfl, rfl, _, rfl⟩ (.cons ?_ ?_)
      · exact ((hi.up (Up.keep (kpH k₅))).up (Up.keep kp)).up less
      · exact (hv₅.up (Up.keep kp)).up less

theorem call_heard (b : Base hB) (fb : FaultBase hB) (ws : List Str) (hw : ws.length ≤ 900) (hz : ∀ x ∈ ws, x.length ≤ 1000) {A₀ : Around} {outer : List Env} {X : List Addr} {s : Shared} {E : Value → Shared → Prop} {vs : List Value} (g : Good 9 A₀) (hfr : A₀.frames = some outer) (hff : FF s.heap outer)
    (hBf : ∀ b ∈ outer.filterMap (·.frame), hB.get? b = none) (base : Kp hB s.heap) (liv : ∀ a ∈ X, ∃ o, s.heap.get? a = some o) (hv : IsAll X s.heap vs [textsD ws]) :
    wpAny (model prog w) A₀ (call (.ref 121) vs) (fun v s' => HeardPost outer X s (heardD (projRead 0 [] false (ws.map upTxt))) v s') E s := by
  obtain ⟨o, pm, cd, doc, ho, hdat, hcd⟩ := b.f17.at'
  have hl17 : ∀ x ∈ wn, (fscope 17).names.lookup x = some .local := by decide
  have bind17 : bindArgs (Calls.docDef (fname 17) (fparams 17) (fbody 17) (fscope 17) pm cd doc) ⟨vs, []⟩ = pure (wn.zip vs) := by
    obtain ⟨v, rfl⟩ := one_of hv.length
    rfl
  refine wpAny_call (PyProof.Rows.call_plain (binds := wn.zip vs) g.room (base _ _ ho) hdat (b.lim.keeps base) (hcd.keeps base) bind17 (fun x m => hl17 _ (List.of_mem_zip m).1) (fun h₁ F => ?_) rfl rfl rfl (by decide))
  have S := st_enter (prog := prog) (w := w) (hB := hB) (A := A₀.deeper (env17 s.heap.objs.size cd)) (X := X) (cd := cd) (a := 121) (tk := s.toks + (wn.zip vs).length) (name := fname 17) (g.deeper.mono (by omega)) base liv hv F rfl (by decide) hl17
  refine wpAny_mono (heard_body b fb ws hw hz g.deeper (by show A₀.frames.map _ = _; rw [hfr]; rfl) hff hBf base liv (next_none _) S) (fun f s' h => ?_) fun _ _ e => e
  obtain ⟨v, rfl, h⟩ := h
  exact h
end
end Mine
end

section
set_option maxRecDepth 100000
namespace Mine

/-! sorted with a key keeps equal ones in their order -/
section
variable (ρ : Keyed → Nat)
noncomputable def R (xs : Array Keyed) (i : Nat) : Nat := match xs[i]? with
  | some p => ρ p
  | none => 0
/-- key first, then the place at the start -/
noncomputable def KK (xs : Array Keyed) (i : Nat) : Int := K xs i * 64 + R ρ xs i
noncomputable def Asc (xs : Array Keyed) (k : Nat) : Prop := ∀ i j, i ≤ j → j < k → KK ρ xs i ≤ KK ρ xs j
noncomputable def Dsc (xs : Array Keyed) (k : Nat) : Prop := ∀ i j, i ≤ j → j < k → KK ρ xs j ≤ KK ρ xs i
noncomputable def PreR (xs : Array Keyed) (k : Nat) : Prop := ∀ i, i < k → R ρ xs i < k
noncomputable def SufR (n : Nat) (xs : Array Keyed) (k : Nat) : Prop := ∀ i, k ≤ i → i < n → R ρ xs i = i
end

section
variable {ρ : Keyed → Nat}
theorem R_congr {xs ys : Array Keyed} {i j : Nat} (h : xs[i]? = ys[j]?) : R ρ xs i = R ρ ys j := by unfold R; rw [h]
theorem R_bubble {xs : Array Keyed} {src d : Nat} (hs : src < xs.size) (hd : d ≤ src) (k : Nat) :
    R ρ (bubble xs src d) k = if k = src - d then R ρ xs src else if src - d < k ∧ k ≤ src then R ρ xs (k - 1) else R ρ xs k := by
  have e := getElem?_bubble hs d hd k
  by_cases h1 : k = src - d
  · rw [if_pos h1] at e ⊢; exact R_congr e
  · rw [if_neg h1] at e ⊢
    by_cases h2 : src - d < k ∧ k ≤ src
    · rw [if_pos h2] at e ⊢; exact R_congr e
    · rw [if_neg h2] at e ⊢; exact R_congr e
theorem KK_bubble {xs : Array Keyed} {src d : Nat} (hs : src < xs.size) (hd : d ≤ src) (k : Nat) :
    KK ρ (bubble xs src d) k = if k = src - d then KK ρ xs src else if src - d < k ∧ k ≤ src then KK ρ xs (k - 1) else KK ρ xs k := by
  unfold KK
  rw [K_bubble hs hd, R_bubble hs hd]
  repeat' split
  all_goals rfl
theorem R_mirror {xs : Array Keyed} {i j : Nat} (hj : j ≤ xs.size) (k : Nat) :
    R ρ (mirror xs i j ((j - i) / 2)) k = if i ≤ k ∧ k < j then R ρ xs (i + j - 1 - k) else R ρ xs k := by
  have e := getElem?_mirror_all (i := i) hj k
  by_cases h1 : i ≤ k ∧ k < j
  · rw [if_pos h1] at e ⊢; exact R_congr e
  · rw [if_neg h1] at e ⊢; exact R_congr e
theorem KK_mirror {xs : Array Keyed} {i j : Nat} (hj : j ≤ xs.size) (k : Nat) :
    KK ρ (mirror xs i j ((j - i) / 2)) k = if i ≤ k ∧ k < j then KK ρ xs (i + j - 1 - k) else KK ρ xs k := by
  unfold KK
  rw [K_mirror hj, R_mirror hj]
  split <;> rfl
theorem pre_mirror {xs : Array Keyed} {i j x : Nat} (hj : j ≤ xs.size) (hjx : j ≤ x) (h : PreR ρ xs x) : PreR ρ (mirror xs i j ((j - i) / 2)) x := by
  intro k hk
  rw [R_mirror hj]
  split
  · exact h _ (by omega)
  · exact h _ hk
theorem suf_mirror {n : Nat} {xs : Array Keyed} {i j x : Nat} (hj : j ≤ xs.size) (hjx : j ≤ x) (h : SufR ρ n xs x) : SufR ρ n (mirror xs i j ((j - i) / 2)) x := by
  intro k hk hn
  rw [R_mirror hj, if_neg (by omega)]
  exact h _ hk hn
theorem pre_up {n : Nat} {xs : Array Keyed} {x y : Nat} (h : PreR ρ xs x) (hs : SufR ρ n xs x) (hxy : x ≤ y) (hy : y ≤ n) : PreR ρ xs y := by
  intro i hi
  by_cases h1 : i < x
  · have := h i h1; omega
  · rw [hs i (by omega) (by omega)]; exact hi
theorem suf_up {n : Nat} {xs : Array Keyed} {x y : Nat} (hs : SufR ρ n xs x) (hxy : x ≤ y) : SufR ρ n xs y := fun i h1 h2 => hs i (by omega) h2

/-- a later one is less by key just when it is less by both -/
theorem lt_both {xs : Array Keyed} {i j : Nat} (h : R ρ xs j < R ρ xs i) (h64 : R ρ xs i < 64) : K xs i < K xs j ↔ KK ρ xs i < KK ρ xs j := by
  unfold KK
  omega

/-! plain facts, apart from the sorting's state, so that their proofs stay small -/
noncomputable def insF {α : Type} (a : Nat → α) (k l i : Nat) : α := if i = l then a k else if l < i ∧ i ≤ k then a (i - 1) else a i
theorem insF_at {α : Type} {a : Nat → α} {k l i : Nat} (h : i = l) : insF a k l i = a k := if_pos h
theorem insF_in {α : Type} {a : Nat → α} {k l i : Nat} (h : l < i) (h' : i ≤ k) : insF a k l i = a (i - 1) := by rw [insF, if_neg (Nat.ne_of_gt h), if_pos ⟨h, h'⟩]
theorem insF_lo {α : Type} {a : Nat → α} {k l i : Nat} (h : i < l) : insF a k l i = a i := by rw [insF, if_neg (Nat.ne_of_lt h), if_neg (fun q => Nat.lt_asymm h q.1)]
theorem insF_hi {α : Type} {a : Nat → α} {k l i : Nat} (h : k < i) (hl : l ≤ k) : insF a k l i = a i := by rw [insF, if_neg (Nat.ne_of_gt (Nat.lt_of_le_of_lt hl h)), if_neg (fun q => Nat.not_le.mpr h q.2)]
theorem ins_asc {a : Nat → Int} {k l : Nat} (hlk : l ≤ k) (hlo : ∀ i, i < l → a i ≤ a k) (hhi : ∀ i, l ≤ i → i < k → a k < a i) (hs : ∀ i j, i ≤ j → j < k → a i ≤ a j) {i j : Nat} (hij : i ≤ j) (hj : j < k + 1) : insF a k l i ≤ insF a k l j := by
  rcases Nat.lt_trichotomy i l with h1 | h1 | h1 <;> rcases Nat.lt_trichotomy j l with h2 | h2 | h2
  · rw [insF_lo h1, insF_lo h2]; exact hs i j hij (Nat.lt_of_lt_of_le h2 hlk)
  · rw [insF_lo h1, insF_at h2]; exact hlo i h1
  · rw [insF_lo h1, insF_in h2 (Nat.le_of_lt_succ hj)]; exact hs i (j - 1) (by omega) (by omega)
  · exact absurd hij (by omega)
  · rw [insF_at h1, insF_at h2]; exact Int.le_refl _
  · rw [insF_at h1, insF_in h2 (Nat.le_of_lt_succ hj)]; exact Int.le_of_lt (hhi (j - 1) (by omega) (by omega))
  · exact absurd hij (by omega)
  · exact absurd hij (by omega)
  · rw [insF_in h1 (by omega), insF_in h2 (Nat.le_of_lt_succ hj)]; exact hs (i - 1) (j - 1) (by omega) (by omega)
theorem ins_pre {r : Nat → Nat} {k l : Nat} (hlk : l ≤ k) (hk : r k = k) (hp : ∀ i, i < k → r i < k) {i : Nat} (hi : i < k + 1) : insF r k l i < k + 1 := by
  rcases Nat.lt_trichotomy i l with h1 | h1 | h1
  · rw [insF_lo h1]; exact Nat.lt_succ_of_lt (hp i (Nat.lt_of_lt_of_le h1 hlk))
  · rw [insF_at h1, hk]; exact Nat.lt_succ_self _
  · rw [insF_in h1 (Nat.le_of_lt_succ hi)]; exact Nat.lt_succ_of_lt (hp (i - 1) (by omega))
/-- halving a search's bounds -/
theorem halves {l r k x : Nat} (h : ¬ l ≥ r) (hr : r ≤ k) (hx : x < k) (hm : r - l ≤ k - x) : l ≤ (l + r) / 2 ∧ (l + r) / 2 ≤ k ∧ (l + r) / 2 - l ≤ k - (x + 1) ∧ (l + r) / 2 + 1 ≤ r ∧ r - ((l + r) / 2 + 1) ≤ k - (x + 1) ∧ (l + r) / 2 < k := by
  have h1 : l < r := Nat.not_le.mp h
  have h2 : l ≤ (l + r) / 2 := by omega
  have h3 : (l + r) / 2 < r := by omega
  clear h
  generalize (l + r) / 2 = q at h2 h3 ⊢
  exact ⟨h2, by omega, by omega, h3, by omega, by omega⟩
theorem met {l r k : Nat} (h : l ≤ r) (hm : r - l ≤ k - max 0 k) : l = r := by omega
/-- a key above another, and a place: by both -/
theorem by_key {x y : Int} {r q : Nat} (h : x < y) (hr : r < 64) : x * 64 + (r : Int) ≤ y * 64 + (q : Int) := by omega
theorem by_place {x y : Int} {r q : Nat} (h : x = y) (hr : r < q) : x * 64 + (r : Int) ≤ y * 64 + (q : Int) := by omega
theorem of_key {x y : Int} {r q : Nat} (h : x * 64 + (r : Int) ≤ y * 64 + (q : Int)) (hq : q < 64) : x ≤ y := by omega

section
variable {prog : Program} {w : World} {A : Around} {E : Value → Shared → Prop} {s : Shared} {a₀ : Array Keyed}

theorem st_binary {st : SortSt} {n ok : Nat} {Q : Bool → SortSt → Prop} (h0 : IntKeys a₀) (hn : n ≤ a₀.size) (h64 : n < 64) (hok : ok ≤ n) (hB : SBase a₀ st) (hs : Asc ρ (arrOf st) ok) (hp : PreR ρ (arrOf st) ok) (hu : SufR ρ n (arrOf st) ok) (h1 : 1 ≤ ok)
    (h : ∀ st', SBase a₀ st' → Asc ρ (arrOf st') n → Q true st') : wpS (model prog w) A E s (binarySort' 0 n ok) Q st := by
  rw [binarySort'_eq]
  simp only [Nat.zero_add]
  refine wpS_bind (wpS_mono (wpS_forRange (I := fun k c st' => c = (none, ()) ∧ SBase a₀ st' ∧ Asc ρ (arrOf st') (min k n) ∧ PreR ρ (arrOf st') (min k n) ∧ SufR ρ n (arrOf st') (min k n))
    (Q := fun c st' => c = (none, ()) ∧ SBase a₀ st' ∧ Asc ρ (arrOf st') n) ?step ?fin ?init) ?post)
  case post =>
    rintro c st' ⟨rfl, hB', hs'⟩
    exact wpS_pure (h st' hB' hs')
  case init =>
    rw [show max ok 1 = ok by omega, show min ok n = ok by omega]
    exact ⟨rfl, hB, hs, hp, hu⟩
  case fin =>
    rintro c st' ⟨hc, hB', hs', _⟩
    refine ⟨hc, hB', ?_⟩
    rwa [show min (max (max ok 1) n) n = n by omega] at hs'
  case step =>
    rintro k c st' hak hkn ⟨rfl, hB', hs', hp', hu'⟩
    rw [show min k n = k by omega] at hs' hp' hu'
    have hk : k < a₀.size := by omega
    have hRk := hu' k (Nat.le_refl _) hkn
    have cmp : ∀ i, i < k → (K (arrOf st') k < K (arrOf st') i ↔ KK ρ (arrOf st') k < KK ρ (arrOf st') i) := fun i hi => lt_both (by rw [hRk]; exact hp' i hi) (by omega)
    refine wpS_bind (wpS_mono (wpS_forRange (I := fun x c st'' => st'' = st' ∧ ∃ l r, c = (none, l, r) ∧ l ≤ r ∧ r ≤ k ∧ r - l ≤ k - x ∧
        (∀ i, i < l → KK ρ (arrOf st') i ≤ KK ρ (arrOf st') k) ∧ (∀ i, r ≤ i → i < k → KK ρ (arrOf st') k < KK ρ (arrOf st') i))
      (Q := fun c st'' => st'' = st' ∧ ∃ l r, c = (none, l, r) ∧ l ≤ k ∧
        (∀ i, i < l → KK ρ (arrOf st') i ≤ KK ρ (arrOf st') k) ∧ (∀ i, l ≤ i → i < k → KK ρ (arrOf st') k < KK ρ (arrOf st') i)) ?istep ?ifin ?iinit) ?ipost)
    case iinit => exact ⟨rfl, 0, k, rfl, by omega, by omega, by omega, fun i hi => by omega, fun i h1 h2 => by omega⟩
    case ifin =>
      rintro c st'' ⟨rfl, l, r, rfl, hlr, hrk, hm, hlo, hhi⟩
      have : l = r := met hlr hm
      subst this
      exact ⟨rfl, l, l, rfl, hrk, hlo, hhi⟩
    case istep =>
      rintro x c st'' _ hxk ⟨rfl, l, r, rfl, hlr, hrk, hm, hlo, hhi⟩
      dsimp only
      by_cases hge : l ≥ r
      · rw [if_pos hge]
        have : l = r := by omega
        subst this
        exact wpS_pure ⟨rfl, l, l, rfl, hrk, hlo, hhi⟩
      · rw [if_neg hge]
        obtain ⟨m1, m2, m3, m4, m5, m6⟩ := halves hge hrk hxk hm
        have hc := cmp ((l + r) / 2) m6
        clear cmp
        generalize (l + r) / 2 = q at m1 m2 m3 m4 m5 m6 hc ⊢
        refine wpS_bind (wpS_ltK hB' h0 hk (Nat.lt_trans m6 hk) ?_)
        by_cases hless : K (arrOf st'') k < K (arrOf st'') q
        · simp only [hless, decide_true, if_true]
          exact wpS_pure ⟨rfl, l, q, rfl, m1, m2, m3, hlo, fun i h1 h2 => Int.lt_of_lt_of_le (hc.mp hless) (hs' _ _ h1 h2)⟩
        · simp only [hless, decide_false, Bool.false_eq_true, if_false]
          exact wpS_pure ⟨rfl, q + 1, r, rfl, m4, hrk, m5, fun i h1 => Int.le_trans (hs' i q (Nat.le_of_lt_succ h1) m6) (Int.not_lt.mp fun z => hless (hc.mpr z)), hhi⟩
    case ipost =>
      rintro c st'' ⟨rfl, l, r, rfl, hlk, hlo, hhi⟩
      show wpS _ _ _ _ (do moveDown' k l; pure (ForInStep.yield (none, ()))) _ _
      rw [moveDown'_eq]
      have hks : k < (arrOf st'').size := by rw [hB'.size]; exact hk
      refine wpS_bind (wpS_modify (wpS_pure ⟨rfl, hB'.setArr (bubble_perm _ _ _), ?_, ?_, ?_⟩))
      · rw [show min (k + 1) n = k + 1 by omega]
        have e : ∀ i, KK ρ (bubble (arrOf st'') k (k - l)) i = insF (KK ρ (arrOf st'')) k l i := fun i => by rw [KK_bubble hks (Nat.sub_le _ _), Nat.sub_sub_self hlk]; rfl
        intro i j hij hj
        show KK ρ (bubble (arrOf st'') k (k - l)) i ≤ KK ρ (bubble (arrOf st'') k (k - l)) j
        rw [e, e]
        exact ins_asc hlk hlo hhi hs' hij hj
      · rw [show min (k + 1) n = k + 1 by omega]
        intro i hi
        show R ρ (bubble (arrOf st'') k (k - l)) i < k + 1
        rw [R_bubble hks (Nat.sub_le _ _), Nat.sub_sub_self hlk]
        exact ins_pre hlk hRk hp' hi
      · rw [show min (k + 1) n = k + 1 by omega]
        intro i h1 h2
        show R ρ (bubble (arrOf st'') k (k - l)) i = i
        rw [R_bubble hks (Nat.sub_le _ _), Nat.sub_sub_self hlk]
        exact (insF_hi (a := R ρ (arrOf st'')) h1 hlk).trans (hu' i (Nat.le_of_lt h1) h2)

theorem st_asc {st : SortSt} {a nrem : Nat} {Q : AscSt → SortSt → Prop} (h0 : IntKeys a₀) (hn : nrem ≤ a₀.size) (h64 : nrem < 64) (ha : 1 ≤ a) (han : a ≤ nrem) (hB : SBase a₀ st)
    (hs : Asc ρ (arrOf st) a) (hp : PreR ρ (arrOf st) a) (hu : SufR ρ nrem (arrOf st) a)
    (h : ∀ n, a ≤ n → n ≤ nrem → Asc ρ (arrOf st) n → (n = nrem ∨ K (arrOf st) n < K (arrOf st) (n - 1)) → Q (none, n) st) :
    wpS (model prog w) A E s (ascLoop a nrem) Q st := by
  unfold ascLoop
  refine wpS_forRange (I := fun x c st' => st' = st ∧ c = (none, x) ∧ Asc ρ (arrOf st) x) ?step ?fin ⟨rfl, rfl, hs⟩
  case fin =>
    rintro c st' ⟨rfl, rfl, hs'⟩
    rw [show max a nrem = nrem by omega] at hs' ⊢
    exact h nrem han (Nat.le_refl _) hs' (.inl rfl)
  case step =>
    rintro x c st' hax hxn ⟨rfl, rfl, hs'⟩
    dsimp only
    have hc : K (arrOf st') x < K (arrOf st') (x - 1) ↔ KK ρ (arrOf st') x < KK ρ (arrOf st') (x - 1) :=
      lt_both (by rw [hu x hax hxn]; exact pre_up hp hu hax (by omega) (x - 1) (by omega)) (by rw [hu x hax hxn]; omega)
    refine wpS_bind (wpS_ltK hB h0 (by omega) (by omega) ?_)
    by_cases hless : K (arrOf st') x < K (arrOf st') (x - 1)
    · simp only [hless, decide_true, if_true]
      exact wpS_pure (h x hax (by omega) hs' (.inr hless))
    · simp only [hless, decide_false, Bool.false_eq_true, if_false]
      refine wpS_pure ⟨rfl, rfl, fun i j hij hj => ?_⟩
      by_cases hjx : j < x
      · exact hs' i j hij hjx
      · have hj' : j = x := by omega
        subst hj'
        by_cases hi' : i = j
        · subst hi'; exact Int.le_refl _
        · exact Int.le_trans (hs' i (j - 1) (by omega) (by omega)) (Int.not_lt.mp fun q => hless (hc.mpr q))

theorem st_tail3 {st : SortSt} {n nrem : Nat} {Q : Option Nat → SortSt → Prop} (h0 : IntKeys a₀) (hn : nrem ≤ a₀.size) (h64 : nrem < 64) (h1 : 1 ≤ n) (hnn : n ≤ nrem) (hB : SBase a₀ st)
    (hs : Dsc ρ (arrOf st) n) (hp : PreR ρ (arrOf st) n) (hu : SufR ρ nrem (arrOf st) n)
    (h : ∀ m st', SBase a₀ st' → 1 ≤ m → m ≤ nrem → Asc ρ (arrOf st') m → PreR ρ (arrOf st') m → SufR ρ nrem (arrOf st') m → Q (some m) st') :
    wpS (model prog w) A E s (tail3 n nrem) Q st := by
  unfold tail3
  have hsz : n ≤ (arrOf st).size := by rw [hB.size]; omega
  refine wpS_bind (wpS_reverse ?_)
  have hB' : SBase a₀ (setArr st (mirror (arrOf st) 0 n ((n - 0) / 2))) := hB.setArr (mirror_perm _ _ _ _)
  have hp' : PreR ρ (mirror (arrOf st) 0 n ((n - 0) / 2)) n := pre_mirror hsz (Nat.le_refl _) hp
  have hu' : SufR ρ nrem (mirror (arrOf st) 0 n ((n - 0) / 2)) n := suf_mirror hsz (Nat.le_refl _) hu
  refine wpS_bind (st_asc h0 hn h64 h1 hnn hB' ?_ hp' hu' fun m hm1 hm2 hsm _ => wpS_pure (h m _ hB' (by omega) hm2 hsm (pre_up hp' hu' hm1 hm2) (suf_up hu' hm1)))
  intro i j hij hj
  show KK ρ (mirror (arrOf st) 0 n ((n - 0) / 2)) i ≤ KK ρ (mirror (arrOf st) 0 n ((n - 0) / 2)) j
  rw [KK_mirror hsz, KK_mirror hsz, if_pos (by omega), if_pos (by omega)]
  exact hs _ _ (by omega) (by omega)

/-- falling keys, then a last block of equal ones that still stand in their first order -/
structure Fall (ρ : Keyed → Nat) (nrem : Nat) (xs : Array Keyed) (x neq : Nat) : Prop where
  le : neq + 1 ≤ x
  dsc : Dsc ρ xs (x - (neq + 1))
  gap : ∀ i j, i < x - (neq + 1) → x - (neq + 1) ≤ j → j < x → K xs j < K xs i
  eq : ∀ i, x - (neq + 1) ≤ i → i < x → K xs i = K xs (x - 1)
  ord : ∀ i j, x - (neq + 1) ≤ i → i < j → j < x → R ρ xs i < R ρ xs j
  pre : PreR ρ xs x
  suf : SufR ρ nrem xs x

theorem mirrored {a x k : Nat} (h1 : a ≤ k) (h2 : k < x) : a ≤ a + x - 1 - k ∧ a + x - 1 - k < x := by omega
theorem mirrored_lt {a x i j : Nat} (h1 : i < j) (h2 : j < x) : a + x - 1 - j < a + x - 1 - i := by omega
theorem Fall.turned {nrem : Nat} {xs : Array Keyed} {x neq : Nat} (f : Fall ρ nrem xs x neq) (hx : x ≤ xs.size) (hn : x ≤ nrem) (h64 : nrem < 64) : Dsc ρ (mirror xs (x - (neq + 1)) x ((x - (x - (neq + 1))) / 2)) x := by
  obtain ⟨hle, f1, f2, f3, f4, f5, f6⟩ := f
  generalize x - (neq + 1) = a at f1 f2 f3 f4 ⊢
  have h64 : x < 65 := by omega
  clear hle hn f6
  intro i j hij hj
  rw [KK_mirror hx, KK_mirror hx]
  by_cases h1 : a ≤ i
  · rw [if_pos ⟨Nat.le_trans h1 hij, hj⟩, if_pos ⟨h1, Nat.lt_of_le_of_lt hij hj⟩]
    by_cases e : i = j
    · subst e; exact Int.le_refl _
    · obtain ⟨b1, b2⟩ := mirrored (Nat.le_trans h1 hij) hj
      obtain ⟨b3, b4⟩ := mirrored h1 (Nat.lt_of_le_of_lt hij hj)
      exact by_place ((f3 _ b1 b2).trans (f3 _ b3 b4).symm) (f4 _ _ b1 (mirrored_lt (Nat.lt_of_le_of_ne hij e) hj) b4)
  · rw [if_neg (c := a ≤ i ∧ i < x) (fun q => h1 q.1)]
    by_cases h2 : a ≤ j
    · rw [if_pos ⟨h2, hj⟩]
      obtain ⟨b1, b2⟩ := mirrored h2 hj
      exact by_key (f2 i _ (Nat.not_le.mp h1) b1 b2) (Nat.lt_of_lt_of_le (f5 _ b2) (Nat.le_of_lt_succ h64))
    · rw [if_neg (fun q => h2 q.1)]
      exact f1 i j hij (Nat.not_le.mp h2)
theorem Fall.plain {nrem : Nat} {xs : Array Keyed} {x : Nat} (f : Fall ρ nrem xs x 0) (hn : x ≤ nrem) (h64 : nrem < 64) : Dsc ρ xs x := by
  have hle := f.le
  intro i j hij hj
  by_cases h2 : j < x - 1
  · exact f.dsc i j hij (by omega)
  · by_cases e : i = j
    · subst e; exact Int.le_refl _
    · have a1 := f.gap i j (by omega) (by omega) hj
      have a2 := f.pre j hj
      unfold KK
      omega
theorem Fall.next {nrem : Nat} {xs : Array Keyed} {x : Nat} (hd : Dsc ρ xs x) (hp : PreR ρ xs x) (hu : SufR ρ nrem xs x) (hx : x < nrem) (h64 : nrem < 64) (h1 : 1 ≤ x) (hlt : K xs x < K xs (x - 1)) : Fall ρ nrem xs (x + 1) 0 where
  le := by omega
  dsc := by rw [show x + 1 - (0 + 1) = x by omega]; exact hd
  gap := fun i j hi hj1 hj2 => by
    have e : j = x := by omega
    subst e
    have a := hd i (j - 1) (by omega) (by omega)
    have r1 := hp i (by omega)
    have r2 := hp (j - 1) (by omega)
    unfold KK at a
    omega
  eq := fun i h1 h2 => by congr 1; omega
  ord := fun i j h1 h2 h3 => by omega
  pre := pre_up hp hu (Nat.le_succ _) (by omega)
  suf := suf_up hu (Nat.le_succ _)

theorem st_descLoop {st : SortSt} {n nrem : Nat} {Q : DescSt → SortSt → Prop} (h0 : IntKeys a₀) (hn : nrem ≤ a₀.size) (h64 : nrem < 64) (h1 : 1 ≤ n) (hnn : n ≤ nrem) (hB : SBase a₀ st)
    (hs : Fall ρ nrem (arrOf st) n 0)
    (h : ∀ m neq st', SBase a₀ st' → n ≤ m → m ≤ nrem → Fall ρ nrem (arrOf st') m neq → Q (none, m, neq) st') :
    wpS (model prog w) A E s (descLoop n nrem) Q st := by
  unfold descLoop
  refine wpS_forRange (I := fun x c st' => ∃ neq, c = (none, x, neq) ∧ SBase a₀ st' ∧ Fall ρ nrem (arrOf st') x neq) ?step ?fin ⟨0, rfl, hB, hs⟩
  case fin =>
    rintro c st' ⟨neq, rfl, hB', f⟩
    rw [show max n nrem = nrem by omega] at f ⊢
    exact h nrem neq st' hB' hnn (Nat.le_refl _) f
  case step =>
    rintro x c st' hax hxn ⟨neq, rfl, hB', f⟩
    dsimp only
    have hsz : x ≤ (arrOf st').size := by rw [hB'.size]; omega
    have hle := f.le
    refine wpS_bind (wpS_ltK hB' h0 (by omega) (by omega) ?_)
    by_cases hless : K (arrOf st') x < K (arrOf st') (x - 1)
    · simp only [hless, decide_true, if_true]
      by_cases hneq : neq > 0
      · rw [if_pos hneq]
        refine wpS_bind (wpS_reverse (wpS_pure ⟨0, rfl, hB'.setArr (mirror_perm _ _ _ _), ?_⟩))
        show Fall ρ nrem (mirror (arrOf st') (x - (neq + 1)) x ((x - (x - (neq + 1))) / 2)) (x + 1) 0
        refine Fall.next (f.turned hsz (by omega) h64) (pre_mirror hsz (Nat.le_refl _) f.pre) (suf_mirror hsz (Nat.le_refl _) f.suf) hxn h64 (by omega) ?_
        rw [K_mirror hsz, K_mirror hsz, if_neg (by omega), if_pos (by omega), f.eq (x - (neq + 1) + x - 1 - (x - 1)) (by omega) (by omega)]
        exact hless
      · rw [if_neg hneq]
        have e : neq = 0 := by omega
        subst e
        exact wpS_pure ⟨0, rfl, hB', Fall.next (f.plain (by omega) h64) f.pre f.suf hxn h64 (by omega) hless⟩
    · simp only [hless, decide_false, Bool.false_eq_true, if_false]
      refine wpS_bind (wpS_ltK hB' h0 (by omega) (by omega) ?_)
      by_cases hlarger : K (arrOf st') (x - 1) < K (arrOf st') x
      · simp only [hlarger, decide_true, if_true]
        exact wpS_pure (h x neq st' hB' hax (by omega) f)
      · simp only [hlarger, decide_false, Bool.false_eq_true, if_false]
        have heqx : K (arrOf st') x = K (arrOf st') (x - 1) := by omega
        have ex : x + 1 - (neq + 1 + 1) = x - (neq + 1) := by omega
        refine wpS_pure ⟨neq + 1, rfl, hB', ⟨by omega, ?_, ?_, ?_, ?_, pre_up f.pre f.suf (Nat.le_succ _) (by omega), suf_up f.suf (Nat.le_succ _)⟩⟩
        · rw [ex]; exact f.dsc
        · rw [ex]
          intro i j hi hj1 hj2
          by_cases e : j = x
          · rw [e, heqx]; exact f.gap i (x - 1) hi (by omega) (by omega)
          · exact f.gap i j hi hj1 (by omega)
        · rw [ex]
          intro i h1 h2
          rw [show x + 1 - 1 = x by omega, heqx]
          by_cases e : i = x
          · rw [e, heqx]
          · exact f.eq i h1 (by omega)
        · rw [ex]
          intro i j h1 h2 h3
          by_cases e : j = x
          · rw [e, f.suf x (Nat.le_refl _) hxn]; exact f.pre i (by omega)
          · exact f.ord i j h1 h2 (by omega)

theorem st_descPart {st : SortSt} {n nrem : Nat} {Q : Option Nat → SortSt → Prop} (h0 : IntKeys a₀) (hn : nrem ≤ a₀.size) (h64 : nrem < 64) (h1 : 1 ≤ n) (hnn : n + 1 ≤ nrem) (hB : SBase a₀ st)
    (hs : Fall ρ nrem (arrOf st) (n + 1) 0) (h : ∀ m st', SBase a₀ st' → 1 ≤ m → m ≤ nrem → Asc ρ (arrOf st') m → PreR ρ (arrOf st') m → SufR ρ nrem (arrOf st') m → Q (some m) st') :
    wpS (model prog w) A E s (descPart n nrem) Q st := by
  unfold descPart
  refine wpS_bind (wpS_lift (wpAny_rule ⟨rfl, ?_⟩))
  refine wpS_bind (st_descLoop h0 hn h64 (by omega) hnn hB hs fun m neq st' hB' hm1 hm2 f => ?_)
  dsimp only
  have hsz : m ≤ (arrOf st').size := by rw [hB'.size]; omega
  by_cases hneq : neq > 0
  · rw [if_pos hneq]
    refine wpS_bind (wpS_reverse (st_tail3 h0 hn h64 (by omega) hm2 (hB'.setArr (mirror_perm _ _ _ _)) (f.turned hsz hm2 h64) (pre_mirror hsz (Nat.le_refl _) f.pre) (suf_mirror hsz (Nat.le_refl _) f.suf) h))
  · rw [if_neg hneq]
    have e : neq = 0 := by omega
    subst e
    exact st_tail3 h0 hn h64 (by omega) hm2 hB' (f.plain hm2 h64) f.pre f.suf h

theorem st_countRun {st : SortSt} {nrem : Nat} {Q : Option Nat → SortSt → Prop} (h0 : IntKeys a₀) (hn : nrem ≤ a₀.size) (h64 : nrem < 64) (h1 : 1 ≤ nrem) (hB : SBase a₀ st) (hu : SufR ρ nrem (arrOf st) 0)
    (h : ∀ m st', SBase a₀ st' → 1 ≤ m → m ≤ nrem → Asc ρ (arrOf st') m → PreR ρ (arrOf st') m → SufR ρ nrem (arrOf st') m → Q (some m) st') :
    wpS (model prog w) A E s (countRun' 0 nrem) Q st := by
  rw [countRun0_eq]
  have p0 : PreR ρ (arrOf st) 0 := fun i hi => by omega
  refine wpS_bind (st_asc h0 hn h64 (Nat.le_refl 1) h1 hB (fun i j hij hj => by have : i = j := by omega
                                                                                subst this; exact Int.le_refl _) (pre_up p0 hu (by omega) h1) (suf_up hu (by omega)) fun n hn1 hn2 hsn hor => ?_)
  dsimp only
  have pn := pre_up p0 hu (Nat.zero_le n) hn2
  have un := suf_up hu (Nat.zero_le n)
  by_cases hnn : n = nrem
  · rw [if_pos (by simpa using hnn)]
    exact wpS_pure (h n st hB hn1 hn2 hsn pn un)
  · rw [if_neg (by simpa using hnn)]
    have hlt : K (arrOf st) n < K (arrOf st) (n - 1) := hor.resolve_left hnn
    by_cases hgt : n > 1
    · rw [if_pos hgt]
      refine wpS_bind (wpS_ltK hB h0 (by omega) (by omega) ?_)
      by_cases hrose : K (arrOf st) 0 < K (arrOf st) (n - 1)
      · simp only [hrose, decide_true, if_true]
        exact wpS_pure (h n st hB hn1 hn2 hsn pn un)
      · simp only [hrose, decide_false, Bool.false_eq_true, if_false]
        have hsz : n ≤ (arrOf st).size := by rw [hB.size]; omega
        have hall : ∀ k, 0 ≤ k → k < n → K (arrOf st) k = K (arrOf st) (n - 1) := by
          intro k _ hk
          have a1 := hsn 0 k (by omega) hk
          have a2 := hsn k (n - 1) (by omega) (by omega)
          have r1 := pn 0 (by omega)
          have r2 := pn k hk
          have r3 := pn (n - 1) (by omega)
          unfold KK at a1 a2
          omega
        have f : Fall ρ nrem (arrOf st) n (n - 1) := ⟨by omega, fun i j _ hj => by omega, fun i j hi => by omega, fun i _ hi => hall i (by omega) hi, fun i j _ hij hj => by rw [hu i (by omega) (by omega), hu j (by omega) (by omega)]; exact hij, pn, un⟩
        have t := f.turned hsz hn2 h64
        rw [show n - (n - 1 + 1) = 0 by omega] at t
        refine wpS_bind (wpS_reverse (st_descPart h0 hn h64 hn1 (by omega) (hB.setArr (mirror_perm _ _ _ _)) ?_ h))
        show Fall ρ nrem (mirror (arrOf st) 0 n ((n - 0) / 2)) (n + 1) 0
        refine Fall.next t (pre_mirror hsz (Nat.le_refl _) pn) (suf_mirror hsz (Nat.le_refl _) un) (by omega) h64 hn1 ?_
        rw [K_mirror hsz, K_mirror hsz, if_neg (by omega), if_pos (by omega), hall (0 + n - 1 - (n - 1)) (by omega) (by omega)]
        exact hlt
    · rw [if_neg hgt]
      have hn1' : n = 1 := by omega
      subst hn1'
      refine st_descPart h0 hn h64 hn1 (by omega) hB ?_ h
      refine Fall.next ?_ pn un (by omega) h64 hn1 hlt
      intro i j hij hj
      have : i = j := by omega
      subst this; exact Int.le_refl _

/-- the one run is laid by and all is in order -/
abbrev SDone (ρ : Keyed → Nat) (a₀ : Array Keyed) (st : SortSt) : Prop := (arrOf st).Perm a₀ ∧ failedOf st = none ∧ pendingOf st = #[(0, a₀.size, 0)] ∧ Asc ρ (arrOf st) a₀.size
theorem st_sortRuns {st : SortSt} {Q : Unit → SortSt → Prop} (h0 : IntKeys a₀) (hB : SBase a₀ st) (h2 : 2 ≤ a₀.size) (h64 : a₀.size < 64) (hu : SufR ρ a₀.size (arrOf st) 0)
    (h : ∀ st', (arrOf st').Perm a₀ → failedOf st' = none → Asc ρ (arrOf st') a₀.size → Q () st') : wpS (model prog w) A E s sortRuns' Q st := by
  rw [sortRuns'_eq]
  refine wpS_bind (wpS_get ?_)
  dsimp only
  have hmr : minRun' a₀.size a₀.size 0 = a₀.size := by
    obtain ⟨f, hf⟩ : ∃ f, a₀.size = f + 1 := ⟨a₀.size - 1, by omega⟩
    have : minRun' (f + 1) a₀.size 0 = a₀.size := by rw [minRun'_succ, if_pos h64]; rfl
    rwa [← hf] at this
  have done : ∀ {st : SortSt}, SBase a₀ st → Asc ρ (arrOf st) a₀.size → SDone ρ a₀ (setPending st ((pendingOf st).push (0, a₀.size, 0))) :=
    fun {st} hB hs => ⟨hB.perm, hB.failed, by show (pendingOf st).push _ = _; rw [hB.pend]; rfl, hs⟩
  simp only [hB.size, hmr]
  refine wpS_bind (wpS_mono (wpS_forRange
    (I := fun x c st' => (x = 0 ∧ c = (none, 0) ∧ SBase a₀ st' ∧ SufR ρ a₀.size (arrOf st') 0) ∨ (1 ≤ x ∧ c = (none, a₀.size) ∧ SDone ρ a₀ st'))
    (Q := fun c st' => c = (none, a₀.size) ∧ SDone ρ a₀ st') ?step ?fin (.inl ⟨rfl, rfl, hB, hu⟩)) ?post)
  case fin =>
    rintro c st' (⟨hx, _, _⟩ | ⟨_, hc, hD⟩)
    · omega
    · exact ⟨hc, hD⟩
  case step =>
    rintro x c st' _ hx (⟨rfl, rfl, hB', hu'⟩ | ⟨hx1, rfl, hD⟩)
    · dsimp only
      rw [if_neg (by omega)]
      simp only [Nat.sub_zero, Nat.min_self, Nat.zero_add]
      refine wpS_bind (st_countRun h0 (Nat.le_refl _) h64 (by omega) hB' hu' fun m st2 hB2 hm1 hm2 hs2 hp2 hu2 => ?_)
      dsimp only
      by_cases hlt : m < a₀.size
      · rw [if_pos hlt]
        refine wpS_bind (wpS_lift (wpAny_rule ⟨rfl, ?_⟩))
        refine wpS_bind (st_binary h0 (Nat.le_refl _) h64 hm2 hB2 hs2 hp2 hu2 hm1 fun st3 hB3 hs3 => ?_)
        simp only [Bool.not_true, Bool.false_eq_true, if_false]
        refine wpS_bind (wpS_get ?_)
        have hb : (pendingOf st3).back? = none := by rw [hB3.pend]; rfl
        rw [hb]
        dsimp only
        exact wpS_bind (wpS_modify (wpS_pure (.inr ⟨by omega, rfl, done hB3 hs3⟩)))
      · rw [if_neg hlt]
        have hm : m = a₀.size := by omega
        subst hm
        refine wpS_bind (wpS_get ?_)
        have hb : (pendingOf st2).back? = none := by rw [hB2.pend]; rfl
        rw [hb]
        dsimp only
        exact wpS_bind (wpS_modify (wpS_pure (.inr ⟨by omega, rfl, done hB2 hs2⟩)))
    · dsimp only
      rw [if_pos (Nat.le_refl _)]
      exact wpS_pure ⟨rfl, hD⟩
  case post =>
    rintro c st' ⟨rfl, hD⟩
    dsimp only
    refine wpS_bind (wpS_mono (wpS_forRange (I := fun _ c st'' => st'' = st' ∧ c = (none, ())) (Q := fun c st'' => st'' = st' ∧ c = (none, ())) ?_ (fun _ _ hh => hh) ⟨rfl, rfl⟩) ?_)
    · rintro x c st'' _ _ ⟨rfl, rfl⟩
      refine wpS_bind (wpS_get ?_)
      rw [if_pos (by rw [hD.2.2.1]; exact Nat.le_refl 1)]
      exact wpS_pure ⟨rfl, rfl⟩
    · rintro c st'' ⟨rfl, rfl⟩
      exact wpS_pure (h _ hD.1 hD.2.1 hD.2.2.2)
end
end
end Mine
end

section
set_option maxRecDepth 100000
namespace Mine

/-- what sorted with a key makes of the list: kz the keys -/
noncomputable def StOut (b : Bool) (kz : List Int) (vs out : List Value) : Prop :=
  ∃ idx : List Nat, idx.Perm (List.range vs.length) ∧ (out = idx.map fun i => vs.getD i .none) ∧
    idx.Pairwise fun i j => (if b then kz.getD j 0 < kz.getD i 0 else kz.getD i 0 < kz.getD j 0) ∨ (kz.getD i 0 = kz.getD j 0 ∧ i < j)

theorem stOut_of {kz : List Int} {vs : List Value} {keys : Array Value} {b : Bool} {rk : Value → Nat} (hrk : ∀ j v, vs[j]? = some v → rk v = j) (hk : IntsAre keys.toList kz) (hlen : kz.length = vs.length) (h64 : vs.length < 64) {xs : Array Keyed}
    (hp : xs.Perm (keys.zip vs.toArray)) (hs : Asc (fun p => if b then vs.length - 1 - rk p.2 else rk p.2) xs xs.size) : StOut b kz vs (if b then (xs.map (·.2)).reverse else xs.map (·.2)).toList := by
  have hkl := hk.length
  have hl : xs.toList.Perm (keys.toList.zip vs) := by rw [← ksk_zip]; exact Array.perm_iff_toList_perm.mp hp
  have hzl : (keys.toList.zip vs).length = vs.length := by rw [List.length_zip]; omega
  have hsz : xs.size = vs.length := by
    have := hl.length_eq
    rw [Array.length_toList, hzl] at this
    exact this
  -- each pair
  have pair : ∀ p ∈ xs.toList, ∃ i, i < vs.length ∧ rk p.2 = i ∧ vs[i]? = some p.2 ∧ kz.getD i 0 = numOf p.1 := by
    intro p hm
    have hm := hl.mem_iff.mp hm
    obtain ⟨i, hi⟩ := List.getElem?_of_mem hm
    have hi' := (List.getElem?_eq_some_iff.mp hi).1
    rw [List.getElem?_zip_eq_some] at hi
    have hv := hi.2
    refine ⟨i, by omega, hrk i _ hv, hv, ?_⟩
    have e : kz = keys.toList.map numOf := hk.nums.symm
    rw [e, List.getD_eq_getElem?_getD, List.getElem?_map, hi.1]
    rfl
  have zip_rk : (keys.toList.zip vs).map (fun p => rk p.2) = List.range vs.length := by
    apply List.ext_getElem?
    intro i
    rw [List.getElem?_map]
    by_cases hi : i < vs.length
    · have h1 : (keys.toList.zip vs)[i]? = some (keys.toList[i], vs[i]) := by
        rw [List.getElem?_zip_eq_some]
        exact ⟨List.getElem?_eq_getElem (by omega), List.getElem?_eq_getElem hi⟩
      rw [h1, List.getElem?_range hi]
      show some (rk vs[i]) = some i
      rw [hrk i _ (List.getElem?_eq_getElem hi)]
    · rw [List.getElem?_eq_none (by rw [hzl]; omega), List.getElem?_eq_none (by rw [List.length_range]; omega)]
      rfl
  have hperm : (xs.toList.map fun p => rk p.2).Perm (List.range vs.length) := by rw [← zip_rk]; exact hl.map _
  have hout : (xs.map (·.2)).toList = (xs.toList.map fun p => rk p.2).map fun i => vs.getD i .none := by
    rw [Array.toList_map, List.map_map]
    refine List.map_congr_left fun p hm => ?_
    obtain ⟨i, _, h1, h2, _⟩ := pair p hm
    show p.2 = vs.getD (rk p.2) .none
    rw [h1, List.getD_eq_getElem?_getD, h2]
    rfl
  have nodup : ∀ i j (hi : i < xs.toList.length) (hj : j < xs.toList.length), i ≠ j → rk (xs.toList[i]).2 ≠ rk (xs.toList[j]).2 := by
    have nd : (xs.toList.map fun p => rk p.2).Nodup := hperm.nodup_iff.mpr List.nodup_range
    have pw := List.pairwise_iff_getElem.mp nd
    intro i j hi hj hij e
    have hi' : i < (xs.toList.map fun p => rk p.2).length := by rw [List.length_map]; exact hi
    have hj' : j < (xs.toList.map fun p => rk p.2).length := by rw [List.length_map]; exact hj
    rcases Nat.lt_or_gt_of_ne hij with h | h
    · refine pw i j hi' hj' h ?_
      rw [List.getElem_map, List.getElem_map]
      exact e
    · refine pw j i hj' hi' h ?_
      rw [List.getElem_map, List.getElem_map]
      exact e.symm
  have core : ∀ i j (hi : i < xs.toList.length) (hj : j < xs.toList.length), i < j → numOf (xs.toList[i]).1 < numOf (xs.toList[j]).1 ∨ (numOf (xs.toList[i]).1 = numOf (xs.toList[j]).1 ∧ if b then rk (xs.toList[j]).2 < rk (xs.toList[i]).2 else rk (xs.toList[i]).2 < rk (xs.toList[j]).2) := by
    intro i j hi hj hij
    have hi' : i < xs.size := by simpa using hi
    have hj' : j < xs.size := by simpa using hj
    have q := hs i j (Nat.le_of_lt hij) hj'
    have e1 : ∀ (k : Nat) (hk : k < xs.size), K xs k = numOf (xs.toList[k]'(by simpa using hk)).1 ∧ R (fun p => if b then vs.length - 1 - rk p.2 else rk p.2) xs k = (if b then vs.length - 1 - rk (xs.toList[k]'(by simpa using hk)).2 else rk (xs.toList[k]'(by simpa using hk)).2) := by
      intro k hk
      have e : xs[k]? = some (xs.toList[k]'(by simpa using hk)) := by rw [Array.getElem?_eq_getElem hk]; simp
      unfold K R
      rw [e]
      exact ⟨rfl, rfl⟩
    unfold KK at q
    rw [(e1 i hi').1, (e1 j hj').1, (e1 i hi').2, (e1 j hj').2] at q
    obtain ⟨a, ha, hra, _, _⟩ := pair _ (List.getElem_mem hi)
    obtain ⟨c, hc, hrc, _, _⟩ := pair _ (List.getElem_mem hj)
    have ne := nodup i j hi hj (Nat.ne_of_lt hij)
    rw [hra, hrc] at q ne ⊢
    cases b with
    | false => simp only [Bool.false_eq_true, if_false] at q ⊢; omega
    | true => simp only [if_true] at q ⊢; omega
  have kzOf : ∀ i (hi : i < xs.toList.length), kz.getD (rk (xs.toList[i]).2) 0 = numOf (xs.toList[i]).1 := by
    intro i hi
    obtain ⟨a, _, h1, _, h3⟩ := pair _ (List.getElem_mem hi)
    rw [h1, h3]
  cases b with
  | false =>
    refine ⟨xs.toList.map fun p => rk p.2, hperm, by rw [if_neg (by decide)]; exact hout, ?_⟩
    rw [List.pairwise_iff_getElem]
    intro i j hi hj hij
    rw [List.length_map] at hi hj
    rw [List.getElem_map, List.getElem_map, kzOf i hi, kzOf j hj]
    simpa using core i j hi hj hij
  | true =>
    refine ⟨(xs.toList.map fun p => rk p.2).reverse, (List.reverse_perm _).trans hperm, ?_, ?_⟩
    · show ((xs.map (·.2)).reverse).toList = _
      rw [Array.toList_reverse, hout, List.map_reverse]
    · rw [List.pairwise_reverse, List.pairwise_iff_getElem]
      intro i j hi hj hij
      rw [List.length_map] at hi hj
      rw [List.getElem_map, List.getElem_map, kzOf i hi, kzOf j hj]
      have := core i j hi hj hij
      simp only [if_true] at this ⊢
      rcases this with h | ⟨h, h'⟩
      · exact .inl h
      · exact .inr ⟨h.symm, h'⟩
end Mine
end

section
set_option maxRecDepth 100000
set_option maxHeartbeats 4000000
namespace Mine

/-- while a list is sorted: what was there, the store of keys, the emptied list -/
structure Sk (g : Heap) (a kS : Addr) (ka : Array Value) (e e1 : Nat) (h : Heap) : Prop where
  keep : ∀ b o, b ≠ a → b ≠ kS → g.get? b = some o → h.get? b = some o
  kS' : h.get? kS = some (seqObj "list" ka e)
  a' : h.get? a = some (seqObj "list" #[] e1)

section
variable {prog : Program} {w : World} {A : Around} {E : Value → Shared → Prop} {s : Shared} {g : Heap} {a kS : Addr} {b : Bool} {vs : List Value} {kz : List Int} {keys : Array Value} {e e1 : Nat} {P : PySem.Fin → Shared → Prop} {rk : Value → Nat}

theorem srt_tail {st : SortSt} (F : Sk g a kS keys e e1 s.heap) (hka : kS ≠ a) (hrk : ∀ j v, vs[j]? = some v → rk v = j)
    (hk : IntsAre keys.toList kz) (hlen : kz.length = vs.length) (h64 : vs.length < 64) (hp : (arrOf st).Perm (keys.zip vs.toArray)) (hs : Asc (fun p => if b then vs.length - 1 - rk p.2 else rk p.2) (arrOf st) (arrOf st).size) (hfl : failedOf st = none)
    (h : ∀ h' out c, (∀ b o, b ≠ a → b ≠ kS → g.get? b = some o → h'.get? b = some o) → h'.get? a = some (seqObj "list" out c) → StOut b kz vs out.toList → P (.done (.ret .none)) { s with heap := h' }) :
    wpAny (model prog w) A (ksk_tail a b e1 (.ref kS) st) P E s := by
  have nk := F.kS'
  have na := F.a'
  have hsz : keys.size = vs.length := by
    have h1 := hk.length
    rw [Array.length_toList] at h1
    omega
  have hsz2 : (arrOf st).size = vs.length := by rw [hp.size_eq, Array.size_zip, hsz, List.size_toArray, Nat.min_self]
  have hout : (if b then ((arrOf st).map (·.2)).reverse else (arrOf st).map (·.2)).size = vs.length := by
    cases b with
    | false => simp only [Bool.false_eq_true, if_false, Array.size_map]; exact hsz2
    | true => simp only [if_true, Array.size_reverse, Array.size_map]; exact hsz2
  have s1 := Heap.SameBut.update s.heap kS (Obj.mapSeq fun _ => (#[] : Array Value))
  have na1 : (s.heap.update kS (Obj.mapSeq fun _ => (#[] : Array Value))).get? a = some (seqObj "list" #[] e1) := (s1.2 a hka.symm).trans na
  have s2 := Heap.SameBut.update (s.heap.update kS (Obj.mapSeq fun _ => (#[] : Array Value))) a (Obj.mapSeq fun _ => if b then ((arrOf st).map (·.2)).reverse else (arrOf st).map (·.2))
  have hc2 := get?_update_seq na1 fun _ => if b then ((arrOf st).map (·.2)).reverse else (arrOf st).map (·.2)
  unfold ksk_tail
  try dsimp only
  refine wpAny_bind (listUpdate_at nk rfl ?_ (by rw [hsz, sizeLine_eq]; omega) (Nat.zero_le _))
  refine wpAny_bind (wpAny_letGo ?_)
  refine wpAny_bind (seqEpoch_at na1 rfl ?_)
  refine wpAny_bind (listUpdate_at na1 rfl ?_ (Nat.zero_le _) (Nat.le_trans (Nat.le_of_eq hout) (by rw [sizeLine_eq]; omega)))
  rw [hfl]
  simp only [bne_self_eq_false, Bool.false_eq_true, if_false]
  exact wpAny_pure (h _ _ _ (fun x o n m z => (s2.2 x n).trans ((s1.2 x m).trans (F.keep x o n m z))) hc2 (stOut_of hrk hk hlen h64 hp hs))

theorem start_rank (hrk : ∀ j v, vs[j]? = some v → rk v = j) (hsz : keys.size = vs.length) : SufR (fun p => if b then vs.length - 1 - rk p.2 else rk p.2) vs.length (if b = true then (keys.zip vs.toArray).reverse else keys.zip vs.toArray) 0 := by
  intro i _ hi
  have hz : (keys.zip vs.toArray).size = vs.length := by rw [Array.size_zip, hsz, List.size_toArray, Nat.min_self]
  have at' : ∀ j, j < vs.length → ∃ k, (keys.zip vs.toArray)[j]? = some (k, vs.getD j .none) ∧ rk (vs.getD j .none) = j := by
    intro j hj
    have hv : vs[j]? = some (vs.getD j .none) := by rw [List.getD_eq_getElem?_getD, List.getElem?_eq_getElem hj]; rfl
    refine ⟨keys[j]'(by omega), ?_, hrk j _ hv⟩
    rw [Array.getElem?_eq_getElem (by omega), Array.getElem_zip]
    congr 1
    refine Prod.ext rfl ?_
    show vs.toArray[j] = _
    rw [List.getElem_toArray, List.getD_eq_getElem?_getD, List.getElem?_eq_getElem hj]
    rfl
  unfold R
  cases b with
  | false =>
    obtain ⟨k, h1, h2⟩ := at' i hi
    simp only [Bool.false_eq_true, if_false, h1, h2]
  | true =>
    obtain ⟨k, h1, h2⟩ := at' (vs.length - 1 - i) (by omega)
    simp only [if_true]
    rw [Array.getElem?_reverse (by rw [hz]; exact hi), hz, h1]
    simp only [h2]
    omega

theorem srt_end (F : Sk g a kS keys e e1 s.heap) (hka : kS ≠ a) (hrk : ∀ j v, vs[j]? = some v → rk v = j)
    (hk : IntsAre keys.toList kz) (hlen : kz.length = vs.length) (h64 : vs.length < 64)
    (h : ∀ h' out c, (∀ b o, b ≠ a → b ≠ kS → g.get? b = some o → h'.get? b = some o) → h'.get? a = some (seqObj "list" out c) → StOut b kz vs out.toList → P (.done (.ret .none)) { s with heap := h' }) :
    wpAny (model prog w) A (ksk_end a b vs.toArray e1 (.ref kS) keys) P E s := by
  have hsz : keys.size = vs.length := by
    have h1 := hk.length
    rw [Array.length_toList] at h1
    omega
  have hzs : (keys.zip vs.toArray).size = vs.length := by rw [Array.size_zip, hsz, List.size_toArray, Nat.min_self]
  have step : ∀ t : Sem PySem.Fin, wpAny (model prog w) A t P E s → wpAny (model prog w) A (if b = true then (do let _ ← rule "list.sort.reverse"; t) else t) P E s := by
    intro t ht
    split
    · exact wpAny_bind (wpAny_rule ht)
    · exact ht
  have hstart : (if b = true then (keys.zip vs.toArray).reverse else keys.zip vs.toArray).Perm (keys.zip vs.toArray) := by
    cases b with
    | false => exact Array.Perm.refl _
    | true => exact Array.perm_iff_toList_perm.mpr (by rw [if_pos rfl, Array.toList_reverse]; exact List.reverse_perm _)
  unfold ksk_end
  try dsimp only
  refine step _ ?_
  by_cases h2 : vs.toArray.size < 2
  · rw [if_pos h2, if_pos h2]
    refine wpAny_bind (wpAny_pure ?_)
    rw [StateT.run_pure]
    refine wpAny_bind (wpAny_pure ?_)
    try dsimp only
    refine srt_tail (st := SortSt.mk' general' (if b = true then (keys.zip vs.toArray).reverse else keys.zip vs.toArray) #[] 7 none) F hka hrk hk hlen h64 hstart ?_ rfl h
    intro i j hij hj
    have hj2 : j < (if b = true then (keys.zip vs.toArray).reverse else keys.zip vs.toArray).size := hj
    rw [hstart.size_eq, hzs] at hj2
    rw [List.size_toArray] at h2
    have : i = j := by omega
    subst this
    exact Int.le_refl _
  · rw [if_neg h2, if_neg h2]
    rw [List.size_toArray] at h2
    rw [ksk_kind hk (by rw [hsz]; omega)]
    refine wpAny_bind (wpAny_pure ?_)
    refine wpAny_bind (wpAny_mono (st_sortRuns (ρ := fun p => if b then vs.length - 1 - rk p.2 else rk p.2) (a₀ := keys.zip vs.toArray) (st := SortSt.mk' oneType' (if b = true then (keys.zip vs.toArray).reverse else keys.zip vs.toArray) #[] 7 none)
      (Q := fun _ st' => (arrOf st').Perm (keys.zip vs.toArray) ∧ failedOf st' = none ∧ Asc (fun p => if b then vs.length - 1 - rk p.2 else rk p.2) (arrOf st') (keys.zip vs.toArray).size)
      (ksk_intKeys hk) ⟨hstart, rfl, rfl, rfl⟩ (by rw [hzs]; omega) (by rw [hzs]; exact h64) (by rw [hzs]; exact start_rank hrk hsz) fun st' a1 a2 a3 => ⟨a1, a2, a3⟩) ?_ fun _ _ e => e)
    rintro ⟨⟨⟩, st'⟩ s' ⟨rfl, hp, hf, hs⟩
    try dsimp only
    exact srt_tail F hka hrk hk hlen h64 hp (by rw [hp.size_eq]; exact hs) hf h

theorem srt_rest {f : Value} (F : Sk g a kS #[] 0 e1 s.heap) (hka : kS ≠ a) (ha : ∀ o, g.get? a ≠ some o) (hkS : ∀ o, g.get? kS ≠ some o) (hrk : ∀ j v, vs[j]? = some v → rk v = j) (hlen : kz.length = vs.length) (h64 : vs.length < 64)
    (turn : ∀ (i : Nat) (v : Value) (k : Int), vs[i]? = some v → kz[i]? = some k → ∀ s' : Shared, (∃ h tk, s' = { s with heap := h, toks := tk }) → Kp g s'.heap →
      wpAny (model prog w) A (call f [v]) (fun r s'' => Keeps s' s'' ∧ ∃ t, r = .int k t) (fun _ _ => False) s')
    (h : ∀ h' tk out c, Kp g h' → h'.get? a = some (seqObj "list" out c) → StOut b kz vs out.toList → P (.done (.ret .none)) { s with heap := h', toks := tk }) :
    wpAny (model prog w) A (ksk_rest a f b vs.toArray e1 (.ref kS)) P E s := by
  have kp : ∀ {h' : Heap}, (∀ b o, b ≠ a → b ≠ kS → g.get? b = some o → h'.get? b = some o) → Kp g h' := fun k b o z => k b o (fun q => ha o (q ▸ z)) (fun q => hkS o (q ▸ z)) z
  unfold ksk_rest
  refine wpAny_bind (wpAny_rule ?_)
  first
    | rw [List.forIn_toArray]
    | (rw [← Array.forIn_toList]; simp only [List.toList_toArray])
    | rw [← Array.forIn_toList]
  refine wpAny_bind (ksk_fold (fun i s' => ∃ h' tk kA e, s' = { s with heap := h', toks := tk } ∧ Sk g a kS kA e e1 h' ∧ IntsAre kA.toList (kz.take i)) vs 0 s
    ⟨s.heap, s.toks, #[], 0, rfl, F, by simpa using IntsAre.nil⟩ ?step ?done)
  case step =>
    rintro j x s' hx ⟨h', tk, kA, e, rfl, F', hk⟩
    simp only [Nat.zero_add] at hk ⊢
    have hj : j < vs.length := (List.getElem?_eq_some_iff.mp hx).1
    obtain ⟨k, hkj⟩ : ∃ k, kz[j]? = some k := ⟨_, List.getElem?_eq_getElem (by omega)⟩
    have hz : kA.size ≤ vs.length := by
      have h1 := hk.length
      rw [Array.length_toList, List.length_take] at h1
      omega
    refine wpAny_bind (wpAny_attempt (wpAny_mono (turn j x k hx hkj { s with heap := h', toks := tk } ⟨h', tk, rfl⟩ (kp F'.keep)) (fun v s'' he => ?_) fun _ _ hF => hF.elim))
    obtain ⟨⟨gg, tk2, rfl, k2⟩, t2, rfl⟩ := he
    try dsimp only
    have nk := k2 _ _ F'.kS'
    have na := k2 _ _ F'.a'
    have s1 := Heap.SameBut.update gg kS (Obj.mapSeq (·.push (.int k t2)))
    obtain ⟨c2, hc2⟩ : ∃ c2, (gg.update kS (Obj.mapSeq (·.push (.int k t2)))).get? kS = some (seqObj "list" (kA.push (.int k t2)) c2) := ⟨_, get?_update_seq nk (·.push (.int k t2))⟩
    have ek : kz.take (j + 1) = kz.take j ++ [k] := by rw [List.take_add_one, hkj]; simp
    have ea : (kA.push (Value.int k t2)).toList = kA.toList ++ [Value.int k t2] := by simp
    refine wpAny_bind (listUpdate_at nk rfl ?_ (by rw [sizeLine_eq]; omega) (Nat.le_trans (Nat.le_of_eq (Array.size_push ..)) (by rw [sizeLine_eq]; omega)))
    refine wpAny_pure ⟨rfl, _, _, kA.push (.int k t2), c2, rfl, ⟨fun b o n m z => (s1.2 b m).trans (k2 _ _ (F'.keep b o n m z)), hc2, (s1.2 a hka.symm).trans na⟩, by rw [ea, ek]; exact ksk_snoc hk⟩
  case done =>
    rintro s' ⟨h', tk, kA, e, rfl, F', hk⟩
    have hk' : IntsAre kA.toList kz := by
      have e3 : kz.take (0 + vs.length) = kz := List.take_of_length_le (by omega)
      rw [e3] at hk
      exact hk
    try dsimp only
    refine wpAny_bind (listItems_at F'.kS' rfl ?_)
    exact srt_end F' hka hrk hk' hlen h64 fun h3 out c k3 a3 o3 => h h3 tk out c (kp k3) a3 o3

theorem srt_tree {f : Value} {n : Nat} {g₀ : Heap} (ho : s.heap.get? a = some (seqObj "list" vs.toArray n)) (kg : Kp g₀ s.heap) (ha : ∀ o, g₀.get? a ≠ some o) (hrk : ∀ j v, vs[j]? = some v → rk v = j) (hlen : kz.length = vs.length) (h64 : vs.length < 64)
    (turn : ∀ (i : Nat) (v : Value) (k : Int), vs[i]? = some v → kz[i]? = some k → ∀ s' : Shared, (∃ h tk, s' = { s with heap := h, toks := tk }) → Kp g₀ s'.heap →
      wpAny (model prog w) A (call f [v]) (fun r s'' => Keeps s' s'' ∧ ∃ t, r = .int k t) (fun _ _ => False) s')
    (h : ∀ h' tk out c, Kp g₀ h' → h'.get? a = some (seqObj "list" out c) → StOut b kz vs out.toList → P (.done (.ret .none)) { s with heap := h', toks := tk }) :
    wpAny (model prog w) A (ksk_tree a f b) P E s := by
  have hal : a < s.heap.objs.size := Heap.lt_size ho
  have s1 := Heap.SameBut.update s.heap a (Obj.mapSeq fun _ => (#[] : Array Value))
  obtain ⟨e1, ho1⟩ : ∃ e1, (s.heap.update a (Obj.mapSeq fun _ => (#[] : Array Value))).get? a = some (seqObj "list" #[] e1) := ⟨_, get?_update_seq ho fun _ => #[]⟩
  have hkS : ((s.heap.update a (Obj.mapSeq fun _ => (#[] : Array Value))).push (seqObj "tuple" vs.toArray 0)).objs.size = s.heap.objs.size + 1 := by rw [size_push', Heap.size_update]
  unfold ksk_tree
  refine wpAny_bind (listItems_at ho rfl ?_)
  refine wpAny_bind (listUpdate_at ho rfl ?_ (by rw [List.size_toArray, sizeLine_eq]; omega) (Nat.zero_le _))
  refine wpAny_bind (seqEpoch_at ho1 rfl ?_)
  refine wpAny_bind (wpAny_newTuple ?_ (by show vs.length ≤ _; rw [sizeLine_eq]; omega))
  refine wpAny_bind (wpAny_newList ?_ (Nat.zero_le _))
  refine wpAny_holding ?_
  refine srt_rest (g := g₀) (s := { s with heap := ((s.heap.update a (Obj.mapSeq fun _ => (#[] : Array Value))).push (seqObj "tuple" vs.toArray 0)).push (seqObj "list" #[] 0) }) (kS := ((s.heap.update a (Obj.mapSeq fun _ => (#[] : Array Value))).push (seqObj "tuple" vs.toArray 0)).objs.size)
    ⟨fun b o n _ z => Heap.get?_push_of_some _ (Heap.get?_push_of_some _ ((s1.2 b n).trans (kg b o z))), Heap.get?_push_size _ rfl, Heap.get?_push_of_some _ (Heap.get?_push_of_some _ ho1)⟩ (by rw [hkS]; exact Nat.ne_of_gt (Nat.lt_succ_of_lt hal)) ha (fun o z => ?_) hrk hlen h64 turn h
  have := Heap.lt_size (kg _ _ z)
  rw [hkS] at this
  exact Nat.lt_irrefl _ (Nat.lt_of_succ_lt this)

theorem srt_sorted {l : Addr} {f : Value} {kw : List (Str × Value)} {Q : Value → Shared → Prop} (hl : s.heap.IsList l vs.toArray) (hrk : ∀ j v, vs[j]? = some v → rk v = j) (hlen : kz.length = vs.length) (h64 : vs.length < 64)
    (ha1 : argsOk "sorted" ⟨[.ref l], kw⟩) (ha2 : ∀ x, argsOk "list.sort" ⟨[.ref x], kw⟩) (ht : ∀ x, Builtin.«list.sort» ⟨[.ref x], kw⟩ = ksk_tree x f b)
    (turn : ∀ (i : Nat) (v : Value) (k : Int), vs[i]? = some v → kz[i]? = some k → ∀ s' : Shared, (∃ h tk, s' = { s with heap := h, toks := tk }) → Kp s.heap s'.heap →
      wpAny (model prog w) A.in1.in1 (call f [v]) (fun r s'' => Keeps s' s'' ∧ ∃ t, r = .int k t) (fun _ _ => False) s')
    (h : ∀ D h' tk out c, Kp s.heap h' → s.heap.get? D = none → h'.get? D = some (seqObj "list" out c) → StOut b kz vs out.toList → Q (.ref D) { s with heap := h', toks := tk }) :
    wpAny (model prog w) A (call (.builtin "sorted") [.ref l] kw) Q E s := by
  refine call_function_entry_kw kind_sorted plain_sorted entry_sorted ha1 ?_
  unfold Builtin.«sorted»
  refine wpAny_bind (m := checkCount "sorted" 1 1 _) (wpAny_pure ?_)
  refine wpAny_bind (collect_list hl ?_ (by rw [sizeLine_eq]; omega))
  refine wpAny_bind (wpAny_newList ?_ (by rw [sizeLine_eq]; omega))
  have hsz : ((s.heap.push (seqObj "list" #[] 0)).update s.heap.objs.size (Obj.mapSeq (· ++ vs.toArray))).objs.size = s.heap.objs.size + 1 := by
    rw [Heap.size_update, size_push']
  have hoL : (((s.heap.push (seqObj "list" #[] 0)).update s.heap.objs.size (Obj.mapSeq (· ++ vs.toArray))).push (seqObj "list" vs.toArray 0)).get? (s.heap.objs.size + 1) = some (seqObj "list" vs.toArray 0) := by
    rw [← hsz]; exact Heap.get?_push_size _ rfl
  have keep : ∀ b o, s.heap.get? b = some o → (((s.heap.push (seqObj "list" #[] 0)).update s.heap.objs.size (Obj.mapSeq (· ++ vs.toArray))).push (seqObj "list" vs.toArray 0)).get? b = some o := fun b o q => by
    have hlt : b < s.heap.objs.size := Heap.lt_size q
    rw [Heap.get?_push_ne _ _ _ (by rw [hsz]; exact Nat.ne_of_lt (Nat.lt_succ_of_lt hlt)), Heap.get?_update_ne _ _ _ _ (Nat.ne_of_lt hlt), Heap.get?_push_ne _ _ _ (Nat.ne_of_lt hlt)]
    exact q
  show wpAny _ _ _ _ _ { s with heap := ((s.heap.push (seqObj "list" #[] 0)).update s.heap.objs.size (Obj.mapSeq (· ++ vs.toArray))).push (seqObj "list" vs.toArray 0) }
  rw [hsz]
  refine wpAny_bind (wpAny_holding (wpAny_call_entry_kw slot_list_sort ⟨_, hoL, rfl⟩ entry_list_sort ?body (ha2 _)))
  case body =>
    have ht' := ht (s.heap.objs.size + 1)
    show wpAny (model prog w) A.in1.in1 (Builtin.«list.sort» ⟨[.ref (s.heap.objs.size + 1)], kw⟩) _ _ _
    rw [ht']
    have new : s.heap.get? (s.heap.objs.size + 1) = none := Heap.get?_none_of_le (Nat.le_succ _)
    refine srt_tree (g₀ := s.heap) (s := { s with heap := ((s.heap.push (seqObj "list" #[] 0)).update s.heap.objs.size (Obj.mapSeq (· ++ vs.toArray))).push (seqObj "list" vs.toArray 0) })
      hoL keep (fun o z => by rw [new] at z; cases z) hrk hlen h64 turn fun h' tk out c k' a' o' => ⟨_, rfl, ?_⟩
    exact wpAny_pure ⟨_, rfl, h _ h' tk out c k' new a' o'⟩
end
end Mine
end

section
set_option maxRecDepth 100000
namespace Mine

/-! lambdas: the table of code records grows; (91, 89): the code of sort_rows and its table -/
structure LamBase (hB : Heap) : Prop where
  hd : CodeHd hB 91 89
  g : ∃ mg bm ob, hB.Ns mainGlobals mg ∧ mg "__builtins__" = some (.ref bm) ∧ bm ≠ builtinsNs ∧ bm ≠ mainGlobals ∧ hB.get? bm = some ob ∧ ob.cls = .type "module" ∧ ob.dict = some builtinsNs ∧ ob.data = .plain
  t : hB.get? 89 = none

/-- what the table says of the lambda at a place -/
noncomputable def TabF (pos : Pos) (qual : Str) (ps : Array Value) : Option (Addr × Obj) → Prop
  | none => TriplesOk ps.toList ∧ codeAmong pos ps.toList = none
  | some (c, oc) => TriplesOk ps.toList ∧ codeAmong pos ps.toList = some (.ref c) ∧ ∃ vs t, oc.data = .fields vs ∧ vs[1]? = some (.str qual t)

section
variable {prog : Program} {w : World} {A : Around} {E : Value → Shared → Prop} {s : Shared} {hB : Heap}

theorem mk_lambda {params : Arguments} {body : Expr} {scope : Scope} {pos : Pos} {env : Env} {clos : List (Str × Addr)} {ps : Array Value} {code : Option (Addr × Obj)} {Q : Value → Shared → Prop} (lb : LamBase hB) (base : Kp hB s.heap) (hdef : defaultsOf params env = ([], [])) (hcl : closureFor scope env = pure clos) (hge : env.globals = mainGlobals) (hcode : env.code = .ref 91)
    (hP : s.heap.get? 89 = some (tabObj ps)) (hT : TabF pos (env.qual ++ "<lambda>") ps code) (hc : ∀ a q, code = some (a, q) → s.heap.get? a = some q)
    (h : ∀ f pm ctv h' tk ps' c' oc', KpOff [89] s.heap h' → s.heap.get? f = none → h'.get? f = some (kla_obj "<lambda>" (env.qual ++ "<lambda>") params body scope clos pm c' ctv) →
      h'.get? 89 = some (tabObj ps') → TabF pos (env.qual ++ "<lambda>") ps' (some (c', oc')) → h'.get? c' = some oc' → (s.heap.get? c' = none ∨ code = some (c', oc')) → (code = none → ps' = ps ++ #[rawInt pos.line, rawInt pos.col, .ref c']) →
      Q (.ref f) { s with heap := h', toks := tk }) :
    wpAny (model prog w) A (eval (.Lambda params body scope pos) env) Q E s := by
  obtain ⟨mg, bm, ob, hg, b1, b2, b3, b4, b5, b6, b7⟩ := lb.g
  have alive : ∀ b o, hB.get? b = some o → b ≠ 89 := fun b o z q => by rw [q, lb.t] at z; cases z
  have hbP : bm ≠ 89 := alive _ _ b4
  have hgP : mainGlobals ≠ 89 := by obtain ⟨o, es, ep, z, _⟩ := hg; exact alive _ _ z
  have hgs := hg.keeps base
  have hba : s.heap.BuiltinsAt mg 89 := ⟨bm, ob, b1, b2, b3, hbP, base _ _ b4, b5, b6, b7⟩
  have hd := lb.hd.keeps base
  refine kla_eval hdef ?_
  cases code with
  | none =>
    obtain ⟨ht, hnf⟩ := hT
    refine kla_makeFunction (mg := mg) hcl hge hgs hcode hd hP ht hnf hgP hba fun c' ctv h' tk hx hge' hlt hrec htb => ?_
    obtain ⟨c₂, oc, vs, t, e2, hoc, hdd, hv⟩ := hrec
    cases e2
    have nf : s.heap.get? h'.objs.size = none := Heap.get?_none_of_le (Nat.le_trans hge' (Nat.le_of_lt hlt))
    refine h _ _ ctv _ tk _ c' oc (fun b o n z => Heap.get?_push_of_some _ (hx b o (fun q => n (by rw [q]; exact List.mem_singleton.mpr rfl)) z)) nf (Heap.get?_push_size _ rfl) (Heap.get?_push_of_some _ htb) ⟨?_, ?_, vs, t, hdd, hv⟩ (Heap.get?_push_of_some _ hoc) (.inl (Heap.get?_none_of_le hge')) fun _ => rfl
    · have := TriplesOk_snoc pos.line pos.col (.ref c') ps.toList ht
      rw [Array.toList_append]
      exact this
    · have := codeAmong_snoc (c := .ref c') ps.toList ht hnf
      rw [Array.toList_append]
      exact this
  | some p =>
    obtain ⟨c', oc⟩ := p
    obtain ⟨ht, hf, vs, t, hdd, hv⟩ := hT
    refine kla_makeFunctionHit (mg := mg) hcl hge hgs hcode hd hP ht hf hba fun ctv h' tk hk hsz => ?_
    have nf : s.heap.get? h'.objs.size = none := Heap.get?_none_of_le hsz
    exact h _ _ ctv _ tk ps c' oc (fun b o _ z => Heap.get?_push_of_some _ (hk b o z)) nf (Heap.get?_push_size _ rfl) (Heap.get?_push_of_some _ (hk _ _ hP)) ⟨ht, hf, vs, t, hdd, hv⟩ (Heap.get?_push_of_some _ (hk _ _ (hc _ _ rfl))) (.inr rfl) fun e => (nomatch e)

/-- a lambda of one row is called -/
theorem lam_call {f : Addr} {name qual : Str} {params : Arguments} {body : Expr} {scope : Scope} {cl : List (Str × Addr)} {pm ctv : Value} {c' : Addr} {oc : Obj} {vs : Array Value} {t : Tok} {x : Str} {v : Value} {d : PyData} {k : Int} {X : List Addr} (g : Good 2 A) (lim : s.heap.NoLimit) (liv : ∀ a ∈ X, ∃ o, s.heap.get? a = some o)
    (ho : s.heap.get? f = some (kla_obj name qual params body scope cl pm c' ctv)) (hoc : s.heap.get? c' = some oc) (hdd : oc.data = .fields vs) (hvv : vs[1]? = some (.str qual t)) (hv : Is X s.heap v d)
    (hbind : bindArgs (kla_fn name qual params body scope cl pm (.ref c') ctv) ⟨[v], []⟩ = pure [(x, v)]) (hloc : scope.names.lookup x = some .local) (hcell : ∀ x ∈ scope.names, x.2 ≠ .cell)
    (hev : ∀ L, Ev ⟨prog, w, s.heap, A.deeper (envX qual scope L f (.ref c') cl), L :: X, envX qual scope L f (.ref c') cl⟩ [(x, d)] body (.int k))
    (hco : scope.isCoroutine = false) (hgen : scope.isGenerator = false) (hk : scope.kind = .function) :
    wpAny (model prog w) A (call (.ref f) [v]) (fun r s'' => Keeps s s'' ∧ ∃ t, r = .int k t) E s := by
  refine wpAny_call (kla_callFunE g.room ho rfl hco hgen rfl ⟨c', oc, vs, t, rfl, hoc, hdd, hvv⟩ ?_)
  rw [hbind]
  refine wpAny_pure (wpAny_newFunctionEnv hcell (fun p m => by rw [List.mem_singleton.mp m]; exact hloc) (fun h₁ hns hsb => ⟨lim.fresh _ hsb, ?_⟩) hk)
  show codeAny _ _ (.expr body (envX qual scope s.heap.objs.size f (.ref c') cl)) _ _
  have k₁ : Kp s.heap h₁ := fun b o e => hsb.extBut b o (Nat.ne_of_lt (Heap.lt_size e)) (Heap.get?_push_of_some _ e)
  have nL : s.heap.get? s.heap.objs.size = none := next_none _
  have P : Pre ⟨prog, w, s.heap, A.deeper (envX qual scope s.heap.objs.size f (.ref c') cl), s.heap.objs.size :: X, envX qual scope s.heap.objs.size f (.ref c') cl⟩ [(x, d)] { s with heap := h₁, toks := s.toks + [(x, v)].length } := by
    refine ⟨⟨g.deeper, hk, rfl, rfl⟩, k₁, fun a m => ?_, fun y e hy => ?_⟩
    · rcases List.mem_cons.mp m with rfl | m
      · obtain ⟨o, es, ep, z, _⟩ := hns
        exact ⟨o, z⟩
      · obtain ⟨o, z⟩ := liv a m
        exact ⟨o, k₁ a o z⟩
    · rw [List.lookup_cons] at hy
      cases q : y == x with
      | false => rw [q] at hy; cases hy
      | true =>
        rw [q] at hy
        cases hy
        have e := eq_of_beq q
        subst e
        refine ⟨v, .inl ⟨hloc, _, hns, by simp⟩, hv.up fun b o n z => ⟨fun m => ?_, k₁ b o z⟩⟩
        rcases List.mem_cons.mp m with rfl | m
        · have z : s.heap.get? s.heap.objs.size = some o := z
          rw [nL] at z; cases z
        · exact n m
  refine kla_codeExpr (wpAny_mono (hev _ _ _ P) (fun r s'' hr => ?_) fun _ _ e => e)
  obtain ⟨k₂, q⟩ := hr
  cases q
  exact ⟨keeps_trans ⟨h₁, _, rfl, k₁⟩ k₂, _, rfl⟩
end
end Mine
end

section
set_option maxRecDepth 100000
namespace Mine

abbrev Row := Int × List Int
/-- rows sorted by the numbers kz, stable, b: falling -/
noncomputable def StRows (b : Bool) (kz : List Int) (rs rs' : List Row) : Prop :=
  ∃ idx : List Nat, idx.Perm (List.range rs.length) ∧ (rs' = idx.map fun i => rs.getD i (0, [])) ∧
    idx.Pairwise fun i j => (if b then kz.getD j 0 < kz.getD i 0 else kz.getD i 0 < kz.getD j 0) ∨ (kz.getD i 0 = kz.getD j 0 ∧ i < j)

theorem rank_of {vs : List Value} (h : vs.Nodup) : ∃ rk : Value → Nat, ∀ j v, vs[j]? = some v → rk v = j := by
  classical
  refine ⟨fun v => vs.idxOf v, fun j v e => ?_⟩
  obtain ⟨hj, rfl⟩ := List.getElem?_eq_some_iff.mp e
  exact List.Nodup.idxOf_getElem h j hj

theorem IsAll.nodup {X : List Addr} {h : Heap} : ∀ {vs : List Value} {ds : List PyData}, IsAll X h vs ds → ds.Nodup → vs.Nodup
  | _, _, .nil, _ => List.nodup_nil
  | v :: vs, d :: ds, .cons a r, n => by
    have n' := List.nodup_cons.mp n
    refine List.nodup_cons.mpr ⟨fun m => ?_, IsAll.nodup r n'.2⟩
    obtain ⟨k, hk⟩ := List.getElem?_of_mem m
    obtain ⟨d', e, q⟩ := r.getv hk
    have := Is.one a q
    subst this
    exact n'.1 (List.mem_of_getElem? e)

theorem rowD_inj {r q : Row} (h : rowD r = rowD q) : r.1 = q.1 := by
  unfold rowD at h
  injection h with h
  injection h with h _
  injection h
theorem rows_nodup {rs : List Row} (h : (rs.map (·.1)).Nodup) : (rs.map rowD).Nodup := by
  induction rs with
  | nil => exact List.nodup_nil
  | cons r rs ih =>
    rw [List.map_cons, List.nodup_cons] at h ⊢
    refine ⟨fun m => ?_, ih h.2⟩
    obtain ⟨q, hq, e⟩ := List.mem_map.mp m
    exact h.1 (List.mem_map.mpr ⟨q, hq, rowD_inj e⟩)

section
variable {B : Cx} {sin s : Shared} {K : Addr → Obj → Prop} {Y : List Addr} {ρ : List (Str × PyData)} {o : Option Own} {E : Value → Shared → Prop}

theorem sort_call {v : Value} {rs : List Row} {kz : List Int} {f : Value} {b : Bool} {kw : List (Str × Value)} (S : St B sin K Y ρ none s) (hv : Is (Y ++ B.X) s.heap v (rowsD rs)) (hnd : (rs.map (·.1)).Nodup) (hlen : kz.length = rs.length) (h64 : rs.length < 64)
    (ha1 : ∀ v, argsOk "sorted" ⟨[v], kw⟩) (ha2 : ∀ x, argsOk "list.sort" ⟨[.ref x], kw⟩) (ht : ∀ x, Builtin.«list.sort» ⟨[.ref x], kw⟩ = ksk_tree x f b)
    (turn : ∀ (i : Nat) (v : Value) (r : Row) (k : Int), rs[i]? = some r → kz[i]? = some k → ∀ s' : Shared, (∃ h tk, s' = { s with heap := h, toks := tk }) → Kp s.heap s'.heap → Is (Y ++ B.X) s'.heap v (rowD r) →
      wpAny (model B.prog B.w) B.A.in1.in1 (call f [v]) (fun r s'' => Keeps s' s'' ∧ ∃ t, r = .int k t) (fun _ _ => False) s') :
    wpAny (model B.prog B.w) B.A (call (.builtin "sorted") [v] kw) (fun r s' => Keeps s s' ∧ ∃ rs', StRows b kz rs rs' ∧ Is (Y ++ B.X) s'.heap r (rowsD rs')) E s := by
  cases hv with
  | @list l vs _ n hl hr =>
    have hvl := hr.length
    rw [List.length_map] at hvl
    obtain ⟨rk, hrk⟩ := rank_of (hr.nodup (rows_nodup hnd))
    refine srt_sorted (vs := vs) (kz := kz) (rk := rk) hl hrk (by omega) (by omega) (ha1 _) ha2 ht (fun i v k hv hk s' hs' kp => ?_) fun D h' tk out c kp hD hD' ho => ?_
    · obtain ⟨d, hd, q⟩ := hr.getv hv
      rw [List.getElem?_map] at hd
      obtain ⟨r, hr', rfl⟩ := Option.map_eq_some_iff.mp hd
      exact turn i v r k hr' hk s' hs' kp (q.up (Up.keep kp))
    · refine ⟨⟨h', tk, rfl, kp⟩, ?_⟩
      obtain ⟨idx, hp, hout, hpw⟩ := ho
      refine ⟨idx.map fun i => rs.getD i (0, []), ⟨idx, by rw [← hvl]; exact hp, rfl, hpw⟩, ?_⟩
      have hDX : D ∉ Y ++ B.X := fun m => by
        obtain ⟨ob, z⟩ := S.pre.liv D m
        rw [hD] at z; cases z
      refine .list (vs := out.toList) hDX ⟨_, hD', rfl, c, by rw [Array.toArray_toList]⟩ ?_
      rw [hout, List.map_map]
      have hi : ∀ i ∈ idx, i < vs.length := fun i m => List.mem_range.mp (hp.mem_iff.mp m)
      clear hp hout hpw hD' 
      induction idx with
      | nil => exact .nil
      | cons i r ih =>
        rw [List.map_cons, List.map_cons]
        refine .cons ?_ (ih fun j m => hi j (.tail _ m))
        have h1 := hi i (.head _)
        obtain ⟨d, hd, q⟩ := hr.getv (List.getElem?_eq_getElem h1)
        rw [List.getElem?_map] at hd
        obtain ⟨r', hr', rfl⟩ := Option.map_eq_some_iff.mp hd
        have e1 : vs.getD i .none = vs[i] := by rw [List.getD_eq_getElem?_getD, List.getElem?_eq_getElem h1]; rfl
        have e2 : rs.getD i (0, []) = r' := by rw [List.getD_eq_getElem?_getD, hr']; rfl
        show Is _ _ (vs.getD i .none) (rowD (rs.getD i (0, [])))
        rw [e1, e2]
        exact q.up (Up.keep kp)
end
end Mine
end

section
set_option maxRecDepth 100000
namespace Mine

theorem kpOff_kp {W : List Addr} {g h k : Heap} (a : KpOff W g h) (b : Kp h k) : KpOff W g k := fun x o n e => b x o (a x o n e)

/-- the table 89 is free to turn in this frame -/
structure Free89 (B : Cx) (K : Addr → Obj → Prop) (Y : List Addr) : Prop where
  mem : (89 : Addr) ∈ Y
  off : ∀ q, ¬ K 89 q
  loc : (89 : Addr) ≠ B.env.locals
  cel : ∀ y c, B.env.cells.lookup y = some c → (89 : Addr) ≠ c

section
variable {B : Cx} {sin s : Shared} {K : Addr → Obj → Prop} {Y : List Addr} {ρ : List (Str × PyData)} {E : Value → Shared → Prop}

theorem St.turn89 {s' : Shared} (S : St B sin K Y ρ none s) (f : Free89 B K Y) (k : KpOff [89] s.heap s'.heap) (e : ∃ tk, s' = { s with heap := s'.heap, toks := tk }) (l : ∃ ob, s'.heap.get? 89 = some ob) : St B sin K Y ρ none s' :=
  S.turn (wr := [89]) (fun b m => by
    rw [List.mem_singleton.mp m]
    exact ⟨f.mem, f.off, f.loc, f.cel, fun q e => (nomatch e), l⟩) k e

theorem st_lambda {params : Arguments} {body : Expr} {scope : Scope} {pos : Pos} {clos : List (Str × Addr)} {ps : Array Value} {code : Option (Addr × Obj)} {Q : Value → Shared → Prop} (S : St B sin K Y ρ none s) (lb : LamBase B.hB) (f89 : Free89 B K Y)
    (hdef : defaultsOf params B.env = ([], [])) (hcl : closureFor scope B.env = pure clos) (hcode : B.env.code = .ref 91)
    (hP : s.heap.get? 89 = some (tabObj ps)) (hT : TabF pos (B.env.qual ++ "<lambda>") ps code) (hc : ∀ a q, code = some (a, q) → s.heap.get? a = some q)
    (h : ∀ f pm ctv s' ps' c' oc', St B sin K Y ρ none s' → KpOff [89] s.heap s'.heap → (∃ h tk, s' = { s with heap := h, toks := tk }) → s'.heap.get? f = some (kla_obj "<lambda>" (B.env.qual ++ "<lambda>") params body scope clos pm c' ctv) →
      s'.heap.get? 89 = some (tabObj ps') → TabF pos (B.env.qual ++ "<lambda>") ps' (some (c', oc')) → s'.heap.get? c' = some oc' → (s.heap.get? c' = none ∨ code = some (c', oc')) → (code = none → ps' = ps ++ #[rawInt pos.line, rawInt pos.col, .ref c']) →
      Q (.ref f) s') : wpAny (model B.prog B.w) B.A (eval (.Lambda params body scope pos) B.env) Q E s := by
  refine mk_lambda lb S.pre.base hdef hcl S.pre.ok.glob hcode hP hT hc fun f pm ctv h' tk ps' c' oc' k nf hf h89 hT' hc' hor hnone => ?_
  exact h f pm ctv _ ps' c' oc' (S.turn89 f89 k ⟨tk, rfl⟩ ⟨_, h89⟩) k ⟨h', tk, rfl⟩ hf h89 hT' hc' hor hnone

/-- what a sorting by a lambda needs to know of the lambda -/
structure LamOk (B : Cx) (s : Shared) (params : Arguments) (body : Expr) (scope : Scope) (clos : List (Str × Addr)) (y : Str) (rs : List Row) (kz : List Int) : Prop where
  hdef : defaultsOf params B.env = ([], [])
  hcl : closureFor scope B.env = pure clos
  bind : ∀ pm ctv c' v, bindArgs (kla_fn "<lambda>" (B.env.qual ++ "<lambda>") params body scope clos pm (.ref c') ctv) ⟨[v], []⟩ = pure [(y, v)]
  loc : scope.names.lookup y = some .local
  cell : ∀ x ∈ scope.names, x.2 ≠ .cell
  co : scope.isCoroutine = false
  gen : scope.isGenerator = false
  kind : scope.kind = .function
  ev : ∀ s' : Shared, KpOff [89] s.heap s'.heap → ∀ (A' : Around) (X' : List Addr) (L f c' : Addr) (i : Nat) (r : Row) (k : Int), rs[i]? = some r → kz[i]? = some k → Ev ⟨B.prog, B.w, s'.heap, A', L :: X', envX (B.env.qual ++ "<lambda>") scope L f (.ref c') clos⟩ [(y, rowD r)] body (.int k)

theorem lam_turn {params : Arguments} {body : Expr} {scope : Scope} {clos : List (Str × Addr)} {y : Str} {rs : List Row} {kz : List Int} {s₂ : Shared} {f : Addr} {pm ctv : Value} {c' : Addr} {oc : Obj} {pos : Pos} {ps : Array Value}
    (l : LamOk B s params body scope clos y rs kz) (g : Good 8 B.A) (lim : B.hB.NoLimit) (S : St B sin K Y ρ none s₂) (k₂ : KpOff [89] s.heap s₂.heap)
    (hf : s₂.heap.get? f = some (kla_obj "<lambda>" (B.env.qual ++ "<lambda>") params body scope clos pm c' ctv)) (hoc : s₂.heap.get? c' = some oc) (hT : TabF pos (B.env.qual ++ "<lambda>") ps (some (c', oc))) :
    ∀ (i : Nat) (v : Value) (r : Row) (k : Int), rs[i]? = some r → kz[i]? = some k → ∀ s' : Shared, (∃ h tk, s' = { s₂ with heap := h, toks := tk }) → Kp s₂.heap s'.heap → Is (Y ++ B.X) s'.heap v (rowD r) →
      wpAny (model B.prog B.w) B.A.in1.in1 (call (.ref f) [v]) (fun r s'' => Keeps s' s'' ∧ ∃ t, r = .int k t) (fun _ _ => False) s' := by
  intro i v r k hr hk s' _ kp hv
  obtain ⟨_, _, vs, t, hdd, hvv⟩ := hT
  have g2 : Good 2 B.A.in1.in1 := (g.mono (m := 4) (by decide)).in1.in1
  exact lam_call g2 (lim.keeps (S.pre.base.trans kp)) (fun a m => let ⟨o, z⟩ := S.pre.liv a m; ⟨o, kp a o z⟩) (kp _ _ hf) (kp _ _ hoc) hdd hvv hv (l.bind pm ctv c' v) l.loc l.cell
    (fun L => l.ev s' (kpOff_kp k₂ kp) _ _ L f c' i r k hr hk) l.co l.gen l.kind

theorem none_before {s s' : Shared} {b : Addr} (k : Keeps s s') (h : s'.heap.get? b = none) : s.heap.get? b = none := by
  cases q : s.heap.get? b with
  | none => rfl
  | some o => rw [(kpH k) _ _ q] at h; cases h

/-- a store into a name leaves the table and a code record -/
theorem store_tab {x : Str} {v : Value} {d : PyData} {c' : Addr} {oc : Obj} {vs : Array Value} {ps : Array Value} {A : Around} {Q : Unit → Shared → Prop} (S : St B sin K Y ρ none s) (f89 : Free89 B K Y) (hx : Slot B.env x) (hv : Is (Y ++ B.X) s.heap v d)
    (h89 : s.heap.get? 89 = some (tabObj ps)) (hoc : s.heap.get? c' = some oc) (hdd : oc.data = .fields vs)
    (h : ∀ s', St B sin K Y ((x, d) :: ρ) none s' → s'.heap.get? 89 = some (tabObj ps) → s'.heap.get? c' = some oc → Q () s') : wpAny (model B.prog B.w) A (storeName B.env x v) Q E s := by
  have hcl : c' ≠ B.env.locals := fun w => by
    obtain ⟨m, ob, es, ep, z, d, _⟩ := S.ns
    rw [← w, hoc] at z
    cases z
    rw [hdd] at d
    cases d
  have hcc : ∀ y c, B.env.cells.lookup y = some c → c' ≠ c := fun y c e w => by
    obtain ⟨_, _, _, v, ob, z, d⟩ := S.cel y c e
    rw [← w, hoc] at z
    cases z
    rw [hdd] at d
    cases d
  have S' := S.stay (W := fun a x => (a = 89 ∧ x = tabObj ps) ∨ (a = c' ∧ x = oc)) (fun a x w => by
    rcases w with ⟨rfl, rfl⟩ | ⟨rfl, rfl⟩
    · exact ⟨h89, f89.loc, f89.cel, fun z e => (nomatch e)⟩
    · exact ⟨hoc, hcl, hcc, fun z e => (nomatch e)⟩)
  refine st_store S' hx hv (fun q e => (nomatch e)) fun s' S'' _ => ?_
  exact h s' (S''.less (fun b x k => .inl k) S.low S.old) (S''.kept _ _ (.inr (.inl ⟨rfl, rfl⟩))) (S''.kept _ _ (.inr (.inr ⟨rfl, rfl⟩)))

theorem ex_sort1 {Q : Flow → Shared → Prop} {rest : List Stmt} {x y : Str} {e : Expr} {params : Arguments} {body : Expr} {scope : Scope} {lpos : Pos} {clos : List (Str × Addr)} {ps : Array Value} {code : Option (Addr × Obj)} {rs : List Row} {kz : List Int} {px p1 kp1 pos p : Pos}
    (S : St B sin K Y ρ none s) (g : Good 8 B.A) (lb : LamBase B.hB) (lim : B.hB.NoLimit) (f89 : Free89 B K Y) (gs : Gl B.hB "sorted" (.builtin "sorted")) (hsk : B.env.kindOf "sorted" = some .globalImplicit) (hx : Slot B.env x)
    (he : Ev (B.on Y) ρ e (rowsD rs)) (hnd : (rs.map (·.1)).Nodup) (hlen : kz.length = rs.length) (h64 : rs.length < 64) (l : LamOk B s params body scope clos y rs kz) (hcode : B.env.code = .ref 91)
    (hP : s.heap.get? 89 = some (tabObj ps)) (hT : TabF lpos (B.env.qual ++ "<lambda>") ps code) (hc : ∀ a q, code = some (a, q) → s.heap.get? a = some q)
    (h : ∀ s' rs' ps' c' oc', StRows false kz rs rs' → St B sin K Y ((x, rowsD rs') :: ρ) none s' → s'.heap.get? 89 = some (tabObj ps') → TabF lpos (B.env.qual ++ "<lambda>") ps' (some (c', oc')) → s'.heap.get? c' = some oc' → (s.heap.get? c' = none ∨ code = some (c', oc')) → (code = none → ps' = ps ++ #[rawInt lpos.line, rawInt lpos.col, .ref c']) → wpAny (model B.prog B.w) B.A (execs rest B.env) Q E s')
    (hs : swapsWith (.Call (.Name "sorted" p1) [e] [⟨some "key", .Lambda params body scope lpos, kp1⟩] pos) (some (.Name x px)) p.line B.env = pure false := by rfl)
    (hse : starEach [e] B.env = [(false, eval e B.env)] := by rfl) :
    wpAny (model B.prog B.w) B.A (execs (.Assign [.Name x px] (.Call (.Name "sorted" p1) [e] [⟨some "key", .Lambda params body scope lpos, kp1⟩] pos) p :: rest) B.env) Q E s := by
  refine wpAny_execs_cons (wpAny_Assign_Name ?_ hs)
  refine wpAny_Call_Name_kw ?_
  refine gl_name (C := B.on Y) S.pre gs hsk ?_
  refine callWith_kw ?_ (by rw [hse]; rfl) (by rw [hse]; rfl)
  rw [hse]
  refine Calls.spliced_cons (wpAny_mono (he s _ S.pre) (fun v s₁ h₁ => Calls.spliced_nil ?_) fun _ _ e => e)
  obtain ⟨k₁, hv⟩ := h₁
  have S₁ := S.keep k₁
  refine kws_cons (st_lambda S₁ lb f89 l.hdef l.hcl hcode ((kpH k₁) _ _ hP) hT (fun a q z => (kpH k₁) _ _ (hc a q z)) fun f pm ctv s₂ ps' c' oc' S₂ k₂ _ hf h89 hT' hoc hor hnone => kws_nil ?_)
  have hv₂ : Is (Y ++ B.X) s₂.heap v (rowsD rs) := hv.up (Up.mod (W := [89]) (fun b m => by rw [List.mem_singleton.mp m]; exact List.mem_append.mpr (.inl f89.mem)) k₂)
  have kk : KpOff [89] s.heap s₂.heap := fun b o n z => k₂ b o n ((kpH k₁) b o z)
  show wpAny _ _ (call (.builtin "sorted") [v] [(Str.ofString "key", Value.ref f)]) _ _ _
  refine wpAny_mono (sort_call S₂ hv₂ hnd hlen h64 (fun v => ksk_s1 v _) (fun x => ksk_l1 _ _) (fun x => ksk_t1 _ _) (lam_turn l g lim S₂ kk hf hoc hT')) (fun r s₃ h₃ => ?_) fun _ _ e => e
  obtain ⟨k₃, rs', hrs, hr⟩ := h₃
  have S₃ := S₂.keep k₃
  have hdd := hT'
  obtain ⟨_, _, vs, t, hdd, _⟩ := hdd
  refine store_tab S₃ f89 hx hr ((kpH k₃) _ _ h89) ((kpH k₃) _ _ hoc) hdd fun s₄ S₄ a1 a2 => ?_
  exact h s₄ rs' ps' c' oc' hrs S₄ a1 hT' a2 (hor.imp_left fun z => none_before k₁ z) hnone
end
end Mine
end

section
set_option maxRecDepth 100000
namespace Mine
section
variable {B : Cx} {sin s : Shared} {K : Addr → Obj → Prop} {Y : List Addr} {ρ : List (Str × PyData)} {E : Value → Shared → Prop}
theorem ex_sort2 {Q : Flow → Shared → Prop} {rest : List Stmt} {x y : Str} {e : Expr} {params : Arguments} {body : Expr} {scope : Scope} {lpos : Pos} {clos : List (Str × Addr)} {r : Expr} {b : Bool} {kp2 : Pos} {ps : Array Value} {code : Option (Addr × Obj)} {rs : List Row} {kz : List Int} {px p1 kp1 pos p : Pos}
    (S : St B sin K Y ρ none s) (g : Good 8 B.A) (lb : LamBase B.hB) (lim : B.hB.NoLimit) (f89 : Free89 B K Y) (gs : Gl B.hB "sorted" (.builtin "sorted")) (hsk : B.env.kindOf "sorted" = some .globalImplicit) (hx : Slot B.env x)
    (he : Ev (B.on Y) ρ e (rowsD rs)) (her : Ev (B.on Y) ρ r (.bool b)) (hnd : (rs.map (·.1)).Nodup) (hlen : kz.length = rs.length) (h64 : rs.length < 64) (l : LamOk B s params body scope clos y rs kz) (hcode : B.env.code = .ref 91)
    (hP : s.heap.get? 89 = some (tabObj ps)) (hT : TabF lpos (B.env.qual ++ "<lambda>") ps code) (hc : ∀ a q, code = some (a, q) → s.heap.get? a = some q)
    (h : ∀ s' rs' ps' c' oc', StRows b kz rs rs' → St B sin K Y ((x, rowsD rs') :: ρ) none s' → s'.heap.get? 89 = some (tabObj ps') → TabF lpos (B.env.qual ++ "<lambda>") ps' (some (c', oc')) → s'.heap.get? c' = some oc' → (s.heap.get? c' = none ∨ code = some (c', oc')) → (code = none → ps' = ps ++ #[rawInt lpos.line, rawInt lpos.col, .ref c']) → wpAny (model B.prog B.w) B.A (execs rest B.env) Q E s')
    (hs : swapsWith (.Call (.Name "sorted" p1) [e] [⟨some "key", .Lambda params body scope lpos, kp1⟩, ⟨some "reverse", r, kp2⟩] pos) (some (.Name x px)) p.line B.env = pure false := by rfl)
    (hse : starEach [e] B.env = [(false, eval e B.env)] := by rfl) :
    wpAny (model B.prog B.w) B.A (execs (.Assign [.Name x px] (.Call (.Name "sorted" p1) [e] [⟨some "key", .Lambda params body scope lpos, kp1⟩, ⟨some "reverse", r, kp2⟩] pos) p :: rest) B.env) Q E s := by
  refine wpAny_execs_cons (wpAny_Assign_Name ?_ hs)
  refine wpAny_Call_Name_kw ?_
  refine gl_name (C := B.on Y) S.pre gs hsk ?_
  refine callWith_kw ?_ (by rw [hse]; rfl) (by rw [hse]; rfl)
  rw [hse]
  refine Calls.spliced_cons (wpAny_mono (he s _ S.pre) (fun v s₁ h₁ => Calls.spliced_nil ?_) fun _ _ e => e)
  obtain ⟨k₁, hv⟩ := h₁
  have S₁ := S.keep k₁
  refine kws_cons (st_lambda S₁ lb f89 l.hdef l.hcl hcode ((kpH k₁) _ _ hP) hT (fun a q z => (kpH k₁) _ _ (hc a q z)) fun f pm ctv s₂ ps' c' oc' S₂ k₂ _ hf h89 hT' hoc hor hnone => kws_cons (wpAny_mono (her s₂ _ S₂.pre) (fun v' s₂' h₂' => kws_nil ?_) fun _ _ e => e))
  have hv₂ : Is (Y ++ B.X) s₂.heap v (rowsD rs) := hv.up (Up.mod (W := [89]) (fun b m => by rw [List.mem_singleton.mp m]; exact List.mem_append.mpr (.inl f89.mem)) k₂)
  have kk : KpOff [89] s.heap s₂.heap := fun b o n z => k₂ b o n ((kpH k₁) b o z)
  obtain ⟨k₂', hv'⟩ := h₂'
  cases hv'
  have S₂' := S₂.keep k₂'
  have hf := (kpH k₂') _ _ hf
  have h89 := (kpH k₂') _ _ h89
  have hoc := (kpH k₂') _ _ hoc
  have hv₂ := hv₂.up (Up.keep (kpH k₂'))
  have kk := kpOff_kp kk (kpH k₂')
  show wpAny _ _ (call (.builtin "sorted") [v] [(Str.ofString "key", Value.ref f), (Str.ofString "reverse", Value.bool b)]) _ _ _
  refine wpAny_mono (sort_call S₂' hv₂ hnd hlen h64 (fun v => ksk_s2 v _ _) (fun x => ksk_l2 _ _ _) (fun x => ksk_t2 _ _ _) (lam_turn l g lim S₂' kk hf hoc hT')) (fun r s₃ h₃ => ?_) fun _ _ e => e
  obtain ⟨k₃, rs', hrs, hr⟩ := h₃
  have S₃ := S₂'.keep k₃
  have hdd := hT'
  obtain ⟨_, _, vs, t, hdd, _⟩ := hdd
  refine store_tab S₃ f89 hx hr ((kpH k₃) _ _ h89) ((kpH k₃) _ _ hoc) hdd fun s₄ S₄ a1 a2 => ?_
  exact h s₄ rs' ps' c' oc' hrs S₄ a1 hT' a2 (hor.imp_left fun z => none_before k₁ z) hnone

/-- what a turn of a loop leaves, with more to say of the heap -/
noncomputable def LPJ {σ : Type} (B : Cx) (sin : Shared) (K : Addr → Obj → Prop) (Y : List Addr) (R : σ → List (Str × PyData)) (J : σ → Heap → Prop) (inv : σ → Prop) (Q : Flow → Shared → Prop) : Flow → Shared → Prop := fun f s' => match f with
  | .next => ∃ x, inv x ∧ St B sin K Y (R x) none s' ∧ J x s'.heap
  | .cont => ∃ x, inv x ∧ St B sin K Y (R x) none s' ∧ J x s'.heap
  | .brk => False
  | .ret v => Q (.ret v) s'

theorem ex_forJ {Q : Flow → Shared → Prop} {rest : List Stmt} {σ : Type} {target iter : Expr} {body : List Stmt} {pos : Pos} {ds : List PyData} {xs : List Str} {f : PyData → List (Str × PyData)} (R : σ → List (Str × PyData)) (p : Addr) (J : List Addr → σ → Heap → Prop) (inv : Nat → σ → Prop) (x₀ : σ)
    (S : St B sin K Y ρ none s) (hp : (∃ q, s.heap.get? p = some q) ∧ p ≠ B.env.locals ∧ ∀ y c, B.env.cells.lookup y = some c → p ≠ c) (hJ : ∀ wr x h h', J wr x h → (∀ b o, (b ∉ wr ++ (Y ++ B.X) ∨ b = p) → h.get? b = some o → h'.get? b = some o) → J wr x h')
    (hJ0 : ∀ wr h, (∀ b ∈ wr, s.heap.get? b = none) → Kp s.heap h → J wr x₀ h) (src : TSrc (B.on Y) ρ target iter ds) (tg : ∀ d ∈ ds, Tg B target xs d (f d)) (h0 : inv 0 x₀) (hρ : Sub (R x₀) ρ) 
    (step : ∀ wr K' i x d s', (∀ b x, K b x → K' b x) → (∀ b x, K' b x → K b x ∨ b ∉ Y ++ B.X) → ds[i]? = some d → inv i x → St B sin K' (wr ++ Y) (f d ++ R x) none s' → J wr x s'.heap →
      wpAny (model B.prog B.w) B.A (execs body B.env) (LPJ B sin K' (wr ++ Y) R (J wr) (inv (i + 1)) Q) (notedBy (model B.prog B.w) B.A B.env fun e s' => cameBackBy (model B.prog B.w) B.A B.env E e s') s')
    (fin : ∀ wr x s', inv ds.length x → St B sin K Y (R x) none s' → J wr x s'.heap → wpAny (model B.prog B.w) B.A (execs rest B.env) Q E s')
    (hs : ∀ x, foldedSetIterable iter B.env x = pure x := by intro _; rfl) :
    wpAny (model B.prog B.w) B.A (execs (.For target iter body [] pos :: rest) B.env) Q E s := by
  refine wpAny_execs_cons (wpAny_For (wpAny_mono (src s E S.pre) (fun xv s₁ h₁ => wpAny_mono h₁ (fun it s₂ h₂ => ?_) fun _ _ e => e) fun _ _ e => e) hs)
  obtain ⟨I, fp, wr, Z, rfl, T, z0, hf, k⟩ := h₂
  have S₂ := (S.bar k hf (T.live 0 _ z0)).weak (Sub.at hρ)
  have offY : ∀ b ∈ fp, b ∉ Y ++ B.X := T.off
  have nK : ∀ b ∈ wr, ∀ q, ¬ K b q := fun b m q z => by have := S.kept b q z; rw [hf b m] at this; cases this
  obtain ⟨⟨qp, hqp⟩, hpL, hpC⟩ := hp
  have hpw : p ∉ wr := fun m => by rw [hf p m] at hqp; cases hqp
  have j0 := hJ0 wr s₂.heap hf (kpH k)
  have wl : ∀ b ∈ wr, b ≠ B.env.locals ∧ (∀ y c, B.env.cells.lookup y = some c → b ≠ c) := fun b m =>
    ⟨fun w => offY b (T.sub b m) (List.mem_append.mpr (.inl (w ▸ S.loc))), fun y c e w => offY b (T.sub b m) (List.mem_append.mpr (.inl (w ▸ (S.cel y c e).1)))⟩
  refine codeAny_forLoop_any (fun k s' => ∃ i x, k = ds.length + 1 - i ∧ i ≤ ds.length ∧ inv i x ∧ Z i s'.heap ∧ St B sin K (wr ++ Y) (R x) none s' ∧ J wr x s'.heap ∧ KpOff (wr ++ (Y ++ B.X)) s₂.heap s'.heap) ?_ (ds.length + 1) ⟨0, x₀, rfl, Nat.zero_le _, h0, z0, S₂, j0, Kp.to fun _ _ e => e⟩
  rintro n s' ⟨i, x, rfl, hi, hx, z, S', j, kk⟩
  have liv : ∀ a ∈ Y ++ B.X, ∃ o, s'.heap.get? a = some o := fun a m => S'.pre.liv a (by show a ∈ (wr ++ Y) ++ B.X; rw [List.append_assoc]; exact List.mem_append.mpr (.inr m))
  by_cases hlt : i < ds.length
  · have hd : ds[i]? = some ds[i] := List.getElem?_eq_getElem hlt
    let I' : Nat → Shared → Prop := fun k s' => ∃ i x, k = ds.length + 1 - i ∧ i ≤ ds.length ∧ inv i x ∧ Z i s'.heap ∧ St B sin K (wr ++ Y) (R x) none s' ∧ J wr x s'.heap ∧ KpOff (wr ++ (Y ++ B.X)) s₂.heap s'.heap
    let E' : Value → Shared → Prop := notedBy (model B.prog B.w) B.A B.env fun e s' => cameBackBy (model B.prog B.w) B.A B.env E e s'
    let Q' : Value → Shared → Prop := fun v s₁' => wpAny (model B.prog B.w) B.A (assign target B.env v) (fun _ s₂ => wpAny (model B.prog B.w) B.A (execs body B.env) (fun f s₃ => match f with
            | .next | .cont => ∃ m, m < ds.length + 1 - i ∧ I' m s₃
            | .brk => Then B rest Q E .next s₃
            | .ret v => Then B rest Q E (.ret v) s₃) E' s₂) E' s₁'
    refine wpAny_mono (T.turn i _ s' Q' E' hd z liv kk fun v h' tk hv z' k' => ?_) (fun r s₁ h₁ => ?_) fun _ _ e => e
    rotate_left 1
    · obtain ⟨v, rfl, h₁⟩ := h₁
      exact h₁
    · show wpAny _ _ (assign target B.env v) _ _ _
      have S₃ : St B sin K (wr ++ Y) (R x) none { s' with heap := h', toks := tk } := S'.turn (fun b m => ⟨List.mem_append.mpr (.inl m), nK b m, (wl b m).1, (wl b m).2, fun q e => (nomatch e), T.live _ _ z' b m⟩) k' ⟨tk, rfl⟩
      have kk' : KpOff (wr ++ (Y ++ B.X)) s₂.heap h' := fun b q n e => k' b q (fun m => n (List.mem_append.mpr (.inl m))) (kk b q n e)
      have hY : ∀ a, a ∉ Y ++ B.X → a ≠ B.env.locals ∧ (∀ y c, B.env.cells.lookup y = some c → a ≠ c) := fun a n =>
        ⟨fun w => n (List.mem_append.mpr (.inl (w ▸ S.loc))), fun y c e w => n (List.mem_append.mpr (.inl (w ▸ (S.cel y c e).1)))⟩
      have S₄ := S₃.stay (W := fun a x => (a ∉ Y ++ B.X ∨ a = p) ∧ h'.get? a = some x) fun a x w => ⟨w.2, w.1.elim (fun n => (hY a n).1) (fun e => by rw [e]; exact hpL), w.1.elim (fun n => (hY a n).2) (fun e => by rw [e]; exact hpC), fun z e => (nomatch e)⟩
      have j' : J wr x h' := hJ wr x _ _ j fun b o n e => k' b o (fun m => n.elim (fun q => q (List.mem_append.mpr (.inl m))) fun q => hpw (q ▸ m)) e
      have hv' : Is ((wr ++ Y) ++ B.X) h' v ds[i] := by rw [List.append_assoc]; exact hv
      refine tg _ (List.getElem_mem hlt) S₄ hv' (fun q e => (nomatch e)) fun s₄ S₅ => ?_
      have j₄ : J wr x s₄.heap := hJ wr x _ _ j' fun b o n e => S₅.kept b o (.inr ⟨n.imp_left fun q m => q (List.mem_append.mpr (.inr m)), e⟩)
      have S₅ := S₅.less (K' := fun a x => K a x ∨ (a ∉ Y ++ B.X ∧ h'.get? a = some x)) (fun b x k => k.imp_right fun w => ⟨.inl w.1, w.2⟩) (fun b x e => .inl (S.low b x e)) (fun b x e => .inl (S.old b x e))
      refine wpAny_mono (step wr _ i x _ s₄ (fun b x k => .inl k) (fun b x k => k.imp_right fun w => w.1) hd hx S₅ j₄) (fun g s₅ hg => ?_) fun _ _ e => e
      have fin : (∃ x, inv (i + 1) x ∧ St B sin (fun a x => K a x ∨ (a ∉ Y ++ B.X ∧ h'.get? a = some x)) (wr ++ Y) (R x) none s₅ ∧ J wr x s₅.heap) → ∃ m, m < ds.length + 1 - i ∧ I' m s₅ := by
        rintro ⟨x', hx', S₆, j₆⟩
        refine ⟨ds.length + 1 - (i + 1), by omega, i + 1, x', rfl, hlt, hx', T.frame _ _ _ z' fun b hb q e => ?_, S₆.less (fun b x k => .inl k) S.low S.old, j₆, fun b q n e => ?_⟩
        · exact S₆.kept b q (.inr ⟨offY b hb, e⟩)
        · exact S₆.kept b q (.inr ⟨fun m => n (List.mem_append.mpr (.inr m)), kk' b q n e⟩)
      cases g with
      | next => exact fin hg
      | cont => exact fin hg
      | brk => exact hg.elim
      | ret v => exact hg
  · have e : i = ds.length := by omega
    subst e
    refine T.done _ _ _ z fun h' tk k' => wpAny_execs_nil ?_
    exact fin wr x _ hx (S'.free S.loc (fun y c e => (S.cel y c e).1) (fun q e => (nomatch e)) (fun b m => ⟨offY b (T.sub b m), nK b m⟩) k' ⟨tk, rfl⟩) (hJ wr x _ _ j fun b o n e => k' b o (fun m => n.elim (fun q => q (List.mem_append.mpr (.inl m))) fun q => hpw (q ▸ m)) e)
end
end Mine
end

section
set_option maxRecDepth 100000
namespace Mine

/-! the plain law: sorting by the last key first, stable, is sorting by all keys -/
noncomputable def aheadFrom (k : Nat) (ks : List (Str × Bool)) (r o : Row) : Bool := match aheadW (ks.drop k) (r.2.drop k) (o.2.drop k) with
  | some b => b
  | none => decide (r.1 < o.1)
theorem aheadFrom_zero (ks : List (Str × Bool)) (r o : Row) : aheadFrom 0 ks r o = ahead ks r o := rfl
theorem aheadFrom_end (ks : List (Str × Bool)) (r o : Row) : aheadFrom ks.length ks r o = decide (r.1 < o.1) := by
  unfold aheadFrom
  rw [List.drop_length]
  rfl
theorem aheadFrom_step {ks : List (Str × Bool)} {r o : Row} {k : Nat} {key : Str × Bool} {a b : Int} (h1 : ks[k]? = some key) (h2 : r.2[k]? = some a) (h3 : o.2[k]? = some b) :
    aheadFrom k ks r o = if a = b then aheadFrom (k + 1) ks r o else (decide (a < b) != key.2) := by
  unfold aheadFrom
  rw [aheadW_drop h1 h2 h3]
  by_cases h : a = b
  · rw [if_pos h, if_pos h]
  · rw [if_neg h, if_neg h]

theorem map_range_getD (rs : List Row) : (List.range rs.length).map (fun i => rs.getD i (0, [])) = rs := by
  apply List.ext_getElem?
  intro i
  rw [List.getElem?_map]
  by_cases h : i < rs.length
  · rw [List.getElem?_range h, List.getElem?_eq_getElem h]
    show some (rs.getD i (0, [])) = _
    rw [List.getD_eq_getElem?_getD, List.getElem?_eq_getElem h]
    rfl
  · rw [List.getElem?_eq_none (by rw [List.length_range]; omega), List.getElem?_eq_none (by omega)]
    rfl
theorem StRows.perm {b : Bool} {kz : List Int} {rs rs' : List Row} (h : StRows b kz rs rs') : rs'.Perm rs := by
  obtain ⟨idx, hp, rfl, _⟩ := h
  have := hp.map fun i => rs.getD i (0, [])
  rwa [map_range_getD] at this

theorem StRows.pair {b : Bool} {kz : List Int} {rs rs' : List Row} {T : Row → Row → Prop} (h : StRows b kz rs rs')
    (hT : ∀ i j r o, rs[i]? = some r → rs[j]? = some o → ((if b then kz.getD j 0 < kz.getD i 0 else kz.getD i 0 < kz.getD j 0) ∨ (kz.getD i 0 = kz.getD j 0 ∧ i < j)) → T r o) : rs'.Pairwise T := by
  obtain ⟨idx, hp, rfl, hw⟩ := h
  rw [List.pairwise_map]
  have hi : ∀ i ∈ idx, i < rs.length := fun i m => List.mem_range.mp (hp.mem_iff.mp m)
  refine List.Pairwise.imp_of_mem ?_ hw
  intro i j mi mj hij
  refine hT i j _ _ ?_ ?_ hij
  · rw [List.getD_eq_getElem?_getD, List.getElem?_eq_getElem (hi i mi)]; rfl
  · rw [List.getD_eq_getElem?_getD, List.getElem?_eq_getElem (hi j mj)]; rfl

theorem sorted_first {ks : List (Str × Bool)} {rs rs' : List Row} (hn : (rs.map (·.1)).Nodup) (h : StRows false (rs.map (·.1)) rs rs') : rs'.Pairwise fun r o => aheadFrom ks.length ks r o = true := by
  refine h.pair fun i j r o hi hj hij => ?_
  rw [aheadFrom_end]
  have e1 : (rs.map (·.1)).getD i 0 = r.1 := by rw [List.getD_eq_getElem?_getD, List.getElem?_map, hi]; rfl
  have e2 : (rs.map (·.1)).getD j 0 = o.1 := by rw [List.getD_eq_getElem?_getD, List.getElem?_map, hj]; rfl
  rw [e1, e2] at hij
  simp only [Bool.false_eq_true, if_false] at hij
  rcases hij with h | ⟨h, hlt⟩
  · simpa using h
  · exfalso
    have hi' := (List.getElem?_eq_some_iff.mp hi).1
    have hj' := (List.getElem?_eq_some_iff.mp hj).1
    have pw := List.pairwise_iff_getElem.mp hn i j (by rw [List.length_map]; exact hi') (by rw [List.length_map]; exact hj') hlt
    rw [List.getElem_map, List.getElem_map] at pw
    have q1 := (List.getElem?_eq_some_iff.mp hi).2
    have q2 := (List.getElem?_eq_some_iff.mp hj).2
    rw [q1, q2] at pw
    exact pw h

noncomputable def worths (k : Nat) (rs : List Row) : List Int := rs.map fun r => r.2.getD k 0
theorem sorted_next {ks : List (Str × Bool)} {rs rs' : List Row} {k : Nat} {key : Str × Bool} (hk : ks[k]? = some key) (hl : ∀ r ∈ rs, r.2.length = ks.length) (h : StRows key.2 (worths k rs) rs rs')
    (hw : rs.Pairwise fun r o => aheadFrom (k + 1) ks r o = true) : rs'.Pairwise fun r o => aheadFrom k ks r o = true := by
  have hkl : k < ks.length := (List.getElem?_eq_some_iff.mp hk).1
  refine h.pair fun i j r o hi hj hij => ?_
  obtain ⟨a, ha⟩ : ∃ a, r.2[k]? = some a := ⟨_, List.getElem?_eq_getElem (by rw [hl r (List.mem_of_getElem? hi)]; exact hkl)⟩
  obtain ⟨b, hb⟩ : ∃ a, o.2[k]? = some a := ⟨_, List.getElem?_eq_getElem (by rw [hl o (List.mem_of_getElem? hj)]; exact hkl)⟩
  have e1 : (worths k rs).getD i 0 = a := by rw [worths, List.getD_eq_getElem?_getD, List.getElem?_map, hi]; show r.2.getD k 0 = a; rw [List.getD_eq_getElem?_getD, ha]; rfl
  have e2 : (worths k rs).getD j 0 = b := by rw [worths, List.getD_eq_getElem?_getD, List.getElem?_map, hj]; show o.2.getD k 0 = b; rw [List.getD_eq_getElem?_getD, hb]; rfl
  rw [aheadFrom_step hk ha hb]
  rw [e1, e2] at hij
  rcases hij with h | ⟨h, hlt⟩
  · cases hr : key.2 with
    | true =>
      rw [hr] at h
      simp only [if_true] at h
      rw [if_neg (by omega)]
      have : ¬ a < b := by omega
      simp [this]
    | false =>
      rw [hr] at h
      simp only [Bool.false_eq_true, if_false] at h
      rw [if_neg (by omega)]
      simp [h]
  · rw [if_pos h]
    have hi' := (List.getElem?_eq_some_iff.mp hi).1
    have hj' := (List.getElem?_eq_some_iff.mp hj).1
    have pw := List.pairwise_iff_getElem.mp hw i j hi' hj' hlt
    rw [(List.getElem?_eq_some_iff.mp hi).2, (List.getElem?_eq_some_iff.mp hj).2] at pw
    exact pw
end Mine
end

section
set_option maxRecDepth 100000
namespace Mine

theorem ev_free {C : Cx} {ρ : List (Str × PyData)} {x : Str} {c : Addr} {i : Int} {t : Tok} {p : Pos} (hk : C.env.kindOf x = some .free) (hc : C.env.cells.lookup x = some c) (h : C.hB.IsCell c (some (.int i t)))
    (hd : (x == ("__debug__" : Str)) = false := by decide) (hn : (x == ("__classdict__" : Str)) = false := by decide) : Ev C ρ (.Name x p) (.int i) := fun s _ P =>
  wpAny_Name (wpAny_loadName_free P.ok.kind hk hc (h.keeps P.base) ⟨keeps_refl s, .int _ _⟩ hn) hd

structure RowsBase (hB : Heap) : Prop where
  at' : ∃ o pm doc, hB.get? 92 = some o ∧ o.data = .func (Calls.docDef (fname 11) (fparams 11) (fbody 11) (fscope 11) pm (.ref 91) doc) ∧ hB.CodeRec (.ref 91) (fname 11)

noncomputable abbrev ghost89 (h : Heap) : Heap := ghostOf h [(91, 89)]
theorem ghost89_of {h : Heap} {b : Addr} {o : Obj} (e : (ghost89 h).get? b = some o) : h.get? b = some o := of_hideAll _ e
theorem ghost89_to {h : Heap} {b : Addr} {o : Obj} (n : b ≠ 89) (e : h.get? b = some o) : (ghost89 h).get? b = some o := ghost_ne e fun m => n (List.mem_singleton.mp m)
theorem ghost89_none {h : Heap} : (ghost89 h).get? 89 = none := hideAll_none _ (List.mem_singleton.mpr rfl)
theorem ghost89_fresh {h : Heap} {b : Addr} (e : h.get? b = none) : (ghost89 h).get? b = none := ghost_fresh e

noncomputable abbrev env11 (L : Addr) : Env := envOfC (fname 11) (fscope 11) L 92 (.ref 91)
section
variable {prog : Program} {w : World} {hB : Heap}

theorem st_enter11 {A : Around} {X : List Addr} {s : Shared} {h₁ : Heap} {tk : Nat} {v₁ v₂ : Value} {d₁ d₂ : PyData} {cm : Str → Option Value}
    (g : Good 1 A) (lb : LamBase hB) (base : Kp hB s.heap) (liv : ∀ a ∈ X, ∃ o, s.heap.get? a = some o) (h89 : 89 ∈ X) (hv : IsAll X s.heap [v₁, v₂] [d₁, d₂]) (F : Fr s.heap s.heap.objs.size h₁ (fun y => if y = "rows" then some v₂ else if y = "keys" then some v₁ else none))
    (Cc : Cl s.heap.objs.size [("at", s.heap.objs.size + 1)] h₁ cm) :
    St ⟨prog, w, hB, A, X, env11 s.heap.objs.size⟩ { s with heap := ghost89 s.heap } (fun b x => (ghost89 s.heap).get? b = some x) [s.heap.objs.size, s.heap.objs.size + 1, 89] [("keys", d₁), ("rows", d₂)] none { s with heap := h₁, toks := tk } := by
  have k : Kp s.heap h₁ := F.keep
  have nL : s.heap.get? s.heap.objs.size = none := next_none _
  have nC : s.heap.get? (s.heap.objs.size + 1) = none := Heap.get?_none_of_le (Nat.le_succ _)
  have up : Up X s.heap ([s.heap.objs.size, s.heap.objs.size + 1, 89] ++ X) h₁ := fun a o n e => ⟨fun m => by
    rcases List.mem_append.mp m with m | m
    · simp only [List.mem_cons, List.not_mem_nil, or_false] at m
      rcases m with rfl | rfl | rfl
      · rw [nL] at e; cases e
      · rw [nC] at e; cases e
      · exact n h89
    · exact n m, k a o e⟩
  have cellAt := Cc.cell "at" _ rfl
  have q₁ : Is X s.heap v₁ d₁ := by cases hv with | cons a r => exact a
  have q₂ : Is X s.heap v₂ d₂ := by cases hv with | cons a r => cases r with | cons b r => exact b
  refine ⟨⟨⟨g, rfl, rfl, rfl⟩, base.trans k, fun b m => ?_, ?_⟩, ⟨h₁, tk, rfl⟩, fun b x e => k b x (ghost89_of e), .head _, fun x e => ?_, ⟨_, F.ns⟩, fun y c e => ?_, fun y z c e e' => ?_, fun q e => (nomatch e), fun b x e => ghost89_to (fun q => by rw [q, lb.t] at e; cases e) (base b x e), fun b x e => e⟩
  · rcases List.mem_append.mp m with m | m
    · simp only [List.mem_cons, List.not_mem_nil, or_false] at m
      rcases m with rfl | rfl | rfl
      · obtain ⟨o, es, ep, e, _⟩ := F.ns
        exact ⟨o, e⟩
      · obtain ⟨o, e, _⟩ := cellAt
        exact ⟨o, e⟩
      · obtain ⟨o, e⟩ := liv _ h89
        exact ⟨o, k _ o e⟩
    · obtain ⟨o, e⟩ := liv b m
      exact ⟨o, k b o e⟩
  · refine vars_cons (fun y e hy h => ?_) ⟨v₁, .inl ⟨rfl, _, F.ns, rfl⟩, q₁.up up⟩
    rw [List.lookup_cons] at h
    cases q : y == ("rows" : Str) with
    | false => rw [q] at h; cases h
    | true =>
      rw [q] at h
      cases h
      rw [eq_of_beq q]
      exact ⟨v₂, .inl ⟨rfl, _, F.ns, rfl⟩, q₂.up up⟩
  · have e : (ghost89 s.heap).get? s.heap.objs.size = some x := e
    rw [ghost89_fresh nL] at e; cases e
  · have e : List.lookup y [(("at" : Str), s.heap.objs.size + 1)] = some c := e
    rw [List.lookup_cons] at e
    cases q : y == ("at" : Str) with
    | false => rw [q] at e; cases e
    | true =>
      rw [q] at e
      cases e
      refine ⟨.tail _ (.head _), Nat.succ_ne_self _, fun x z => ?_, _, cellAt⟩
      have z : (ghost89 s.heap).get? (s.heap.objs.size + 1) = some x := z
      rw [ghost89_fresh nC] at z; cases z
  · have e : List.lookup y [(("at" : Str), s.heap.objs.size + 1)] = some c := e
    have e' : List.lookup z [(("at" : Str), s.heap.objs.size + 1)] = some c := e'
    rw [List.lookup_cons] at e e'
    cases q : y == ("at" : Str) with
    | false => rw [q] at e; cases e
    | true =>
      cases q' : z == ("at" : Str) with
      | false => rw [q'] at e'; cases e'
      | true => rw [eq_of_beq q, eq_of_beq q']
end
end Mine
end

section
set_option maxRecDepth 100000
namespace Mine

noncomputable def rowNum : PyData → PyData
  | .tuple (.int i :: _) => .int i
  | d => d
/-- what the table says between two turns -/
noncomputable def Jt (qual : Str) (pos : Pos) (X : List Addr) (wr : List Addr) (x : List Row × Option (Addr × Obj)) (h : Heap) : Prop :=
  ∃ ps, h.get? 89 = some (tabObj ps) ∧ TabF pos qual ps x.2 ∧ ∀ c oc, x.2 = some (c, oc) → h.get? c = some oc ∧ c ∉ wr ++ X

theorem down_get {n i : Nat} {d : PyData} (h : (downFrom n)[i]? = some d) : i < n ∧ d = .int ((n - 1 - i : Nat) : Nat) := by
  have hi : i < n := by
    have := (List.getElem?_eq_some_iff.mp h).1
    rwa [show (downFrom n).length = n by simp [downFrom]] at this
  refine ⟨hi, ?_⟩
  have : (downFrom n)[i]? = some (.int ((n : Int) - 1 - (i : Nat))) := by simp [downFrom, hi]
  rw [h] at this
  cases this
  congr 1
  omega

section
variable {prog : Program} {w : World} {hB : Heap}

abbrev RowsRet (sin : Shared) (X : List Addr) (ks : List (Str × Bool)) (rs : List Row) (f : Flow) (s' : Shared) : Prop :=
  ∃ (v : Value) (rs' : List Row), f = .ret v ∧ Keeps sin s' ∧ (∃ ps, s'.heap.get? 89 = some (tabObj ps)) ∧ rs'.Perm rs ∧ (rs'.Pairwise fun r o => ahead ks r o = true) ∧ Is X s'.heap v (.list (rs'.map fun r => .int r.1))
theorem walk_rows (b : Base hB) (lb : LamBase hB) {A : Around} {X : List Addr} {L : Addr} {s sin : Shared} {E : Value → Shared → Prop} {ks : List (Str × Bool)} {rs : List Row} {K : Addr → Obj → Prop} (g : Good 8 A)
    (hks : ks.length ≤ 900) (hrs : rs.length < 64) (hlen : ∀ r ∈ rs, r.2.length = ks.length) (hnd : (rs.map (·.1)).Nodup) (n89 : ∀ q, ¬ K 89 q) (hL : L > 89)
    (S : St ⟨prog, w, hB, A, X, env11 L⟩ sin K [L, L + 1, 89] [("keys", keysD ks), ("rows", rowsD rs)] none s) (h89 : s.heap.get? 89 = some (tabObj #[])) :
    wpAny (model prog w) A (execs (fbody 11) (env11 L)) (RowsRet sin X ks rs) E s := by
  have hL' : (89 : Nat) < L := hL
  have f89 : Free89 ⟨prog, w, hB, A, X, env11 L⟩ K [L, L + 1, 89] := ⟨.tail _ (.tail _ (.head _)), n89, Nat.ne_of_lt hL', fun y c e => by
    have e : List.lookup y [(("at" : Str), L + 1)] = some c := e
    rw [List.lookup_cons] at e
    cases q : y == ("at" : Str) with
    | false => rw [q] at e; cases e
    | true => rw [q] at e; cases e; exact Nat.ne_of_lt (Nat.lt_succ_of_lt hL')⟩
  refine ex_sort1 (rs := rs) (kz := rs.map (·.1)) (y := "row") S g lb b.lim f89 b.bSorted rfl (.inl rfl) (ev_name rfl) hnd (List.length_map ..) hrs ⟨rfl, rfl, fun pm ctv c' v => rfl, rfl, by decide, rfl, rfl, rfl, ?_⟩ rfl (code := none) h89 ⟨trivial, rfl⟩ (fun a q e => (nomatch e)) ?_
  · intro s' k A' X' L' f c' i r z hr hz
    rw [List.getElem?_map, hr] at hz
    cases hz
    exact ev_tupItem (i := 0) (ev_name rfl) ev_int (by decide) (by decide) rfl
  · intro s₁ rs₁ ps₁ c₁ oc₁ hst S₁ t₁ T₁ _ _ hps
    have hps := hps rfl
    subst hps
    refine ex_forJ (xs := ["at"]) (f := fun d => [("at", d)]) (ds := downFrom ks.length) (fun x : List Row × Option (Addr × Obj) => [("found", rowsD x.1), ("keys", keysD ks)]) 89
      (fun wr x h => Jt ((env11 L).qual ++ "<lambda>") ⟨47, 34, 47, 56⟩ ([L, L + 1, 89] ++ X) wr x h)
      (fun i x => x.1.Perm rs ∧ x.1.Pairwise fun r o => aheadFrom (ks.length - i) ks r o = true) (rs₁, none) S₁ ⟨⟨_, t₁⟩, f89.loc, f89.cel⟩ ?_ ?_
      (tsrc_down b.bRange rfl (ev_sub (ev_eq (ev_bi b.bLen rfl (evs_cons (ev_name rfl) evs_nil) (bi_len (by rw [List.length_map]; omega))) (by rw [List.length_map])) ev_int) (ev_neg ev_int) (ev_neg ev_int) (by omega)) ?_ ?_ ⟨rfl, rfl, trivial⟩ ?_ ?_
    · rintro wr x h h' ⟨ps, a1, a2, a3⟩ k
      exact ⟨ps, k _ _ (.inr rfl) a1, a2, fun c oc e => ⟨k _ _ (.inl (a3 c oc e).2) (a3 c oc e).1, (a3 c oc e).2⟩⟩
    · intro wr h hw k
      exact ⟨_, k _ _ t₁, ⟨T₁.1, by simp [codeAmong, rawInt]⟩, fun c oc e => (nomatch e)⟩
    · intro d hd
      exact tg_name (.inr ⟨rfl, _, rfl⟩)
    · exact ⟨hst.perm, sorted_first hnd hst⟩
    · rintro wr K' i ⟨rs₂, code⟩ d s₂ hK hK' hd ⟨hp, hw⟩ S₂ ⟨ps, a1, a2, a3⟩
      obtain ⟨hi, rfl⟩ := down_get hd
      simp only at hp hw a2 a3
      have hkl : ks.length - 1 - i < ks.length := by omega
      obtain ⟨key, hkey⟩ : ∃ key, ks[ks.length - 1 - i]? = some key := ⟨_, List.getElem?_eq_getElem hkl⟩
      have f89' : Free89 ⟨prog, w, hB, A, X, env11 L⟩ K' (wr ++ [L, L + 1, 89]) := ⟨List.mem_append.mpr (.inr f89.mem), fun q z => (hK' _ _ z).elim (n89 q) fun n => n (List.mem_append.mpr (.inl f89.mem)), f89.loc, f89.cel⟩
      have hl2 : ∀ r ∈ rs₂, r.2.length = ks.length := fun r m => hlen r (hp.mem_iff.mp m)
      -- the cell
      obtain ⟨v, hat, hiv⟩ := S₂.pre.vars "at" _ rfl
      have hcell : ∃ t, s₂.heap.IsCell (L + 1) (some (.int ((ks.length - 1 - i : Nat) : Nat) t)) := by
        cases hiv
        rcases hat with ⟨a, _⟩ | ⟨_, c, e, hc⟩
        · cases a
        · have e : some (L + 1) = some c := e
          cases e
          exact ⟨_, hc⟩
      obtain ⟨t, oc, hoc, hocd⟩ := hcell
      refine ex_sort2 (rs := rs₂) (kz := worths (ks.length - 1 - i) rs₂) (b := key.2) (y := "row") (clos := [("at", L + 1)]) S₂ g lb b.lim f89' b.bSorted rfl (.inl rfl) (ev_name rfl) ?_ ((hp.map _).nodup_iff.mpr hnd) (by rw [worths, List.length_map]) (by rw [hp.length_eq]; exact hrs) ⟨rfl, rfl, fun pm ctv c' v => rfl, rfl, by decide, rfl, rfl, rfl, ?_⟩ rfl a1 a2 (fun c oc e => (a3 c oc e).1) ?_
      · exact ev_tupItem (i := 1) (ev_item (d := keyD key) (ev_name rfl) (ev_name rfl) (by omega) (by omega) (by rw [List.getElem?_map, Int.toNat_natCast, hkey]; rfl)) ev_int (by decide) (by decide) rfl
      · intro s' k A' X' L' f c' j r z hr hz
        have hrl := hl2 r (List.mem_of_getElem? hr)
        obtain ⟨a, ha⟩ : ∃ a, r.2[ks.length - 1 - i]? = some a := ⟨_, List.getElem?_eq_getElem (by omega)⟩
        rw [worths, List.getElem?_map, hr] at hz
        have hz : r.2.getD (ks.length - 1 - i) 0 = z := by simpa using hz
        rw [List.getD_eq_getElem?_getD, ha] at hz
        have hz : a = z := hz
        subst hz
        refine ev_item (ev_tupItem (i := 1) (ev_name rfl) ev_int (by decide) (by decide) rfl) (ev_free (c := L + 1) (i := ((ks.length - 1 - i : Nat) : Nat)) (t := t) rfl rfl ⟨oc, ?_, hocd⟩) (by omega) (by omega) (by rw [List.getElem?_map, Int.toNat_natCast, ha]; rfl)
        exact k _ _ (fun m => absurd (List.mem_singleton.mp m) (Nat.ne_of_gt (Nat.lt_succ_of_lt hL'))) hoc
      · intro s₃ rs₃ ps₃ c₃ oc₃ hst₃ S₃ t₃ T₃ hc₃ hor _
        refine ex_nil ⟨(rs₃, some (c₃, oc₃)), ⟨hst₃.perm.trans hp, ?_⟩, S₃.weak (Sub.at ⟨rfl, rfl, trivial⟩), ps₃, t₃, T₃, fun c oc e => ?_⟩
        · have e1 : ks.length - (i + 1) = ks.length - 1 - i := by omega
          have e2 : ks.length - i = ks.length - 1 - i + 1 := by omega
          rw [e2] at hw
          show rs₃.Pairwise _
          rw [e1]
          exact sorted_next hkey hl2 hst₃ hw
        · cases e
          refine ⟨hc₃, ?_⟩
          rcases hor with z | z
          · intro m
            obtain ⟨o, q⟩ := S₂.pre.liv c₃ (by show c₃ ∈ (wr ++ [L, L + 1, 89]) ++ X; rw [List.append_assoc]; exact m)
            rw [z] at q
            cases q
          · exact (a3 _ _ z).2
    · rintro wr ⟨rs₂, code⟩ s₂ ⟨hp, hw⟩ S₂ ⟨ps, a1, _⟩
      have e0 : (downFrom ks.length).length = ks.length := by simp [downFrom]
      rw [e0, Nat.sub_self] at hw
      refine wpAny_execs_cons (wpAny_Return_some (wpAny_mono ((ev_comp rowNum (src_list (ev_name rfl)) (by rw [List.length_map, hp.length_eq]; omega) rfl (by decide) rfl (by decide) rfl caught_nil ?_ fun c d hd => ?_ : Ev (Cx.on ⟨prog, w, hB, A, X, env11 L⟩ [L, L + 1, 89]) _ _ (.list ((rs₂.map rowD).map rowNum))) s₂ E S₂.pre) (fun v s₃ h₃ => ?_) fun _ _ e => e))
      · intro d hd
        obtain ⟨r, _, rfl⟩ := List.mem_map.mp hd
        rfl
      · obtain ⟨r, _, rfl⟩ := List.mem_map.mp hd
        exact ev_tupItem (i := 0) (ev_name rfl) ev_int (by decide) (by decide) rfl
      · obtain ⟨k, q⟩ := h₃
        have S₃ := S₂.keep k
        obtain ⟨h', tk, e⟩ := S₃.same
        refine ⟨v, rs₂, rfl, ⟨s₃.heap, s₃.toks, by rw [e], fun b x z => S₃.kept b x (S₃.old b x z)⟩, ⟨ps, (kpH k) _ _ a1⟩, hp, hw, ev_val (q.up (Up.less fun b hb => List.mem_append.mpr (.inr hb))) ?_⟩
        rw [List.map_map]
        rfl

theorem call_rows (b : Base hB) (lb : LamBase hB) (rb : RowsBase hB) {A : Around} {X : List Addr} {s : Shared} {E : Value → Shared → Prop} {vs : List Value} {ks : List (Str × Bool)} {rs : List Row} (g : Good 10 A)
    (hks : ks.length ≤ 900) (hrs : rs.length < 64) (hlen : ∀ r ∈ rs, r.2.length = ks.length) (hnd : (rs.map (·.1)).Nodup) (base : Kp hB s.heap) (liv : ∀ a ∈ X, ∃ o, s.heap.get? a = some o) (m89 : 89 ∈ X) (hv : IsAll X s.heap vs [keysD ks, rowsD rs])
    (h89 : s.heap.get? 89 = some (tabObj #[])) :
    wpAny (model prog w) A (call (.ref 92) vs) (fun v s' => (∃ h' tk, s' = { s with heap := h', toks := tk }) ∧ KpOff [89] s.heap s'.heap ∧ (∃ ps, s'.heap.get? 89 = some (tabObj ps)) ∧
      ∃ rs' : List Row, rs'.Perm rs ∧ (rs'.Pairwise fun r o => ahead ks r o = true) ∧ Is X s'.heap v (.list (rs'.map fun r => .int r.1))) E s := by
  obtain ⟨o, pm, doc, ho, hdat, hcd⟩ := rb.at'
  obtain ⟨v₁, v₂, rfl⟩ := two_of hv.length
  refine wpAny_call (PyProof.Rows.call_cells (binds := [("keys", v₁), ("rows", v₂)]) g.room (base _ _ ho) hdat (b.lim.keeps base) (hcd.keeps base) rfl (fun x m => .inl ?_) (fun h₁ tk F Cc => ?_) rfl rfl rfl)
  · rcases List.mem_cons.mp m with rfl | m
    · rfl
    · rw [List.mem_singleton.mp m]; rfl
  · have S := st_enter11 (prog := prog) (w := w) (A := A.deeper (env11 s.heap.objs.size)) (tk := tk) (g.deeper.mono (by omega)) lb base liv m89 hv F Cc
    have hL : s.heap.objs.size > 89 := Heap.lt_size h89
    refine wpAny_mono (walk_rows b lb (g.deeper.mono (by omega)) hks hrs hlen hnd (fun q z => by rw [ghost89_none] at z; cases z) hL S (F.keep _ _ h89) (E := fun _ _ => False)) (fun f s' h' => ?_) fun _ _ e => e.elim
    · obtain ⟨v, rs', rfl, k, t, hp, hw, q⟩ := h'
      obtain ⟨h2, tk2, rfl, kk⟩ := k
      exact ⟨⟨h2, tk2, rfl⟩, fun b o n z => kk b o (ghost89_to (fun e => n (List.mem_singleton.mpr e)) z), t, rs', hp, hw, q⟩
end
end Mine
end

section
set_option maxRecDepth 100000
namespace Mine

section
variable {B : Cx} {sin s : Shared} {K : Addr → Obj → Prop} {Y : List Addr} {ρ : List (Str × PyData)} {o : Option Own} {E : Value → Shared → Prop} {Q : Flow → Shared → Prop} {rest : List Stmt}

/-- the frame's own object has other slots: nothing is said of them -/
theorem St.slots {s' : Shared} (S : St B sin K Y ρ none s) (k : KeptF [B.env.locals] s.heap s'.heap) (e : ∃ h tk, s' = { s with heap := h, toks := tk }) : St B sin K Y ρ none s' := by
  have ex : ∀ b q, b ≠ B.env.locals → s.heap.get? b = some q → s'.heap.get? b = some q := fun b q n z => k.keep b q (fun m => n (List.mem_singleton.mp m)) z
  have fr : ∀ q, s.heap.get? B.env.locals = some q → ∃ sl, s'.heap.get? B.env.locals = some { q with slots := sl } := fun q z => k.fram _ q (List.mem_singleton.mpr rfl) z
  have up : Up (Y ++ B.X) s.heap (Y ++ B.X) s'.heap := Up.mod (W := [B.env.locals]) (fun b hb => by rw [List.mem_singleton.mp hb]; exact List.mem_append.mpr (.inl S.loc)) fun b q n z => ex b q (fun w => n (by rw [w]; exact List.mem_singleton.mpr rfl)) z
  have ns : ∀ m, s.heap.Ns B.env.locals m → s'.heap.Ns B.env.locals m := fun m n => by
    obtain ⟨ob, es, ep, z, d, r⟩ := n
    obtain ⟨sl, z'⟩ := fr ob z
    exact ⟨_, es, ep, z', d, r⟩
  have hC : ∀ y c, B.env.cells.lookup y = some c → c ≠ B.env.locals := fun y c e => (S.cel y c e).2.1
  have at2 : ∀ y u, At B.env s.heap y u → At B.env s'.heap y u := by
    intro y u a
    rcases a with ⟨a1, m1, n, e1⟩ | ⟨a1, c', e1, ob, e2, e3⟩
    · exact .inl ⟨a1, m1, ns m1 n, e1⟩
    · exact .inr ⟨a1, c', e1, ob, ex _ _ (hC y c' e1) e2, e3⟩
  refine ⟨⟨S.pre.ok, fun b q z => ex b q (fun w => S.off q (w ▸ S.low b q z)) (S.pre.base b q z), fun b m => ?_, fun y d hy => let ⟨u, p, r⟩ := S.pre.vars y d hy; ⟨u, at2 y u p, r.up up⟩⟩, ?_, fun b x q => ex b x (fun w => S.off x (w ▸ q)) (S.kept b x q), S.loc, S.off,
    let ⟨m, n⟩ := S.ns; ⟨m, ns m n⟩, fun y c hc => let ⟨a1, a2, a3, v, ob, e2, e3⟩ := S.cel y c hc; ⟨a1, a2, a3, v, ob, ex _ _ (hC y c hc) e2, e3⟩, S.inj, fun q hq => (nomatch hq), S.low, S.old⟩
  · obtain ⟨ob, z⟩ := S.pre.liv b m
    by_cases q : b = B.env.locals
    · rw [q] at z
      obtain ⟨sl, z'⟩ := fr ob z
      exact ⟨_, by rw [q]; exact z'⟩
    · exact ⟨ob, ex b ob q z⟩
  · obtain ⟨h, tk, rfl⟩ := S.same
    obtain ⟨h', tk', rfl⟩ := e
    exact ⟨h', tk', rfl⟩

/-- a return, with the frame's state behind it -/
theorem ex_returnS {e : Expr} {d : PyData} {pos : Pos} (S : St B sin K Y ρ o s) (he : Ev (B.on Y) ρ e d) (h : ∀ v s', St B sin K Y ρ o s' → Is (Y ++ B.X) s'.heap v d → Q (.ret v) s') :
    wpAny (model B.prog B.w) B.A (execs (.Return (some e) pos :: rest) B.env) Q E s :=
  wpAny_execs_cons (wpAny_Return_some (wpAny_mono (he s E S.pre) (fun v s' h' => h v s' (S.keep h'.1) h'.2) fun _ _ e => e))

/-- x, y = _law_heard(words) -/
theorem ex_heard {x y : Str} {px py pt pf pos p : Pos} {k : Nat} {e : Expr} {ws : List Str} {L : Addr} (S : St B sin K Y ρ none s) (b : Base B.hB) (fb : FaultBase B.hB) (g : Good 9 B.A) (hfr : B.A.frames = some [B.env]) (hL : B.env.frame = some L) (hLl : L = B.env.locals)
    (hk : B.env.kindOf "_law_heard" = some .globalImplicit) (he : Ev (B.on Y) ρ e (textsD ws)) (hw : ws.length ≤ 900) (hz : ∀ x ∈ ws, x.length ≤ 1000) (hx : Slot B.env x) (hy : Slot B.env y)
    (h : ∀ d₁ d₂ s', heardD (projRead 0 [] false (ws.map upTxt)) = .tuple [d₁, d₂] → St B sin K Y ((y, d₂) :: (x, d₁) :: ρ) none s' → wpAny (model B.prog B.w) B.A (execs rest B.env) Q E s')
    (hse : starEach [e] B.env = (false, eval e B.env) :: starEach [] B.env := by rfl)
    (hs : swapsWithSole [.Tuple [.Name x px, .Name y py] k pt] (.Call (.Name "_law_heard" pf) [e] [] pos) p.line B.env = pure false := by rfl) (hw' : swappedStores [.Tuple [.Name x px, .Name y py] k pt] (.Call (.Name "_law_heard" pf) [e] [] pos) B.env = pure none := by rfl) :
    wpAny (model B.prog B.w) B.A (execs (.Assign [.Tuple [.Name x px, .Name y py] k pt] (.Call (.Name "_law_heard" pf) [e] [] pos) p :: rest) B.env) Q E s := by
  subst hLl
  obtain ⟨o, pm, cd, doc, ho, hdat, hcd⟩ := b.f17.at'
  refine wpAny_execs_cons (PyProof.Rows.Assign_Tuple ?_ hs hw')
  refine PyProof.Rows.Call_ ?_
  refine gl_name (C := B.on Y) S.pre b.g17 hk ?_
  refine PyProof.Rows.callWith_def hdat (wpAny_mono ((evs_cons he evs_nil hse : Evs (B.on Y) ρ [e] [textsD ws]) pos s E S.pre) (fun vs s₁ h₁ => ?_) fun _ _ e => e) hse
  have S₁ := S.keep h₁.1
  have fm : [B.env].filterMap (·.frame) = [B.env.locals] := by simp [hL]
  have ff : FF s₁.heap [B.env] := by
    obtain ⟨m, ob, es, ep, z, d, r⟩ := S₁.ns
    exact ⟨by rw [show B.env.scope.kind = .function from S₁.pre.ok.kind]; decide, ⟨B.env.locals, ob, hL, base0_none _, z, fun vs q => by rw [d] at q; cases q⟩, trivial⟩
  refine ⟨S₁.pre.base _ _ ho, wpAny_mono (call_heard b fb ws hw hz g hfr ff ?_ S₁.pre.base S₁.pre.liv h₁.2) (fun v s₂ h₂ => ?_) fun _ _ e => e⟩
  · intro q m
    rw [fm] at m
    rw [List.mem_singleton.mp m]
    cases z : B.hB.get? B.env.locals with
    | none => rfl
    | some ob => exact absurd (S.low _ _ z) (S.off _)
  · obtain ⟨e₂, k₂, q₂⟩ := h₂
    rw [fm] at k₂
    have S₂ := S₁.slots k₂ e₂
    obtain ⟨d₁, d₂, hd⟩ : ∃ d₁ d₂, heardD (projRead 0 [] false (ws.map upTxt)) = .tuple [d₁, d₂] := by
      cases projRead 0 [] false (ws.map upTxt) with
      | ok ks => exact ⟨_, _, rfl⟩
      | error i => exact ⟨_, _, rfl⟩
    have q₂' : Is (Y ++ B.X) s₂.heap v (.tuple [d₁, d₂]) := by rw [← hd]; exact q₂
    exact asg_two S₂ q₂' hx hy (fun q e => (nomatch e)) fun s' S' _ => h d₁ d₂ s' hd S'

/-- order = sort_rows(keys, rows) -/
theorem ex_rows {K₀ : Addr → Obj → Prop} {x : Str} {px pf pos p : Pos} {e₁ e₂ : Expr} {ks : List (Str × Bool)} {rs : List Row} (S : St B sin K Y ρ none s) (b : Base B.hB) (lb : LamBase B.hB) (rb : RowsBase B.hB) (g : Good 10 B.A)
    (hk : B.env.kindOf "sort_rows" = some .globalImplicit) (he₁ : Ev (B.on Y) ρ e₁ (keysD ks)) (he₂ : Ev (B.on Y) ρ e₂ (rowsD rs)) (hx : Slot B.env x)
    (hks : ks.length ≤ 900) (hrs : rs.length < 64) (hlen : ∀ r ∈ rs, r.2.length = ks.length) (hnd : (rs.map (·.1)).Nodup)
    (h89 : K 89 (tabObj #[])) (hK : ∀ b x, K₀ b x → K b x) (low : ∀ b x, B.hB.get? b = some x → K₀ b x) (old : ∀ b x, sin.heap.get? b = some x → K₀ b x) (f89 : Free89 B K₀ Y)
    (h : ∀ (s' : Shared) (rs' : List Row) (ps : Array Value), rs'.Perm rs → (rs'.Pairwise fun r o => ahead ks r o = true) → St B sin (fun a q => K₀ a q ∨ (a = 89 ∧ q = tabObj ps)) Y ((x, .list (rs'.map fun r : Row => .int r.1)) :: ρ) none s' → wpAny (model B.prog B.w) B.A (execs rest B.env) Q E s')
    (hse : starEach [e₁, e₂] B.env = (false, eval e₁ B.env) :: starEach [e₂] B.env := by rfl) (hse' : starEach [e₂] B.env = (false, eval e₂ B.env) :: starEach [] B.env := by rfl)
    (hs : swapsWith (.Call (.Name "sort_rows" pf) [e₁, e₂] [] pos) (some (.Name x px)) p.line B.env = pure false := by rfl) :
    wpAny (model B.prog B.w) B.A (execs (.Assign [.Name x px] (.Call (.Name "sort_rows" pf) [e₁, e₂] [] pos) p :: rest) B.env) Q E s := by
  obtain ⟨o, pm, cd, doc, ho, hdat, hcd⟩ := b.f11.at'
  refine wpAny_execs_cons (wpAny_Assign_Name ?_ hs)
  refine PyProof.Rows.Call_ ?_
  refine gl_name (C := B.on Y) S.pre b.g11 hk ?_
  refine PyProof.Rows.callWith_def hdat (wpAny_mono ((evs_cons he₁ (evs_cons he₂ evs_nil hse') hse : Evs (B.on Y) ρ [e₁, e₂] [keysD ks, rowsD rs]) pos s E S.pre) (fun vs s₁ h₁ => ?_) fun _ _ e => e) hse
  have S₁ := S.keep h₁.1
  have S₁' := S₁.less hK low old
  refine ⟨S₁.pre.base _ _ ho, wpAny_mono (call_rows b lb rb g hks hrs hlen hnd S₁.pre.base S₁.pre.liv (List.mem_append.mpr (.inl f89.mem)) h₁.2 (S₁.kept _ _ h89)) (fun v s₂ h₂ => ?_) fun _ _ e => e⟩
  obtain ⟨⟨h', tk, rfl⟩, k₂, ⟨ps, t₂⟩, rs', hp, hw, q₂⟩ := h₂
  have S₂ := S₁'.turn89 f89 k₂ ⟨tk, rfl⟩ ⟨_, t₂⟩
  have S₃ := S₂.also t₂ f89.loc f89.cel fun z e => (nomatch e)
  exact st_store S₃ hx q₂ (fun q e => (nomatch e)) fun s' S' _ => h s' rs' ps hp hw S'
end

section
variable {C : Cx} {ρ : List (Str × PyData)}

theorem bi_sorted {ns ms : List Int} (hp : ms.Perm ns) (hw : ms.Pairwise (· ≤ ·)) (h64 : ns.length < 64) : Bi C ρ "sorted" [.list (ns.map .int)] (.list (ms.map .int)) := by
  intro s E vs P h
  cases h with
  | cons a r =>
    cases r
    cases a with
    | @list l vs _ n hl hr =>
      have hl2 := hr.length
      rw [List.length_map] at hl2
      refine sorted_ints hl hr.ints (by omega) fun out ns' a1 a2 a3 => ?_
      have e : ns' = ms := List.Perm.eq_of_pairwise (fun a b _ _ h1 h2 => Int.le_antisymm h1 h2) a3 hw (a2.trans hp.symm)
      subst e
      obtain ⟨c, hc⟩ := sortedAll_at s.heap vs out
      have k : Kp s.heap (sortedAll s.heap vs out) := fun b o z => sortedAll_old z
      refine ⟨⟨_, s.toks, rfl, k⟩, .list (vs := out.toList) (P.new (Nat.le_succ _)) ⟨_, hc, rfl, c, by rw [Array.toArray_toList]⟩ (IsAll.ofInts a1)⟩

/-- a tuple of texts at the top -/
theorem ev_gtup {x : Str} {a : Addr} {vs : List Value} {xs : List Str} {pos : Pos} (g : Gl C.hB x (.ref a)) (hx : C.env.kindOf x = some .globalImplicit) (ha : a ∉ C.X) (ht : C.hB.IsTuple a vs.toArray) (hs : StrsAre vs xs) (hd : (x == ("__debug__" : Str)) = false := by decide) : Ev C ρ (.Name x pos) (.tuple (xs.map .str)) := by
  intro s E P
  refine gl_name P g hx ⟨keeps_refl s, .tuple ha (let ⟨o, e, r⟩ := ht; ⟨o, P.base _ _ e, r⟩) ?_⟩ hd
  clear ht
  induction hs with
  | nil => exact .nil
  | cons x t r ih => exact .cons (.str _ _) ih

end
end Mine
end

section
set_option maxRecDepth 100000
namespace Mine

noncomputable def lawWords : List Str := ["REVERSE", "reverse", "arrival", "CC", "Date", "DISPLAYFROM", "DisplayTo", "from", "SIZE", "Subject", "TO", "SENT", ""]
theorem upper_word {x : Str} (h : x ∈ lawWords) : Txt.upper x = upTxt x := by
  have : (lawWords.all fun x => Txt.upper x == upTxt x) = true := by decide +kernel
  exact eq_of_beq (List.all_eq_true.mp this x h)
theorem word_len {x : Str} (h : x ∈ lawWords) : x.length ≤ 1000 := by
  have : (lawWords.all fun x => decide (x.length ≤ 1000)) = true := by decide +kernel
  exact of_decide_eq_true (List.all_eq_true.mp this x h)
theorem upper_words {ws : List Str} (h : ∀ x ∈ ws, x ∈ lawWords) : ws.map Txt.upper = ws.map upTxt := List.map_congr_left fun x m => upper_word (h x m)
theorem up_sortWord {x : Str} (h : x ∈ sortWords) : upTxt x = x ∧ (x == "REVERSE") = false ∧ x.length ≤ 1000 ∧ sortWords.any (· == x) = true := by
  have : (sortWords.all fun x => upTxt x == x && !(x == "REVERSE") && decide (x.length ≤ 1000) && sortWords.any (· == x)) = true := by decide +kernel
  have := List.all_eq_true.mp this x h
  simp only [Bool.and_eq_true, Bool.not_eq_true', decide_eq_true_eq] at this
  exact ⟨eq_of_beq this.1.1.1, this.1.1.2, this.1.2, this.2⟩
theorem up_reverse : upTxt "REVERSE" = "REVERSE" := by decide +kernel
theorem reverse_noWord : sortWords.any (· == "REVERSE") = false := by decide +kernel

theorem read_same : ∀ (gs : List Str) (at' : Nat) (ks : List (Str × Bool)) (t : Bool), KeysOk ks →
    match projRead at' ks t gs with
    | .ok ks' => lawRead at' ks t gs = (ks', -1) ∧ ks' ≠ []
    | .error i => (lawRead at' ks t gs).2 = i ∧ 0 ≤ i
  | [], at', ks, t, h => by
    unfold projRead lawRead
    by_cases q : (ks.isEmpty || t) = true
    · rw [if_pos q, if_pos q]
      exact ⟨rfl, Int.natCast_nonneg _⟩
    · rw [if_neg q, if_neg q]
      refine ⟨rfl, fun e => q ?_⟩
      have e : ks = [] := e
      rw [e]; rfl
  | g :: r, at', ks, t, h => by
    unfold projRead lawRead
    by_cases q : (g == "REVERSE") = true
    · rw [if_pos q]
      cases t with
      | false =>
        rw [if_neg (by decide), if_pos (by rw [q]; rfl)]
        exact read_same r (at' + 1) ks true h
      | true =>
        rw [if_pos rfl, if_neg (by simp), if_neg (by rw [eq_of_beq q, reverse_noWord]; decide)]
        exact ⟨rfl, Int.natCast_nonneg _⟩
    · rw [if_neg q, if_neg (c := (g == "REVERSE" && !t) = true) (by simp only [Bool.and_eq_true]; exact fun z => q z.1)]
      by_cases q' : sortWords.any (· == g) = true
      · rw [if_pos q', if_pos q']
        exact read_same r (at' + 1) (ks ++ [(g, t)]) false (h.snoc q')
      · rw [if_neg q', if_neg q']
        exact ⟨rfl, Int.natCast_nonneg _⟩
theorem read_ok : ∀ (gs : List Str) (at' : Nat) (ks : List (Str × Bool)) (t : Bool), KeysOk ks → KeysOk (lawRead at' ks t gs).1 ∧ (lawRead at' ks t gs).1.length ≤ ks.length + gs.length
  | [], at', ks, t, h => by
    unfold lawRead
    exact ⟨h, Nat.le_refl _⟩
  | g :: r, at', ks, t, h => by
    unfold lawRead
    by_cases q : (g == "REVERSE" && !t) = true
    · rw [if_pos q]
      have := read_ok r (at' + 1) ks true h
      exact ⟨this.1, by have := this.2; rw [List.length_cons]; omega⟩
    · rw [if_neg q]
      by_cases q' : sortWords.any (· == g) = true
      · rw [if_pos q']
        have := read_ok r (at' + 1) (ks ++ [(g, t)]) false (h.snoc q')
        exact ⟨this.1, by have := this.2; rw [List.length_append, List.length_singleton] at this; rw [List.length_cons]; omega⟩
      · rw [if_neg q']
        exact ⟨h, by rw [List.length_cons]; show ks.length ≤ _; omega⟩

theorem read_shown : ∀ (ks : List (Str × Bool)) (at' : Nat) (acc : List (Str × Bool)), KeysOk ks → acc ++ ks ≠ [] → projRead at' acc false ((showKeys ks).map upTxt) = .ok (acc ++ ks)
  | [], at', acc, _, h => by
    show projRead at' acc false [] = _
    rw [List.append_nil] at h ⊢
    unfold projRead
    have : acc.isEmpty = false := by cases acc with
      | nil => exact absurd rfl h
      | cons _ _ => rfl
    rw [this]
    rfl
  | (x, t) :: r, at', acc, h, hn => by
    have hx := up_sortWord (h (x, t) (List.mem_cons_self ..))
    have ih : ∀ n, projRead n (acc ++ [(x, t)]) false ((showKeys r).map upTxt) = .ok (acc ++ (x, t) :: r) := fun n => by
      have := read_shown r n (acc ++ [(x, t)]) (fun k m => h k (List.mem_cons_of_mem _ m)) (by simp)
      rw [this, List.append_assoc]
      rfl
    show projRead at' acc false ((showKey (x, t) ++ showKeys r).map upTxt) = _
    rw [List.map_append]
    cases t with
    | true =>
      show projRead at' acc false (upTxt "REVERSE" :: upTxt x :: (showKeys r).map upTxt) = _
      rw [up_reverse, hx.1, projRead, if_pos (by decide +kernel), if_neg (by decide), projRead, if_neg (by rw [hx.2.1]; decide), if_pos hx.2.2.2]
      exact ih _
    | false =>
      show projRead at' acc false (upTxt x :: (showKeys r).map upTxt) = _
      rw [hx.1, projRead, if_neg (by rw [hx.2.1]; decide), if_pos hx.2.2.2]
      exact ih _
theorem shown_len {ks : List (Str × Bool)} (h : KeysOk ks) : ∀ x ∈ showKeys ks, x.length ≤ 1000 := by
  intro x m
  obtain ⟨k, hk, m⟩ := List.mem_flatMap.mp m
  unfold showKey at m
  have h1 := (up_sortWord (h k hk)).2.2.1
  split at m
  · rcases List.mem_cons.mp m with rfl | m
    · decide
    · rw [List.mem_singleton.mp m]; exact h1
  · rw [List.mem_singleton.mp m]; exact h1

theorem aheadW_swap : ∀ (ks : List (Str × Bool)) (as bs : List Int), aheadW ks bs as = (aheadW ks as bs).map (!·)
  | [], _, _ => rfl
  | _ :: _, [], bs => by cases bs <;> rfl
  | _ :: _, _ :: _, [] => rfl
  | k :: ks, a :: as, b :: bs => by
    unfold aheadW
    by_cases h : a = b
    · rw [if_pos h, if_pos h.symm]
      exact aheadW_swap ks as bs
    · rw [if_neg h, if_neg (fun e => h e.symm)]
      by_cases q : a < b
      · have : ¬ b < a := by omega
        simp [q, this]
      · have : b < a := by omega
        simp [q, this]
theorem ahead_asymm {ks : List (Str × Bool)} {r q : Row} (h : ahead ks r q = true) : ahead ks q r = false := by
  unfold ahead at h ⊢
  rw [aheadW_swap ks r.2 q.2]
  cases e : aheadW ks r.2 q.2 with
  | some b =>
    rw [e] at h
    have h : b = true := h
    rw [h]
    rfl
  | none =>
    rw [e] at h
    have h : r.1 < q.1 := of_decide_eq_true h
    show decide (q.1 < r.1) = false
    exact decide_eq_false (by omega)

theorem place_of {ks : List (Str × Bool)} {rs : List Row} {k : Nat} {r : Row} (hw : rs.Pairwise fun r o => ahead ks r o = true) (hk : rs[k]? = some r) :
    ∀ i q, (rs.take k ++ rs.drop (k + 1))[i]? = some q → ahead ks q r = decide (i < k) := by
  obtain ⟨hkl, hkr⟩ := List.getElem?_eq_some_iff.mp hk
  have pw := List.pairwise_iff_getElem.mp hw
  intro i q hi
  have hl : (rs.take k).length = k := by rw [List.length_take]; omega
  by_cases h : i < k
  · rw [List.getElem?_append_left (by omega), List.getElem?_take, if_pos h] at hi
    obtain ⟨h1, h2⟩ := List.getElem?_eq_some_iff.mp hi
    have := pw i k h1 hkl h
    rw [h2, hkr] at this
    rw [this, decide_eq_true h]
  · rw [List.getElem?_append_right (by omega), hl, List.getElem?_drop] at hi
    obtain ⟨h1, h2⟩ := List.getElem?_eq_some_iff.mp hi
    have := pw k (k + 1 + (i - k)) hkl h1 (by omega)
    rw [h2, hkr] at this
    rw [ahead_asymm this, decide_eq_false h]

/-! the rows -/
noncomputable def worthsOf (m : Nat) (i : Nat) (c : Int) : List Int := (List.range m).map fun at' => (((c.fdiv 13 + (i : Nat) * 5).fdiv (3 ^ at')).fmod 3)
noncomputable def rowsOf (m : Nat) : Nat → List Int → List Row
  | _, [] => []
  | i, c :: r => (((i : Nat) : Int) + 1, worthsOf m i c) :: rowsOf m (i + 1) r
theorem rowsOf_get (m : Nat) : ∀ (i : Nat) (l : List Int) (k : Nat), (rowsOf m i l)[k]? = (l[k]?).map fun c => ((((i + k : Nat) : Nat) : Int) + 1, worthsOf m (i + k) c)
  | _, [], _ => rfl
  | i, c :: r, 0 => rfl
  | i, c :: r, k + 1 => by
    show (rowsOf m (i + 1) r)[k]? = (r[k]?).map _
    rw [rowsOf_get m (i + 1) r k]
    have : i + 1 + k = i + (k + 1) := by omega
    rw [this]
theorem rowsOf_length (m : Nat) : ∀ (i : Nat) (l : List Int), (rowsOf m i l).length = l.length
  | _, [] => rfl
  | i, c :: r => by rw [rowsOf, List.length_cons, List.length_cons, rowsOf_length m (i + 1) r]
theorem rowsOf_worths {m i : Nat} {l : List Int} {r : Row} (h : r ∈ rowsOf m i l) : r.2.length = m := by
  obtain ⟨k, hk⟩ := List.getElem?_of_mem h
  rw [rowsOf_get] at hk
  obtain ⟨c, _, rfl⟩ := Option.map_eq_some_iff.mp hk
  simp [worthsOf]
theorem rowsOf_num {m : Nat} {l : List Int} {r : Row} (h : r ∈ rowsOf m 0 l) : 1 ≤ r.1 ∧ r.1 ≤ l.length ∧ (rowsOf m 0 l)[(r.1 - 1).toNat]? = some r := by
  obtain ⟨k, hk⟩ := List.getElem?_of_mem h
  have hk' := hk
  rw [rowsOf_get] at hk'
  obtain ⟨c, hc, e⟩ := Option.map_eq_some_iff.mp hk'
  have hkl := (List.getElem?_eq_some_iff.mp hc).1
  have e1 : r.1 = ((k : Nat) : Int) + 1 := by rw [← e, Nat.zero_add]
  refine ⟨by omega, by omega, ?_⟩
  have : (r.1 - 1).toNat = k := by omega
  rw [this, hk]
theorem rowsOf_rising (m : Nat) (l : List Int) : ((rowsOf m 0 l).map (·.1)).Pairwise (· < ·) := by
  rw [List.pairwise_iff_getElem]
  intro i j hi hj hij
  rw [List.length_map] at hi hj
  have h1 := rowsOf_get m 0 l i
  have h2 := rowsOf_get m 0 l j
  rw [List.getElem?_eq_getElem hi] at h1
  rw [List.getElem?_eq_getElem hj] at h2
  obtain ⟨c, _, e1⟩ := Option.map_eq_some_iff.mp h1.symm
  obtain ⟨d, _, e2⟩ := Option.map_eq_some_iff.mp h2.symm
  rw [List.getElem_map, List.getElem_map, ← e1, ← e2]
  show ((0 + i : Nat) : Int) + 1 < ((0 + j : Nat) : Int) + 1
  omega
theorem rowsOf_nodup (m : Nat) (l : List Int) : ((rowsOf m 0 l).map (·.1)).Nodup := (rowsOf_rising m l).imp fun h => by omega
theorem placed_of {m : Nat} {l : List Int} {rs : List Row} (hp : rs.Perm (rowsOf m 0 l)) : rs.map (fun r => (rowsOf m 0 l).getD (r.1 - 1).toNat (0, [])) = rs := by
  have : ∀ r ∈ rs, (rowsOf m 0 l).getD (r.1 - 1).toNat (0, []) = r := fun r h => by
    have := (rowsOf_num (hp.mem_iff.mp h)).2.2
    rw [List.getD_eq_getElem?_getD, this]
    rfl
  rw [List.map_congr_left this, List.map_id']
end Mine
end

section
set_option maxRecDepth 100000
namespace Mine

noncomputable abbrev envLaw (L fa : Addr) (cd : Value) : Env := envOfC (fname 19) (fscope 19) L fa cd
noncomputable abbrev BL (prog : Program) (w : World) (hB : Heap) (A : Around) (L fa : Addr) (cd : Value) : Cx := ⟨prog, w, hB, A, [], envLaw L fa cd⟩

section
variable {prog : Program} {w : World} {hB : Heap} {A : Around} {L fa : Addr} {cd : Value} {sin s : Shared} {K : Addr → Obj → Prop} {Y : List Addr} {E : Value → Shared → Prop} {Q : Flow → Shared → Prop}

/-- the last loops of the law -/
theorem law_loops (b : Base hB) (g : Good 12 A) {ρ : List (Str × PyData)} {ks : List (Str × Bool)} {rs : List Row} (S : St (BL prog w hB A L fa cd) sin K Y ρ none s) (hρ : Sub [("placed", rowsD rs), ("keys", keysD ks)] ρ)
    (hks : ks.length ≤ 900) (hrs : rs.length ≤ 800) (hlen : ∀ r ∈ rs, r.2.length = ks.length) (hw : rs.Pairwise fun r o => ahead ks r o = true)
    (hQ : ∀ s', St (BL prog w hB A L fa cd) sin K Y [] none s' → Q (.ret (.bool true)) s') :
    wpAny (model prog w) A (execs ((fbody 19).drop 12) (envLaw L fa cd)) Q E s := by
  refine ex_for (xs := ["at", "row"]) (f := two "at" "row") (fun _ : Unit => [("placed", rowsD rs), ("keys", keysD ks)]) (fun _ => none) (fun _ _ => True) () S (tsrc_enum b.bEnum rfl (ev_name (hρ.at _ _ rfl))) ?_ trivial hρ rfl ?_ ?_ ?_ ?_
  · intro d hd
    obtain ⟨i, hi⟩ := List.getElem?_of_mem hd
    rw [numbered_get] at hi
    obtain ⟨d', _, rfl⟩ := Option.map_eq_some_iff.mp hi
    exact tg_two (.inl rfl) (.inl rfl)
  · intro x q h
    cases h
  · intro x q h
    cases h
  · intro wr K' i _ d s₁ hK hd _ S₁
    rw [numbered_get, List.getElem?_map, Nat.zero_add] at hd
    obtain ⟨_, hd', rfl⟩ := Option.map_eq_some_iff.mp hd
    obtain ⟨r, hr, rfl⟩ := Option.map_eq_some_iff.mp hd'
    have hil : i < rs.length := (List.getElem?_eq_some_iff.mp hr).1
    have hr2 := hlen r (List.mem_of_getElem? hr)
    refine ex_for (xs := ["far", "other"]) (f := two "far" "other") (fun _ : Unit => [("at", .int (i : Nat)), ("row", rowD r), ("placed", rowsD rs), ("keys", keysD ks)]) (fun _ => none) (fun _ _ => True) () S₁ (tsrc_enum b.bEnum rfl (ev_name rfl)) ?_ trivial ⟨rfl, rfl, rfl, rfl, trivial⟩ rfl ?_ ?_ ?_ ?_
    · intro d hd
      obtain ⟨i, hi⟩ := List.getElem?_of_mem hd
      rw [numbered_get] at hi
      obtain ⟨d', _, rfl⟩ := Option.map_eq_some_iff.mp hi
      exact tg_two (.inl rfl) (.inl rfl)
    · intro x q h
      cases h
    · intro x q h
      cases h
    · intro wr' K'' j _ d s₂ hK' hd _ S₂
      rw [numbered_get, List.getElem?_map, Nat.zero_add] at hd
      obtain ⟨_, hd', rfl⟩ := Option.map_eq_some_iff.mp hd
      obtain ⟨o, ho, rfl⟩ := Option.map_eq_some_iff.mp hd'
      have hjl : j < rs.length := (List.getElem?_eq_some_iff.mp ho).1
      have ho2 := hlen o (List.mem_of_getElem? ho)
      refine ex_if S₂ (tr_or (x := false) (y := false) (tr_eq (tr_cmp (ev_call b.g12 b.f12 (fun_ahead b ks r o hks hr2 ho2) (g.mono (by decide)) rfl (evs_cons (ev_name rfl) (evs_cons (ev_name rfl) (evs_cons (ev_name rfl) evs_nil)))) (ev_call b.g18 b.f18 (fun_first b ks r o hr2 ho2) (g.mono (by decide)) rfl (evs_cons (ev_name rfl) (evs_cons (ev_name rfl) (evs_cons (ev_name rfl) evs_nil)))) (cmp_ne rfl rfl)) (by rw [eqv_bool]; simp)) fun _ =>
        tr_eq (tr_and (x := decide ((i : Int) < (j : Int))) (y := !ahead ks r o) (tr_cmp (ev_name rfl) (ev_name rfl) cmp_lt) fun _ => tr_not (tr_val (ev_call b.g18 b.f18 (fun_first b ks r o hr2 ho2) (g.mono (by decide)) rfl (evs_cons (ev_name rfl) (evs_cons (ev_name rfl) (evs_cons (ev_name rfl) evs_nil)))))) ?_)
        (fun h => nomatch h) fun _ s₃ S₃ => then_nil (ex_nil ⟨(), trivial, S₃.weak (Sub.at ⟨rfl, rfl, rfl, rfl, trivial⟩)⟩)
      by_cases hij : i < j
      · have := List.pairwise_iff_getElem.mp hw i j hil hjl hij
        rw [(List.getElem?_eq_some_iff.mp hr).2, (List.getElem?_eq_some_iff.mp ho).2] at this
        rw [this]
        simp
      · rw [decide_eq_false (by omega)]
        rfl
    · intro _ s₂ _ S₂
      have hpl := place_of hw hr
      refine ex_if (b := false) S₂ (tr_eq (tr_cmp (ev_call b.g13 b.f13 (fun_place b ks (rs.take i ++ rs.drop (i + 1)) r i hks ?_ ?_ hr2 ?_ hpl) (g.mono (by decide)) rfl
        (evs_cons (ev_name rfl) (evs_cons (ev_eq (ev_cat (ev_cutTo (ev_name rfl) (ev_name rfl) ?_) (ev_cutFrom (k := i + 1) (ev_name rfl) (ev_eq (ev_add (ev_name rfl) ev_int) ?_) ?_) ?_) ?_) (evs_cons (ev_name rfl) evs_nil)))) (ev_name rfl) (cmp_ne rfl rfl)) ?_)
        (fun h => nomatch h) fun _ s₃ S₃ => then_nil (ex_nil ⟨(), trivial, S₃.weak (Sub.at ⟨rfl, rfl, trivial⟩)⟩)
      · rw [List.length_append, List.length_take, List.length_drop]; omega
      · intro q m
        refine hlen q ?_
        rcases List.mem_append.mp m with m | m
        · exact List.mem_of_mem_take m
        · exact List.mem_of_mem_drop m
      · rw [List.length_append, List.length_take, List.length_drop]; omega
      · rw [List.length_map]; omega
      · show PyData.int ((i : Int) + 1) = .int ((i + 1 : Nat) : Int)
        congr 1
      · rw [List.length_map]; omega
      · rw [List.length_take, List.length_drop, List.length_map]; omega
      · rw [← List.map_take, ← List.map_drop, ← List.map_append]; rfl
      · rw [eqv_int]; simp
  · intro _ s₁ _ S₁
    exact ex_returnS S₁ ev_bool fun v s₂ S₂ q => by
      cases q
      exact hQ s₂ (S₂.weak (fun x d e => nomatch e))
end
end Mine
end

section
set_option maxRecDepth 100000
namespace Mine

theorem shaped_lay {d : PyData} (h : SeqAt.shaped d = true) : d.canLay0 = true := by
  unfold SeqAt.shaped at h
  simp only [Bool.and_eq_true] at h
  first | exact h.1 | exact h.2 | exact h.1.1
theorem eqv_same {d : PyData} (h : SeqAt.shaped d = true) : PyData.eqv d d = true := SeqAt.eqv_refl d (shaped_lay h)

noncomputable def worthF (i : Nat) (c : Int) : PyData → PyData
  | .int k => .int (((c.fdiv 13 + (i : Nat) * 5).fdiv (3 ^ k.toNat)).fmod 3)
  | d => d
theorem worthF_list (m i : Nat) (c : Int) : (upTo m).map (worthF i c) = (worthsOf m i c).map .int := by
  unfold upTo worthsOf
  rw [List.map_map, List.map_map]
  rfl
theorem pow_small {k : Nat} (h : k ≤ 18) : ((3 : Int) ^ k).natAbs < 1073741824 ∧ (3 : Int) ^ k ≠ 0 := by
  have : ∀ k, k < 19 → ((3 : Int) ^ k).natAbs < 1073741824 ∧ (3 : Int) ^ k ≠ 0 := by decide +kernel
  exact this k (by omega)

section
variable {prog : Program} {w : World} {hB : Heap} {A : Around} {L fa : Addr} {cd : Value} {sin s : Shared} {K : Addr → Obj → Prop} {Y : List Addr} {E : Value → Shared → Prop} {Q : Flow → Shared → Prop}

theorem ev_worths (b : Base hB) {ρ : List (Str × PyData)} {i : Nat} {c : Int} {ks : List (Str × Bool)} {X : List Addr} {p1 p2 p3 p4 p5 p6 p7 p8 p9 p10 p11 p12 p13 p14 p15 p16 p17 p18 p19 p20 p21 p22 : Pos} {k1 k2 k3 k4 : Nat} (hks : ks.length ≤ 18)
    (hn : ρ.lookup ("number" : Str) = some (.int (i : Nat))) (hc : ρ.lookup ("cell" : Str) = some (.int c)) (hk : ρ.lookup ("keys" : Str) = some (keysD ks)) :
    Ev ⟨prog, w, hB, A, X, envLaw L fa cd⟩ ρ (.ListComp (.Call (.Name "int" p1) [.BinOp (.BinOp (.BinOp (.BinOp (.Name "cell" p2) .FloorDiv (.Constant (.int 13) k1 p3) p4) .Add (.BinOp (.Name "number" p5) .Mult (.Constant (.int 5) k2 p6) p7) p8) .FloorDiv (.BinOp (.Constant (.int 3) k3 p9) .Pow (.Name "at" p10) p11) p12) .Mod (.Constant (.int 3) k4 p13) p14] [] p15)
      [⟨.Name "at" p16, .Call (.Name "range" p17) [.Call (.Name "len" p18) [.Name "keys" p19] [] p20] [] p21, [], 0⟩]
      ⟨.function, [(".0", .local), ("at", .local), ("int", .globalImplicit), ("cell", .free), ("number", .free)], false, false, []⟩ p22) (.list ((worthsOf ks.length i c).map .int)) := by
  rw [← worthF_list]
  refine ev_comp (cl := [("number", L + 3), ("cell", L + 1)]) (ρf := [("number", .int (i : Nat)), ("cell", .int c)]) (worthF i c) (src_range b.bRange rfl (ev_eq (ev_bi b.bLen rfl (evs_cons (ev_name hk) evs_nil) (bi_len (by rw [List.length_map]; omega))) (by rw [List.length_map])) (by omega)) (by simp [upTo]; omega) rfl (by decide) rfl (by decide) rfl ?_ ?_ fun c' d hd => ?_
  · intro y d e
    rw [List.lookup_cons] at e
    cases q : y == ("number" : Str) with
    | true =>
      rw [q] at e
      cases e
      rw [eq_of_beq q]
      exact ⟨hn, rfl, rfl, rfl⟩
    | false =>
      rw [q] at e
      rw [List.lookup_cons] at e
      cases q' : y == ("cell" : Str) with
      | true =>
        rw [q'] at e
        cases e
        rw [eq_of_beq q']
        exact ⟨hc, rfl, rfl, rfl⟩
      | false => rw [q'] at e; cases e
  · intro d hd
    obtain ⟨k, _, rfl⟩ := List.mem_map.mp hd
    rfl
  · obtain ⟨k, hk', rfl⟩ := List.mem_map.mp hd
    have hk18 : k < 19 := by have := List.mem_range.mp hk'; omega
    have hp := pow_small (k := k) (by omega)
    exact ev_toInt b.bInt rfl (ev_mod (ev_div (ev_add (ev_div (ev_name rfl) ev_int (by decide) (PyProof.noPylong_small (by decide))) (ev_mul (ev_name rfl) ev_int (by decide +kernel))) (ev_pow ev_int (ev_name rfl) (Int.natCast_nonneg _) (bits_mul_le (by decide) (Int.natCast_nonneg _) (by omega))) hp.2 (PyProof.noPylong_small hp.1)) ev_int (by decide))
end
end Mine
end

section
set_option maxRecDepth 100000
namespace Mine
section
variable {B : Cx} {sin s : Shared} {K : Addr → Obj → Prop} {Y : List Addr} {ρ : List (Str × PyData)} {E : Value → Shared → Prop} {Q : Flow → Shared → Prop} {rest : List Stmt}

/-- y = [elt for x in iter], stored while the comprehension's names still stand -/
theorem ex_assignComp {elt iter : Expr} {x y : Str} {px py pos p : Pos} {scope : Scope} {cl : List (Str × Addr)} {xs : List PyData} {ρf : List (Str × PyData)} (f : PyData → PyData) (S : St B sin K Y ρ none s) (hit : Src (B.on Y) ρ iter xs) (hz : xs.length ≤ 100000)
    (hclos : closureFor scope B.env = pure cl) (hcell : ∀ y ∈ scope.names, y.2 ≠ .cell) (hkind : scope.kind = .function)
    (hnames : ∀ y ∈ scope.names, y.2 = .local → scope.names.lookup y.1 = some .local) (hx : scope.names.lookup x = some .local)
    (hcat : Caught (B.on Y) scope cl ρ ρf)
    (helt : ∀ c, ∀ d ∈ xs, ∀ (s₃ : Shared) (E' : Value → Shared → Prop), Kp s.heap s₃.heap → Pre (inner (B.on Y) scope cl c) ((x, d) :: ρf) s₃ → wpAny (model B.prog B.w) B.A (eval elt (inner (B.on Y) scope cl c).env) (fun y s₄ => Keeps s₃ s₄ ∧ Is (Y ++ B.X) s.heap y (f d)) E' s₃)
    (hy : Slot B.env y) (h : ∀ s', St B sin K Y ((y, .list (xs.map f)) :: ρ) none s' → wpAny (model B.prog B.w) B.A (execs rest B.env) Q E s')
    (hsw : swapsWith (.ListComp elt [⟨.Name x px, iter, [], 0⟩] scope pos) (some (.Name y py)) p.line B.env = pure true := by rfl)
    (hs : ∀ x, foldedSetIterable iter B.env x = pure x := by intro _; rfl) :
    wpAny (model B.prog B.w) B.A (execs (.Assign [.Name y py] (.ListComp elt [⟨.Name x px, iter, [], 0⟩] scope pos) p :: rest) B.env) Q E s := by
  have P := S.pre
  have hx' : (relabel scope B.env).names.lookup x = some .local := lookup_relabel_local hx
  refine wpAny_execs_cons ?_
  rw [exec_Assign_Name_used _ _ _ _ hsw]
  refine wpAny_bind (wpAny_standAt (wpAny_bind ?_))
  show wpAny _ B.A (do let _ ← comprehension (.ListComp elt [⟨.Name x px, iter, [], 0⟩] scope pos) scope B.env _ (newList []) false (eval iter B.env) (some (assign (.Name y py) B.env))) _ _ s
  refine wpAny_bind (wpAny_mono (wpAny_comprehension_free (use := some (assign (.Name y py) B.env)) (Q := fun _ s' => wpAny (model B.prog B.w) B.A (execs rest B.env) Q E s') rfl hs hclos hkind hnames (wpAny_mono (hit s E P) (fun xv s₁ h₁ => wpAny_mono h₁ (fun it s₂ h₂ => ?_) fun _ _ e => e) fun _ _ e => e))
    (fun _ s' hq => wpAny_pure (wpAny_pure hq)) fun _ _ e => e)
  obtain ⟨I, fp, wr, Pi, Stt, rfl, W, hP, hst, hfp, hwr, hk⟩ := h₂
  refine comp_block_walkC (RR := fun acc Cc => compPost (model B.prog B.w) B.A E (some (assign (.Name y py) B.env)) (fun _ s' => wpAny (model B.prog B.w) B.A (execs rest B.env) Q E s') acc Cc) W (by rw [sizeLine_eq]; omega) (fun _ => true)
    (fun v y => ∃ d, d ∈ xs ∧ Is (wr ++ (Y ++ B.X)) s₂.heap v d ∧ Is (Y ++ B.X) s.heap y (f d)) hcell hkind hx hst hfp ⟨?tests, ?eltq⟩ ?fin
  case tests =>
    intro Cc i v s₃ m₃ E' _ _ _ _ _ _
    exact wpAny_tests_nil ⟨rfl, keeps_refl s₃⟩
  case eltq =>
    intro Cc i v s₃ m₃ E' hCc hPv _ hn hm hk3 htk
    obtain ⟨d, hd, hv⟩ := hP i v hPv
    have hmem : d ∈ xs := List.mem_of_getElem? hd
    have up3 : Kp s.heap s₃.heap := fun b o e => hk3 b o (fun q => by rw [hwr b q] at e; cases e) ((kpH hk) b o e)
    have vis : Is (wr ++ (Y ++ B.X)) s₃.heap v d := hv.up (Up.mod (W := wr) (fun b hb => List.mem_append.mpr (.inl hb)) hk3)
    have P' : Pre (inner (B.on Y) scope cl Cc) ((x, d) :: ρf) s₃ := by
      refine ⟨⟨P.ok.good, by show (relabel scope B.env).kind = _; simpa [relabel] using hkind, P.ok.glob, P.ok.bui⟩, P.base.trans up3, fun a ha => let ⟨o, e⟩ := P.liv a ha; ⟨o, up3 a o e⟩, fun y e hy => ?_⟩
      rw [List.lookup_cons] at hy
      cases hyx : y == x with
      | true =>
        rw [hyx] at hy
        cases hy
        rw [eq_of_beq hyx]
        exact ⟨v, .inl ⟨hx', m₃, hn, hm⟩, vis.up (Up.less fun b hb => List.mem_append.mpr (.inr hb))⟩
      | false =>
        rw [hyx] at hy
        obtain ⟨c1, c2, c3, c4⟩ := hcat y e hy
        obtain ⟨u, a, q⟩ := P.vars y e c1
        refine ⟨u, ?_, q.up (Up.keep up3)⟩
        rcases a with ⟨a, _⟩ | ⟨_, c, n, r⟩
        · rw [c2] at a; cases a
        · refine .inr ⟨c3, c, ?_, let ⟨o, e1, e2⟩ := r; ⟨o, up3 _ _ e1, e2⟩⟩
          show cl.lookup y = some c
          rw [c4, n]
    refine wpAny_mono (helt Cc d hmem s₃ E' up3 P') (fun y s₄ h₄ => ?_) fun _ _ e => e
    exact ⟨⟨d, hmem, hv, h₄.2⟩, h₄.1⟩
  case fin =>
    intro D Cc h' tk m' ys vs hD hC hDC hn hl hpl hlen hPj hF hk'
    have up : Kp s.heap h' := fun b o e => hk' b o (fun q => by rw [hwr b q] at e; cases e) ((kpH hk) b o e)
    have kk : Keeps s { s₂ with heap := h', toks := tk } := by
      obtain ⟨h2, tk2, rfl, _⟩ := hk
      exact ⟨h', tk, rfl, up⟩
    have hCs : s.heap.get? Cc = none := none_before hk hC
    have hDX : D ∉ Y ++ B.X := fun m => by
      obtain ⟨o, e⟩ := P.liv D m
      rw [(kpH hk) _ _ e] at hD; cases hD
    have hCX : Cc ∉ Y ++ B.X := fun m => by
      obtain ⟨o, e⟩ := P.liv Cc m
      rw [hCs] at e; cases e
    obtain ⟨oC, esC, epC, hoC, hdC, rC⟩ := hn
    have S₁ := S.bar (wr := [Cc]) kk (fun b m => by rw [List.mem_singleton.mp m]; exact hCs) (fun b m => ⟨oC, by rw [List.mem_singleton.mp m]; exact hoC⟩)
    have S₂ := S₁.also (b := Cc) (q := oC) hoC (fun w => hCX (by rw [w]; exact List.mem_append.mpr (.inl S.loc))) (fun y c e w => hCX (by rw [w]; exact List.mem_append.mpr (.inl (S.cel y c e).1))) fun z e => (nomatch e)
    have hv : Is (([Cc] ++ Y) ++ B.X) h' (.ref D) (.list (xs.map f)) := by
      have hl2 : h'.IsList D ys.toList.toArray := by simpa using hl
      rw [List.filter_eq_self.mpr (fun _ _ => rfl)] at hF
      have hly : ys.toList.length = xs.length := by rw [← hF.length, hlen]
      have upC : Up (Y ++ B.X) s.heap (([Cc] ++ Y) ++ B.X) h' := fun a o n e => ⟨fun m => by
        rw [List.append_assoc] at m
        rcases List.mem_append.mp m with m | m
        · rw [List.mem_singleton.mp m, hCs] at e; cases e
        · exact n m, up a o e⟩
      refine .list (fun m => ?_) hl2 (isAll_of (by rw [List.length_map, hly]) fun i y e hy he => ?_)
      · rw [List.append_assoc] at m
        rcases List.mem_append.mp m with m | m
        · exact hDC (List.mem_singleton.mp m)
        · exact hDX m
      · obtain ⟨v, hv, d, hd, hvd, hyd⟩ := paired_get hF hy
        obtain ⟨d', hd', hv'⟩ := hP i v (hPj i v hv)
        have q := Is.one hvd hv'
        subst q
        rw [List.getElem?_map, hd'] at he
        cases he
        exact hyd.up upC
    show wpAny _ _ (assign (.Name y py) B.env (.ref D)) _ _ _
    refine wpAny_assign_Name (st_store S₂ hy hv (fun q e => (nomatch e)) fun s₃ S₃ _ => ?_)
    have hoC₃ := S₃.kept Cc oC (.inr ⟨rfl, rfl⟩)
    refine ⟨m', ⟨oC, esC, epC, hoC₃, hdC, rC⟩, fun h'' hs'' => ?_⟩
    have S₄ := S₃.less (K' := K) (fun b x k => .inl k) S.low S.old
    refine h _ (S₄.free (wr := [Cc]) (s' := { s₃ with heap := h'' }) S.loc (fun y c e => (S.cel y c e).1) (fun q e => (nomatch e)) (fun b m => ?_) (fun b o n e => hs''.extBut b o (fun w => n (by rw [w]; exact List.mem_singleton.mpr rfl)) e) ⟨s₃.toks, rfl⟩)
    rw [List.mem_singleton.mp m]
    exact ⟨hCX, fun q z => by have := S.kept _ _ z; rw [hCs] at this; cases this⟩
end
end Mine
end

section
set_option maxRecDepth 100000
namespace Mine

theorem rows_nums (rs : List Row) : (rs.map rowD).map rowNum = (rs.map (·.1)).map .int := by
  rw [List.map_map, List.map_map]
  rfl
noncomputable def placeF (rs : List Row) : PyData → PyData
  | .int n => rowD (rs.getD (n - 1).toNat (0, []))
  | d => d

section
variable {prog : Program} {w : World} {hB : Heap} {A : Around} {L fa : Addr} {cd : Value} {sin s : Shared} {K K₀ : Addr → Obj → Prop} {Y : List Addr} {E : Value → Shared → Prop} {Q : Flow → Shared → Prop}

/-- from the sorted order on -/
theorem law_order (b : Base hB) (g : Good 12 A) {ρ : List (Str × PyData)} {ks : List (Str × Bool)} {rows rs : List Row} {l : List Int} (S : St (BL prog w hB A L fa cd) sin K Y ρ none s)
    (hρ : Sub [("order", .list (rs.map fun r : Row => .int r.1)), ("rows", rowsD rows), ("keys", keysD ks)] ρ)
    (hks : ks.length ≤ 900) (hl : l.length ≤ 50) (hrows : rows = rowsOf ks.length 0 l) (hp : rs.Perm rows) (hw : rs.Pairwise fun r o => ahead ks r o = true)
    (hQ : ∀ s', St (BL prog w hB A L fa cd) sin K Y [] none s' → Q (.ret (.bool true)) s') :
    wpAny (model prog w) A (execs ((fbody 19).drop 10) (envLaw L fa cd)) Q E s := by
  have hlen : rows.length = l.length := by rw [hrows, rowsOf_length]
  have hlen2 : rs.length = l.length := by rw [hp.length_eq, hlen]
  have hworths : ∀ r ∈ rs, r.2.length = ks.length := fun r h => rowsOf_worths (hrows ▸ hp.mem_iff.mp h)
  have hrise : (rows.map (·.1)).Pairwise (· ≤ ·) := by rw [hrows]; exact (rowsOf_rising _ _).imp fun h => Int.le_of_lt h
  refine ex_if (b := false) S (tr_eq (tr_cmp (ev_bi b.bSorted rfl (evs_cons (ev_eq (ev_name (hρ.at _ _ rfl)) (d' := .list ((rs.map (·.1)).map .int)) (by rw [List.map_map]; rfl)) evs_nil) (bi_sorted (ms := rows.map (·.1)) (hp.symm.map _) hrise (by rw [List.length_map]; omega)))
    (ev_eq (ev_comp rowNum (src_list (ev_name (hρ.at _ _ rfl))) (by rw [List.length_map]; omega) rfl (by decide) rfl (by decide) rfl caught_nil ?_ fun c d hd => ?_) (congrArg PyData.list (rows_nums rows))) (cmp_ne (shaped_ints _) (shaped_ints _))) ?_)
    (fun h => nomatch h) fun _ s₁ S₁ => then_nil ?_
  · intro d hd
    obtain ⟨r, _, rfl⟩ := List.mem_map.mp hd
    rfl
  · obtain ⟨r, _, rfl⟩ := List.mem_map.mp hd
    exact ev_tupItem (i := 0) (ev_name rfl) ev_int (by decide) (by decide) rfl
  · rw [eqv_same (shaped_ints _)]; rfl
  · have S₁ := S₁.weak (Sub.at hρ)
    obtain ⟨v, hat, hiv⟩ := S₁.pre.vars "rows" _ rfl
    obtain ⟨c, hc, oc, hoc, hocd⟩ : ∃ c, (envLaw L fa cd).cells.lookup ("rows" : Str) = some c ∧ s₁.heap.IsCell c (some v) := by
      rcases hat with ⟨a, _⟩ | ⟨_, c, e, hc⟩
      · cases a
      · exact ⟨c, e, hc⟩
    have hc' : c = L + 2 := by
      have hc : some (L + 2) = some c := hc
      cases hc
      rfl
    subst hc'
    refine ex_assignComp (xs := rs.map fun r : Row => PyData.int r.1) (cl := [("rows", L + 2)]) (ρf := []) (placeF rows) S₁ (src_list (ev_name rfl)) (by rw [List.length_map]; omega) rfl (by decide) rfl (by decide) rfl caught_nil ?_ (.inl rfl) fun s₂ S₂ => ?_
    · intro cc d hd s₃ E' kp P₃
      obtain ⟨r, hr, rfl⟩ := List.mem_map.mp hd
      have hn := rowsOf_num (hrows ▸ hp.mem_iff.mp hr)
      cases hiv with
      | @list a vs _ n hl' hall =>
        refine Subscript_ (wpAny_Name (wpAny_loadName_cell P₃.ok.kind rfl (c := L + 2) rfl ⟨oc, kp _ _ hoc, hocd⟩ ?_) (by decide))
        refine wpAny_mono ((ev_sub (ev_name rfl) ev_int : Ev _ _ _ (.int (r.1 - 1))) s₃ E' P₃) (fun u s₄ h₄ => ?_) fun _ _ e => e
        obtain ⟨k₄, q₄⟩ := h₄
        cases q₄
        have hget : rows[(r.1 - 1).toNat]? = some r := by rw [hrows]; exact hn.2.2
        obtain ⟨v', e, q⟩ := hall.get (k := (r.1 - 1).toNat) (d := rowD r) (by rw [List.getElem?_map, hget]; rfl)
        have hl₄ : s₄.heap.IsList a vs.toArray := hl'.at fun o z => (kpH k₄) _ _ (kp _ o z)
        refine tail_any hl₄.typeIs slot_list_getitem.lookup (wpAny_getItem_list hl₄ (by omega) (by omega) (by simpa using e) ⟨k₄, ?_⟩) (by with_unfolding_all rfl)
        show Is _ _ v' (rowD (rows.getD (r.1 - 1).toNat (0, [])))
        rw [List.getD_eq_getElem?_getD, hget]
        exact q
    · have e : (rs.map fun r : Row => PyData.int r.1).map (placeF rows) = rs.map rowD := by
        have h := placed_of (hrows ▸ hp : rs.Perm (rowsOf ks.length 0 l))
        rw [← hrows] at h
        conv => rhs; rw [← h]
        rw [List.map_map, List.map_map]
        rfl
      rw [e] at S₂
      exact law_loops b g S₂ ⟨rfl, rfl, trivial⟩ hks (by omega) hworths hw fun s' S' => hQ s' S'
end
end Mine
end

section
set_option maxRecDepth 100000
namespace Mine
section
variable {prog : Program} {w : World} {hB : Heap} {A : Around} {L fa : Addr} {cd : Value} {sin s : Shared} {K K₀ : Addr → Obj → Prop} {Y : List Addr} {E : Value → Shared → Prop} {Q : Flow → Shared → Prop}

/-- from the rows on -/
theorem law_rows (b : Base hB) (lb : LamBase hB) (rb : RowsBase hB) (g : Good 12 A) {ρ : List (Str × PyData)} {ks : List (Str × Bool)} {cells : List Int} (S : St (BL prog w hB A L fa cd) sin K Y ρ none s)
    (hρ : Sub [("cells", .list (cells.map .int)), ("keys", keysD ks)] ρ) (hks : ks.length ≤ 18) (hcl : cells.length ≤ 20)
    (h89 : K 89 (tabObj #[])) (hK : ∀ b x, K₀ b x → K b x) (low : ∀ b x, hB.get? b = some x → K₀ b x) (old : ∀ b x, sin.heap.get? b = some x → K₀ b x) (f89 : Free89 (BL prog w hB A L fa cd) K₀ Y)
    (hQ : ∀ s' ps Y', St (BL prog w hB A L fa cd) sin (fun a q => K₀ a q ∨ (a = 89 ∧ q = tabObj ps)) Y' [] none s' → Q (.ret (.bool true)) s') :
    wpAny (model prog w) A (execs ((fbody 19).drop 7) (envLaw L fa cd)) Q E s := by
  obtain ⟨rows, hrows⟩ : ∃ rows, rows = rowsOf ks.length 0 (cells.take 6) := ⟨_, rfl⟩
  have hrl : rows.length = (cells.take 6).length := by rw [hrows, rowsOf_length]
  have hr6 : rows.length ≤ 6 := by rw [hrl, List.length_take]; omega
  refine ex_own (S.weak (Sub.at hρ)) (.inr ⟨rfl, _, rfl⟩) rfl fun s₁ l hl S₁ => ?_
  have hl89 : (89 : Addr) ≠ l := fun w => (S₁.own _ rfl).off _ (w ▸ h89)
  refine ex_for (xs := ["number", "cell"]) (f := two "number" "cell") (fun _ => [("cells", .list (cells.map .int)), ("keys", keysD ks)]) (fun i : Nat => some ⟨"rows", l, (rows.take i).map rowD⟩) (fun i x => i = x) 0 S₁
    (tsrc_enum b.bEnum rfl (ev_cutTo (k := 6) (ev_name rfl) ev_int (by rw [List.length_map]; omega))) ?_ rfl ⟨rfl, rfl, trivial⟩ rfl ?_ ?_ ?_ ?_
  · intro d hd
    obtain ⟨i, hi⟩ := List.getElem?_of_mem hd
    rw [numbered_get] at hi
    obtain ⟨d', _, rfl⟩ := Option.map_eq_some_iff.mp hi
    exact tg_two (.inr ⟨rfl, _, rfl⟩) (.inr ⟨rfl, _, rfl⟩)
  · intro x q h
    cases h
    show ("rows" : Str) ∉ _
    decide
  · intro x q h
    cases h
    exact ⟨_, rfl, rfl⟩
  · rintro wr K' i _ d s₂ hK' hd rfl S₂
    rw [numbered_get, Nat.zero_add, ← List.map_take, List.getElem?_map] at hd
    obtain ⟨_, hd', rfl⟩ := Option.map_eq_some_iff.mp hd
    obtain ⟨c, hc, rfl⟩ := Option.map_eq_some_iff.mp hd'
    have hrow : rows[i]? = some (((i : Nat) : Int) + 1, worthsOf ks.length i c) := by
      rw [hrows, rowsOf_get, hc, Nat.zero_add]
      rfl
    have e : rows.take (i + 1) = rows.take i ++ [(((i : Nat) : Int) + 1, worthsOf ks.length i c)] := by
      rw [List.take_add_one, hrow]
      simp
    refine ex_append S₂ (ev_tuple (evs_cons (ev_add (ev_name rfl) ev_int) (evs_cons (ev_worths b (ks := ks) (i := i) (c := c) hks rfl rfl rfl) evs_nil))) (by rw [List.length_map, List.length_take]; omega) fun s₃ S₃ => ?_
    refine ex_nil ⟨i + 1, rfl, ?_⟩
    show St _ _ _ _ _ (some ⟨_, _, (rows.take (i + 1)).map rowD⟩) _
    rw [e, List.map_append]
    exact S₃.weak (Sub.at ⟨rfl, rfl, trivial⟩)
  · rintro _ s₂ rfl S₂
    rw [numbered_length, ← List.map_take, List.length_map, ← hrl, List.take_length] at S₂
    have S₃ := own_done S₂ hl
    have f89' : Free89 (BL prog w hB A L fa cd) K₀ ((l :: Y).filter fun b => b != l) := ⟨List.mem_filter.mpr ⟨.tail _ f89.mem, by simpa using hl89⟩, f89.off, f89.loc, f89.cel⟩
    refine ex_rows (ks := ks) (rs := rows.reverse) S₃ b lb rb (g.mono (by decide)) rfl (ev_name rfl) (ev_eq (ev_rev (ev_name rfl) (ev_neg ev_int) (by rw [List.length_map]; omega)) ?_) (.inl rfl) (by omega) (by rw [List.length_reverse]; omega) ?_ ?_ h89 hK low old f89' fun s₄ rs' ps hp hw S₄ => ?_
    · rw [← List.map_reverse]; rfl
    · intro r m
      exact rowsOf_worths (hrows ▸ List.mem_reverse.mp m)
    · rw [List.map_reverse]
      exact (List.reverse_perm _).nodup_iff.mpr (hrows ▸ rowsOf_nodup _ _)
    · exact law_order b g S₄ ⟨rfl, rfl, rfl, trivial⟩ (by omega) (l := cells.take 6) (by rw [List.length_take]; omega) hrows (hp.trans (List.reverse_perm _)) hw fun s' S' => hQ s' ps _ S'
end
end Mine
end

section
set_option maxRecDepth 100000
namespace Mine

noncomputable def absI (i : Int) : Int := if i < 0 then -i else i
noncomputable def absF : PyData → PyData
  | .int i => .int (absI i)
  | d => d
noncomputable def pick (c : Int) : Str := lawWords.getD (c.fmod 13).toNat ""
noncomputable def pickF : PyData → PyData
  | .int c => .str (pick c)
  | d => d
theorem pick_mem {c : Int} : pick c ∈ lawWords := by
  have h0 : 0 ≤ c.fmod 13 := Int.fmod_nonneg_of_pos _ (by decide)
  have h1 : c.fmod 13 < 13 := Int.fmod_lt_of_pos _ (by decide)
  have hl : (c.fmod 13).toNat < lawWords.length := by show _ < 13; omega
  unfold pick
  rw [List.getD_eq_getElem?_getD, List.getElem?_eq_getElem hl]
  exact List.getElem_mem hl

section
variable {prog : Program} {w : World} {hB : Heap} {A : Around} {L fa : Addr} {cd : Value} {sin s : Shared} {K K₀ : Addr → Obj → Prop} {Y : List Addr} {E : Value → Shared → Prop} {Q : Flow → Shared → Prop}

/-- from the keys written and read back on -/
theorem law_check (b : Base hB) (fb : FaultBase hB) (lb : LamBase hB) (rb : RowsBase hB) (g : Good 12 A) {ρ : List (Str × PyData)} {ks : List (Str × Bool)} {cells : List Int} (S : St (BL prog w hB A L fa cd) sin K Y ρ none s)
    (hρ : Sub [("cells", .list (cells.map .int)), ("keys", keysD ks)] ρ) (hks : ks.length ≤ 18) (hok : KeysOk ks) (hne : ks ≠ []) (hcl : cells.length ≤ 20)
    (h89 : K 89 (tabObj #[])) (hK : ∀ b x, K₀ b x → K b x) (low : ∀ b x, hB.get? b = some x → K₀ b x) (old : ∀ b x, sin.heap.get? b = some x → K₀ b x) (f89 : Free89 (BL prog w hB A L fa cd) K₀ Y)
    (hQ : ∀ s' ps Y', St (BL prog w hB A L fa cd) sin (fun a q => K₀ a q ∨ (a = 89 ∧ q = tabObj ps)) Y' [] none s' → Q (.ret (.bool true)) s') :
    wpAny (model prog w) A (execs ((fbody 19).drop 6) (envLaw L fa cd)) Q E s := by
  have hrd := read_shown ks 0 [] hok hne
  rw [List.nil_append] at hrd
  have hsl := showKeys_length ks
  refine ex_if (b := false) S (tr_eq (tr_cmp (ev_call b.g9 b.f9 (fun_readOk b fb (showKeys ks) ks (by omega) (shown_len hok) hrd) (g.mono (by decide)) rfl (evs_cons (ev_call b.g10 b.f10 (fun_show b ks (by omega)) (g.mono (by decide)) rfl (evs_cons (ev_name (hρ.at _ _ rfl)) evs_nil)) evs_nil)) (ev_name (hρ.at _ _ rfl)) (cmp_ne (shaped_keys hok) (shaped_keys hok))) ?_)
    (fun h => nomatch h) fun _ s₁ S₁ => then_nil (law_rows b lb rb g S₁ hρ hks hcl h89 hK low old f89 hQ)
  rw [eqv_same (shaped_keys hok)]; rfl

theorem law_start (b : Base hB) (fb : FaultBase hB) (lb : LamBase hB) (rb : RowsBase hB) (g : Good 12 A) (hfr : A.frames = some [envLaw L fa cd]) {script : List Int} (S : St (BL prog w hB A L fa cd) sin K Y [("script", .list (script.map .int))] none s)
    (hsc : script.length ≤ 63) (h107 : 107 ∉ Y) (hT : ∃ vs : List Value, hB.IsTuple 107 vs.toArray ∧ StrsAre vs lawWords)
    (h89 : K 89 (tabObj #[])) (hK : ∀ b x, K₀ b x → K b x) (low : ∀ b x, hB.get? b = some x → K₀ b x) (old : ∀ b x, sin.heap.get? b = some x → K₀ b x) (f89 : Free89 (BL prog w hB A L fa cd) K₀ Y)
    (hQ : ∀ s' ps Y', St (BL prog w hB A L fa cd) sin (fun a q => K₀ a q ∨ (a = 89 ∧ q = tabObj ps)) Y' [] none s' → Q (.ret (.bool true)) s') :
    wpAny (model prog w) A (execs (fbody 19) (envLaw L fa cd)) Q E s := by
  obtain ⟨base, hbase⟩ : ∃ base : List Int, base = (script.take 9).map absI := ⟨_, rfl⟩
  have hb9 : base.length ≤ 9 := by rw [hbase, List.length_map, List.length_take]; omega
  obtain ⟨cells, hcells⟩ : ∃ cells : List Int, cells = base ++ [(script.length : Int) * 41 + 8] := ⟨_, rfl⟩
  have hc10 : cells.length = base.length + 1 := by rw [hcells, List.length_append, List.length_singleton]
  obtain ⟨words, hwords⟩ : ∃ words : List Str, words = base.map pick := ⟨_, rfl⟩
  have hw9 : words.length ≤ 9 := by rw [hwords, List.length_map]; exact hb9
  have hwm : ∀ x ∈ words, x ∈ lawWords := fun x m => by
    rw [hwords] at m
    obtain ⟨c, _, rfl⟩ := List.mem_map.mp m
    exact pick_mem
  have hwl : ∀ x ∈ words, x.length ≤ 1000 := fun x m => word_len (hwm x m)
  have e1 : PyData.list (((script.map PyData.int).take 9).map absF ++ [.int ((script.length : Int) * 41 + 8)]) = .list (cells.map .int) := by
    rw [hcells, hbase, List.map_append, ← List.map_take, List.map_map, List.map_map]
    rfl
  refine ex_assign (x := "cells") S (ev_eq (ev_cat (ev_comp absF (src_list (ev_cutTo (k := 9) (ev_name rfl) ev_int (by rw [List.length_map]; omega))) (by rw [List.length_take, List.length_map]; omega) rfl (by decide) rfl (by decide) rfl caught_nil ?_ fun c d hd => ?_)
    (ev_list (ds := [.int ((script.length : Int) * 41 + 8)]) (evs_cons (ev_add (ev_mul (ev_eq (ev_bi b.bLen rfl (evs_cons (ev_name rfl) evs_nil) (bi_len (by rw [List.length_map]; omega))) (by rw [List.length_map])) ev_int (by decide +kernel)) ev_int) evs_nil)) ?_) e1) (.inl rfl) (fun q e => (nomatch e)) fun s₁ S₁ => ?_
  · intro d hd
    obtain ⟨i, _, rfl⟩ := List.mem_map.mp (List.mem_of_mem_take hd)
    rfl
  · obtain ⟨i, _, rfl⟩ := List.mem_map.mp (List.mem_of_mem_take hd)
    exact ev_bi b.bAbs rfl (evs_cons (ev_toInt b.bInt rfl (ev_name rfl)) evs_nil) bi_abs
  · rw [List.length_map, List.length_take, List.length_map, List.length_singleton]; omega
  obtain ⟨vs, hT1, hT2⟩ := hT
  have e2 : ((cells.map PyData.int).take ((cells.map PyData.int).length - 1)) = base.map .int := by
    rw [List.length_map, hc10, ← List.map_take, hcells]
    simp
  have e3 : PyData.list ((base.map PyData.int).map pickF) = textsD words := by
    rw [hwords, textsD, List.map_map, List.map_map]
    rfl
  refine ex_assignComp (xs := base.map .int) (ρf := []) pickF S₁ (src_list (ev_eq (ev_cutLast (ev_name rfl) (ev_neg ev_int) (by rw [List.length_map]; omega)) (congrArg PyData.list e2))) (by rw [List.length_map]; omega) rfl (by decide) rfl (by decide) rfl caught_nil ?_ (.inl rfl) fun s₂ S₂ => ?_
  · intro cc d hd s₃ E' kp P₃
    obtain ⟨c, _, rfl⟩ := List.mem_map.mp hd
    have h0 : 0 ≤ c.fmod 13 := Int.fmod_nonneg_of_pos _ (by decide)
    have h1 : c.fmod 13 < 13 := Int.fmod_lt_of_pos _ (by decide)
    have hl : (c.fmod 13).toNat < lawWords.length := by show _ < 13; omega
    refine wpAny_mono ((ev_tupItem (d := .str (pick c)) (ev_gtup b.g15 rfl (by rw [show (inner _ _ _ _).X = Y ++ [] from rfl, List.append_nil]; exact h107) hT1 hT2) (ev_toInt b.bInt rfl (ev_mod (ev_name rfl) ev_int (by decide))) h0 (by omega) ?_ : Ev _ _ _ (.str (pick c))) s₃ E' P₃) (fun y s₄ h₄ => ?_) fun _ _ e => e
    · rw [List.getElem?_map, pick, List.getD_eq_getElem?_getD, List.getElem?_eq_getElem hl]
      rfl
    · exact ⟨h₄.1, h₄.2.flat rfl _ _⟩
  rw [e3] at S₂
  refine ex_assign2 S₂ (ev_call b.g16 b.f16 (fun_read b words (by omega) hwl) (g.mono (by decide)) rfl (evs_cons (ev_name rfl) evs_nil)) (.inl rfl) (.inl rfl) (fun q e => (nomatch e)) fun s₃ S₃ => ?_
  have hsame := read_same (words.map upTxt) 0 [] false (fun k m => (nomatch m))
  have hro := read_ok (words.map upTxt) 0 [] false (fun k m => (nomatch m))
  rw [upper_words hwm] at S₃
  rw [List.length_map] at hro
  refine ex_heard S₃ b fb (g.mono (by decide)) hfr rfl rfl rfl (ev_name rfl) (by omega) hwl (.inl rfl) (.inl rfl) fun d₁ d₂ s₄ hd S₄ => ?_
  have S₄ := S₄.weak (ρ' := [("spot", d₂), ("heard", d₁), ("place", .int (lawRead 0 [] false (words.map upTxt)).2), ("keys", keysD (lawRead 0 [] false (words.map upTxt)).1), ("cells", .list (cells.map .int))]) (Sub.at ⟨rfl, rfl, rfl, rfl, rfl, trivial⟩)
  obtain ⟨ks, place, hl⟩ : ∃ ks place, lawRead 0 [] false (words.map upTxt) = (ks, place) := ⟨_, _, rfl⟩
  rw [hl] at S₄ hro
  simp only at S₄ hro
  cases hp : projRead 0 [] false (words.map upTxt) with
  | ok ks' =>
    rw [hp, hl] at hsame
    rw [hp] at hd
    obtain ⟨hq, hne⟩ := hsame
    cases hq
    cases hd
    refine ex_if (b := false) S₄ (tr_eq (tr_or (x := false) (y := false) (tr_eq (tr_cmp (ev_name rfl) (ev_name rfl) (cmp_ne rfl rfl)) (by rw [eqv_int]; rfl)) fun _ => tr_eq (tr_and (x := true) (y := false) (tr_eq (tr_cmp (ev_name rfl) ev_int cmp_lt) rfl) fun _ => tr_eq (tr_cmp (ev_name rfl) (ev_name rfl) (cmp_ne (shaped_keys hro.1) (shaped_keys hro.1))) (by rw [eqv_same (shaped_keys hro.1)]; rfl)) rfl) rfl)
      (fun h => nomatch h) fun _ s₅ S₅ => then_nil ?_
    refine ex_if (b := false) S₅ (tr_eq (tr_cmp (ev_name rfl) ev_int cmp_ge) rfl) (fun h => nomatch h) fun _ s₆ S₆ => then_nil ?_
    exact law_check b fb lb rb g S₆ ⟨rfl, rfl, trivial⟩ (by have := hro.2; simp only [List.length_nil] at this; omega) hro.1 hne (by omega) h89 hK low old f89 hQ
  | error i =>
    rw [hp, hl] at hsame
    rw [hp] at hd
    obtain ⟨hq, hi⟩ := hsame
    have hq : place = i := hq
    subst hq
    cases hd
    refine ex_if (b := false) S₄ (tr_eq (tr_or (x := false) (y := false) (tr_eq (tr_cmp (ev_name rfl) (ev_name rfl) (cmp_ne rfl rfl)) (by rw [eqv_int]; simp)) fun _ => tr_eq (tr_and (x := false) (y := false) (tr_eq (tr_cmp (ev_name rfl) ev_int cmp_lt) (decide_eq_false (by omega))) fun h => nomatch h) rfl) rfl)
      (fun h => nomatch h) fun _ s₅ S₅ => then_nil ?_
    refine ex_if (b := true) S₅ (tr_eq (tr_cmp (ev_name rfl) ev_int cmp_ge) (decide_eq_true hi)) (fun _ s₆ S₆ => ?_) fun h => nomatch h
    have hsize : ("SIZE" : Str) ∈ sortWords := by decide
    refine ex_assign S₆ (ev_eq (ev_cat (ev_cutTo (k := 3) (ev_name rfl) ev_int ?_) (ev_list (ds := [.tuple [.str "SIZE", .bool (decide (place.fmod 2 = 0))]]) (evs_cons (ev_tuple (evs_cons ev_str (evs_cons (ev_eq (ev_cmp (ev_mod (ev_name rfl) ev_int (by decide)) ev_int (cmp_eq rfl rfl)) (by rw [eqv_int])) evs_nil))) evs_nil)) ?_) (d' := keysD (ks.take 3 ++ [(("SIZE" : Str), decide (place.fmod 2 = 0))])) ?_) (.inl rfl) (fun q e => (nomatch e)) fun s₇ S₇ => ?_
    · have := hro.2
      rw [List.length_map]
      simp only [List.length_nil] at this
      omega
    · rw [List.length_take]
      simp only [List.length_singleton]
      omega
    · rw [keysD, List.map_append, List.map_take]; rfl
    · refine then_nil (law_check b fb lb rb g S₇ ⟨rfl, rfl, trivial⟩ ?_ ?_ ?_ (by omega) h89 hK low old f89 hQ)
      · rw [List.length_append, List.length_take, List.length_singleton]; omega
      · intro k m
        rcases List.mem_append.mp m with m | m
        · exact hro.1 k (List.mem_of_mem_take m)
        · rw [List.mem_singleton.mp m]; exact hsize
      · simp
end
end Mine
end

section
set_option maxRecDepth 100000
namespace Mine

/-! what the top's written objects say -/
noncomputable def FnK (K : Frag) (a i : Nat) : Prop := ∃ o pm c doc oc vs t, K.lookup a = some o ∧ o.data = .func (Calls.docDef (fname i) (fparams i) (fbody i) (fscope i) pm (.ref c) doc) ∧ K.lookup c = some oc ∧ oc.data = .fields vs ∧ vs[1]? = some (.str (fname i) t)
theorem FnK.fn {K : Frag} {h : Heap} {a i : Nat} (X : K.In h) (f : FnK K a i) : FnAt h a i := by
  obtain ⟨o, pm, c, doc, oc, vs, t, h1, h2, h3, h4, h5⟩ := f
  exact ⟨o, pm, .ref c, doc, X _ _ h1, h2, c, oc, vs, t, rfl, X _ _ h3, h4, h5⟩
noncomputable def InK (K : Frag) (x : Str) (v : Value) : Prop := nsIn K mainGlobals x = some (some v)
noncomputable def BuK (K : Frag) (x : Str) (v : Value) : Prop := nsIn K mainGlobals x = some none ∧ bootBuiltins x = some v ∧ (x == "__name__") = false

structure Chk (K : Frag) : Prop where
  f5 : FnK K 66 5
  f8 : FnK K 73 8
  f9 : FnK K 80 9
  f10 : FnK K 87 10
  f11 : ∃ o pm doc oc vs t, K.lookup 92 = some o ∧ o.data = .func (Calls.docDef (fname 11) (fparams 11) (fbody 11) (fscope 11) pm (.ref 91) doc) ∧ K.lookup 91 = some oc ∧ oc.data = .fields vs ∧ vs[1]? = some (.str (fname 11) t)
  f12 : FnK K 99 12
  f13 : FnK K 106 13
  f16 : FnK K 114 16
  f17 : FnK K 121 17
  f18 : FnK K 128 18
  g5 : InK K "upper_text" (.ref 66)
  g8 : InK K "sort_words" (.ref 73)
  g9 : InK K "read_sort_keys" (.ref 80)
  g10 : InK K "show_sort_keys" (.ref 87)
  g11 : InK K "sort_rows" (.ref 92)
  g12 : InK K "is_ahead" (.ref 99)
  g13 : InK K "sorted_place" (.ref 106)
  g15 : InK K "_law_words" (.ref 107)
  g16 : InK K "_law_read" (.ref 114)
  g17 : InK K "_law_heard" (.ref 121)
  g18 : InK K "_law_first" (.ref 128)
  gW : ∃ t, InK K "SORT_WORDS" (.str "ARRIVAL CC DATE DISPLAYFROM DISPLAYTO FROM SIZE SUBJECT TO" t)
  gQ : InK K "QueryFault" (.ref 59)
  gB : InK K "__builtins__" (.ref 4)
  bAbs : BuK K "abs" (.builtin "abs")
  bInt : BuK K "int" (.type "int")
  bLen : BuK K "len" (.builtin "len")
  bRange : BuK K "range" (.type "range")
  bEnum : BuK K "enumerate" (.type "enumerate")
  bSorted : BuK K "sorted" (.builtin "sorted")
  bZip : BuK K "zip" (.type "zip")
  bChr : BuK K "chr" (.builtin "chr")
  bOrd : BuK K "ord" (.builtin "ord")
  bExc : BuK K "Exception" (.type "Exception")
  xk : XK K
  ini : ∃ o pm c doc dv n oT oc vs t, K.lookup 36 = some o ∧ o.cls = .type "function" ∧ o.data = .func (initFd pm (.ref c) doc) ∧ K.lookup 29 = some oT ∧ oT.data = .seq #[dv] n ∧ K.lookup c = some oc ∧ oc.data = .fields vs ∧ vs[1]? = some (.str "PostError.__init__" t)
  words : ∃ o vs n, K.lookup 107 = some o ∧ o.cls = .type "tuple" ∧ o.data = .seq (vs : List Value).toArray n ∧ StrsAre vs lawWords

section
variable {K : Frag} {h : Heap} {p : Program} {loose : List Str} {mean : ExcName → Option Value} {mg mb : Str → Option Value}

theorem InK.gl {x : Str} {v : Value} (X : K.In h) (T : Top p loose mean mg mb h) (i : InK K x v) : Gl h x v := ⟨mg, T.g, .inl (mg_of X T.g i)⟩
theorem BuK.gl {x : Str} {v : Value} (X : K.In h) (T : Top p loose mean mg mb h) (i : BuK K x v) : Gl h x v :=
  ⟨mg, T.g, .inr ⟨mg_none_of X T.g i.1, mb, T.b, (T.builtins x (fun e => by have := i.2.2; rw [e] at this; simp at this)).trans i.2.1⟩⟩

theorem Chk.base (c : Chk K) (X : K.In h) (T : Top p loose mean mg mb h) : Base h where
  lim := T.nolimit
  f5 := c.f5.fn X
  f8 := c.f8.fn X
  f9 := c.f9.fn X
  f10 := c.f10.fn X
  f11 := by
    obtain ⟨o, pm, doc, oc, vs, t, h1, h2, h3, h4, h5⟩ := c.f11
    exact FnK.fn X ⟨o, pm, 91, doc, oc, vs, t, h1, h2, h3, h4, h5⟩
  f12 := c.f12.fn X
  f13 := c.f13.fn X
  f16 := c.f16.fn X
  f17 := c.f17.fn X
  f18 := c.f18.fn X
  g5 := c.g5.gl X T
  g8 := c.g8.gl X T
  g9 := c.g9.gl X T
  g10 := c.g10.gl X T
  g11 := c.g11.gl X T
  g12 := c.g12.gl X T
  g13 := c.g13.gl X T
  g15 := c.g15.gl X T
  g16 := c.g16.gl X T
  g17 := c.g17.gl X T
  g18 := c.g18.gl X T
  gW := let ⟨t, i⟩ := c.gW; ⟨t, i.gl X T⟩
  bAbs := c.bAbs.gl X T
  bInt := c.bInt.gl X T
  bLen := c.bLen.gl X T
  bRange := c.bRange.gl X T
  bEnum := c.bEnum.gl X T
  bSorted := c.bSorted.gl X T
  bZip := c.bZip.gl X T
  bChr := c.bChr.gl X T
  bOrd := c.bOrd.gl X T
theorem Chk.fault (c : Chk K) (X : K.In h) (T : Top p loose mean mg mb h) : FaultBase h where
  frag := ⟨K, X, c.xk⟩
  ini := by
    obtain ⟨o, pm, cc, doc, dv, n, oT, oc, vs, t, h1, h2, h3, h4, h5, h6, h7, h8⟩ := c.ini
    exact ⟨o, pm, .ref cc, doc, dv, n, oT, X _ _ h1, h2, h3, X _ _ h4, h5, cc, oc, vs, t, rfl, X _ _ h6, h7, h8⟩
  exc := c.bExc.gl X T
  fault := c.gQ.gl X T
theorem Chk.rows (c : Chk K) (X : K.In h) : RowsBase h where
  at' := by
    obtain ⟨o, pm, doc, oc, vs, t, h1, h2, h3, h4, h5⟩ := c.f11
    exact ⟨o, pm, doc, X _ _ h1, h2, 91, oc, vs, t, rfl, X _ _ h3, h4, h5⟩
theorem Chk.lam (c : Chk K) (X : K.In h) (T : Top p loose mean mg mb h) (hd : CodeHd h 91 89) (t : h.get? 89 = none) : LamBase h where
  hd := hd
  t := t
  g := by
    obtain ⟨bm, ob, h1, h2, h3, h4, h5, h6⟩ := T.bmain
    have e := mg_of X T.g c.gB
    rw [h1] at e
    have e : bm = 4 := by simpa using e
    subst e
    exact ⟨mg, 4, ob, T.g, h1, h2, by decide, h3, h4, h5, h6⟩
end
end Mine
end

section
set_option maxRecDepth 100000
namespace Mine

section
variable {prog : Program} {w : World} {K : Frag} {h h₁ : Heap} {p : Program} {loose : List Str} {mean : ExcName → Option Value} {mg mb m : Str → Option Value} {E : Value → Shared → Prop} {Q : Flow → Shared → Prop}

theorem cells19 (L fa : Addr) (cd : Value) : (envLaw L fa cd).cells = [(("number" : Str), L + 3), (("rows" : Str), L + 2), (("cell" : Str), L + 1)] := rfl

theorem law_enter {A : Around} {L fa a : Addr} {cd : Value} {s : Shared} {tk : Nat} {o1 o2 o3 : Obj} {v1 v2 v3 : Option Value} {items : List Value} {script : List Int} (g : Good 1 A) (F : Fr (ghost89 h) L h₁ m) (hm : m "script" = some (.ref a))
    (n1 : h₁.get? (L + 1) = some o1 ∧ (ghost89 h).get? (L + 1) = none) (n2 : h₁.get? (L + 2) = some o2 ∧ (ghost89 h).get? (L + 2) = none) (n3 : h₁.get? (L + 3) = some o3 ∧ (ghost89 h).get? (L + 3) = none) (n89 : h₁.get? 89 = some (tabObj #[]) ∧ (89 : Addr) ≠ L)
    (c1 : o1.data = .cell v1) (c2 : o2.data = .cell v2) (c3 : o3.data = .cell v3) (hl : (ghost89 h).IsList a items.toArray) (hI : IntsAre items script) :
    St (BL prog w (ghost89 h) A L fa cd) { s with heap := ghost89 h } (fun b x => (ghost89 h).get? b = some x ∨ (b = 89 ∧ x = tabObj #[])) [L, L + 1, L + 2, L + 3, 89] [("script", .list (script.map .int))] none { s with heap := h₁, toks := tk } := by
  have nL : (ghost89 h).get? L = none := Heap.get?_none_of_le F.above
  have off : ∀ b ∈ [L, L + 1, L + 2, L + 3, 89], (ghost89 h).get? b = none := fun b hb => by
    simp only [List.mem_cons, List.not_mem_nil, or_false] at hb
    rcases hb with rfl | rfl | rfl | rfl | rfl
    · exact nL
    · exact n1.2
    · exact n2.2
    · exact n3.2
    · exact ghost89_none
  have up : Up [] (ghost89 h) ([L, L + 1, L + 2, L + 3, 89] ++ []) h₁ := fun b o _ e => ⟨fun q => (by
    rw [List.append_nil] at q
    rw [off b q] at e
    cases e), F.keep b o e⟩
  have ne : ∀ {b : Addr} {o : Obj} {v : Option Value}, h₁.get? b = some o → o.data = .cell v → b ≠ 89 := fun e d q => by
    rw [q, n89.1] at e
    cases e
    cases d
  have cel : ∀ y c, (envLaw L fa cd).cells.lookup y = some c → (c = L + 1 ∧ ∃ v, h₁.IsCell (L + 1) v ∧ y = "cell") ∨ (c = L + 2 ∧ ∃ v, h₁.IsCell (L + 2) v ∧ y = "rows") ∨ (c = L + 3 ∧ ∃ v, h₁.IsCell (L + 3) v ∧ y = "number") := fun y c e => by
    rw [cells19] at e
    rw [List.lookup_cons] at e
    cases q : y == ("number" : Str) with
    | true => rw [q] at e; cases e; exact .inr (.inr ⟨rfl, _, ⟨o3, n3.1, c3⟩, eq_of_beq q⟩)
    | false =>
      rw [q] at e
      rw [List.lookup_cons] at e
      cases q' : y == ("rows" : Str) with
      | true => rw [q'] at e; cases e; exact .inr (.inl ⟨rfl, _, ⟨o2, n2.1, c2⟩, eq_of_beq q'⟩)
      | false =>
        rw [q'] at e
        rw [List.lookup_cons] at e
        cases q'' : y == ("cell" : Str) with
        | true => rw [q''] at e; cases e; exact .inl ⟨rfl, _, ⟨o1, n1.1, c1⟩, eq_of_beq q''⟩
        | false => rw [q''] at e; cases e
  have lt : ∀ k : Nat, L + (k + 1) ≠ L := fun k => Nat.ne_of_gt (Nat.lt_add_of_pos_right (Nat.succ_pos k))
  refine ⟨⟨⟨g, rfl, rfl, rfl⟩, F.keep, fun b q => ?_, ?_⟩, ⟨h₁, tk, rfl⟩, fun b x q => ?_, .head _, fun x q => ?_, ⟨m, F.ns⟩, fun y c e => ?_, fun y z c e e' => ?_, fun q e => (nomatch e), fun b x e => .inl e, fun b x e => .inl e⟩
  · have q : b ∈ [L, L + 1, L + 2, L + 3, 89] ++ [] := q
    rw [List.append_nil] at q
    simp only [List.mem_cons, List.not_mem_nil, or_false] at q
    rcases q with rfl | rfl | rfl | rfl | rfl
    · obtain ⟨o, es, ep, e, _⟩ := F.ns
      exact ⟨o, e⟩
    · exact ⟨_, n1.1⟩
    · exact ⟨_, n2.1⟩
    · exact ⟨_, n3.1⟩
    · exact ⟨_, n89.1⟩
  · refine vars_cons (fun y e _ q => nomatch q) ⟨.ref a, .inl ⟨rfl, m, F.ns, hm⟩, ?_⟩
    exact (Is.list (X := []) (by simp) hl (IsAll.ofInts hI)).up up
  · rcases q with q | ⟨rfl, rfl⟩
    · exact F.keep b x q
    · exact n89.1
  · rcases q with q | q
    · have q : (ghost89 h).get? L = some x := q
      rw [nL] at q; cases q
    · exact n89.2 q.1.symm
  · rcases cel y c e with ⟨rfl, v, hc, _⟩ | ⟨rfl, v, hc, _⟩ | ⟨rfl, v, hc, _⟩
    · refine ⟨.tail _ (.head _), lt 0, fun x q => ?_, v, hc⟩
      rcases q with q | q
      · rw [n1.2] at q; cases q
      · exact ne n1.1 c1 q.1
    · refine ⟨.tail _ (.tail _ (.head _)), lt 1, fun x q => ?_, v, hc⟩
      rcases q with q | q
      · rw [n2.2] at q; cases q
      · exact ne n2.1 c2 q.1
    · refine ⟨.tail _ (.tail _ (.tail _ (.head _))), lt 2, fun x q => ?_, v, hc⟩
      rcases q with q | q
      · rw [n3.2] at q; cases q
      · exact ne n3.1 c3 q.1
  · have inj : ∀ i j : Nat, L + i = L + j → i = j := fun i j e => Nat.add_left_cancel e
    rcases cel y c e with ⟨rfl, _, _, rfl⟩ | ⟨rfl, _, _, rfl⟩ | ⟨rfl, _, _, rfl⟩ <;> rcases cel z _ e' with ⟨q, _, _, rfl⟩ | ⟨q, _, _, rfl⟩ | ⟨q, _, _, rfl⟩
    · rfl
    · have := inj 1 2 q; omega
    · have := inj 1 3 q; omega
    · have := inj 2 1 q; omega
    · rfl
    · have := inj 2 3 q; omega
    · have := inj 3 1 q; omega
    · have := inj 3 2 q; omega
    · rfl

theorem law_join {fa a : Addr} {cd : Value} {s : Shared} {tk : Nat} {o1 o2 o3 : Obj} {v1 v2 v3 : Option Value} {items : List Value} {script : List Int} (ck : Chk K) (X : K.In (ghost89 h)) (T : Top p loose mean mg mb (ghost89 h)) (hd : CodeHd (ghost89 h) 91 89)
    (F : Fr (ghost89 h) h.objs.size h₁ m) (hm : m "script" = some (.ref a))
    (N : News (ghost89 h) h.objs.size h₁ [(h.objs.size + 1 + 1 + 1, o3), (h.objs.size + 1 + 1, o2), (h.objs.size + 1, o1), (89, tabObj #[])])
    (c1 : o1.data = .cell v1) (c2 : o2.data = .cell v2) (c3 : o3.data = .cell v3) (hl : (ghost89 h).IsList a items.toArray) (hI : IntsAre items script) (hsc : script.length ≤ 63)
    (hQ : ∀ s' m', Fr (ghost89 h) h.objs.size s'.heap m' → s'.gens = s.gens → s'.os = s.os → GrownAll [(91, 89)] s'.heap → Q (.ret (.bool true)) s') :
    wpAny (model prog w) (callerA.deeper (envLaw h.objs.size fa cd)) (execs (fbody 19) (envLaw h.objs.size fa cd)) Q E { s with heap := h₁, toks := tk } := by
  have g : Good 12 (callerA.deeper (envLaw h.objs.size fa cd)) := ⟨rfl, by show 1 + claimMargin + 1 + 12 ≤ 900; decide, by show 4 + 3 + 40 * 12 ≤ 9000; decide⟩
  have N3 := N _ (.head _)
  have N2 := N _ (.tail _ (.head _))
  have N1 := N _ (.tail _ (.tail _ (.head _)))
  have N89 := N _ (.tail _ (.tail _ (.tail _ (.head _))))
  have S := law_enter (prog := prog) (w := w) (fa := fa) (cd := cd) (s := s) (tk := tk) (g.mono (by decide)) F hm ⟨N1.1, N1.2.2⟩ ⟨N2.1, N2.2.2⟩ ⟨N3.1, N3.2.2⟩ ⟨N89.1, N89.2.1⟩ c1 c2 c3 hl hI
  obtain ⟨ow, vs, n, w1, w2, w3, w4⟩ := ck.words
  have h107 := X _ _ w1
  have lb := ck.lam X T hd ghost89_none
  refine law_start (K₀ := fun b x => (ghost89 h).get? b = some x) (ck.base X T) (ck.fault X T) lb (ck.rows X) g rfl S hsc (fun q => ?_) ⟨vs, ⟨ow, h107, w2, n, w3⟩, w4⟩ (.inr ⟨rfl, rfl⟩) (fun b x q => .inl q) (fun b x q => q) (fun b x q => q)
    ⟨.tail _ (.tail _ (.tail _ (.tail _ (.head _)))), fun q z => (by rw [ghost89_none] at z; cases z), N89.2.1, fun y c e => ?_⟩ fun s' ps Y' S' => ?_
  · have off : (ghost89 h).get? 107 = none := by
      simp only [List.mem_cons, List.not_mem_nil, or_false] at q
      rcases q with q | q | q | q | q
      · rw [q]; exact Heap.get?_none_of_le F.above
      · rw [q]; exact N1.2.2
      · rw [q]; exact N2.2.2
      · rw [q]; exact N3.2.2
      · exact absurd q (by decide)
    rw [off] at h107
    cases h107
  · intro w
    obtain ⟨_, _, _, v, ob, z, d⟩ := S.cel y c e
    have z : h₁.get? c = some ob := z
    rw [← w, N89.1] at z
    cases z
    cases d
  · obtain ⟨m', n'⟩ := S'.ns
    obtain ⟨hp, tk', rfl⟩ := S'.same
    exact hQ _ m' ⟨n', fun b o e => S'.kept b o (.inl e), F.above⟩ rfl rfl ⟨⟨ps, S'.kept _ _ (.inr ⟨rfl, rfl⟩)⟩, trivial⟩
end
end Mine
end

set_option maxRecDepth 100000 in
set_option maxHeartbeats 8000000 in
theorem PySem.Challenge.cw_pq0928_01_holds : PySem.Challenge.rw_pq0928_01.Holds := by
  w_on
  o_law
  k_head
  case hw => w_witness2
  w_strict (
    k_go0
    refine' Mine.law_join ?mj_ck ?mj_X ?mj_T ?mj_hd ?mj_F ?mj_hm ?mj_N ?mj_c1 ?mj_c2 ?mj_c3 ?mj_hl ?mj_hI ?mj_hsc ?mj_hQ
    case mj_X => assumption
    case mj_T => assumption
    case mj_hd => assumption
    case mj_F => assumption
    case mj_hm => rfl
    case mj_N => assumption
    case mj_c1 => assumption
    case mj_c2 => assumption
    case mj_c3 => assumption
    case mj_hl => assumption
    case mj_hI => assumption
    case mj_hsc => omega
    case mj_hQ =>
      intro s' m' F' hg' ho' hG'
      refine ⟨?_, hG'⟩
      refine goodW_bool F' (hg'.trans (by assumption)) (raisesW_false ?_) ?_ ho'
      · wrow_none_raised
      · wrow_post
    case mj_ck =>
      exact
        { f5 := ⟨_, _, _, _, _, _, _, rfl, rfl, rfl, rfl, rfl⟩
          f8 := ⟨_, _, _, _, _, _, _, rfl, rfl, rfl, rfl, rfl⟩
          f9 := ⟨_, _, _, _, _, _, _, rfl, rfl, rfl, rfl, rfl⟩
          f10 := ⟨_, _, _, _, _, _, _, rfl, rfl, rfl, rfl, rfl⟩
          f11 := ⟨_, _, _, _, _, _, rfl, rfl, rfl, rfl, rfl⟩
          f12 := ⟨_, _, _, _, _, _, _, rfl, rfl, rfl, rfl, rfl⟩
          f13 := ⟨_, _, _, _, _, _, _, rfl, rfl, rfl, rfl, rfl⟩
          f16 := ⟨_, _, _, _, _, _, _, rfl, rfl, rfl, rfl, rfl⟩
          f17 := ⟨_, _, _, _, _, _, _, rfl, rfl, rfl, rfl, rfl⟩
          f18 := ⟨_, _, _, _, _, _, _, rfl, rfl, rfl, rfl, rfl⟩
          g5 := by unfold Mine.InK; kernel_rfl
          g8 := by unfold Mine.InK; kernel_rfl
          g9 := by unfold Mine.InK; kernel_rfl
          g10 := by unfold Mine.InK; kernel_rfl
          g11 := by unfold Mine.InK; kernel_rfl
          g12 := by unfold Mine.InK; kernel_rfl
          g13 := by unfold Mine.InK; kernel_rfl
          g15 := by unfold Mine.InK; kernel_rfl
          g16 := by unfold Mine.InK; kernel_rfl
          g17 := by unfold Mine.InK; kernel_rfl
          g18 := by unfold Mine.InK; kernel_rfl
          gW := ⟨262, by unfold Mine.InK; kernel_rfl⟩
          gQ := by unfold Mine.InK; kernel_rfl
          gB := by unfold Mine.InK; kernel_rfl
          bAbs := ⟨by kernel_rfl, by kernel_rfl, by decide⟩
          bInt := ⟨by kernel_rfl, by kernel_rfl, by decide⟩
          bLen := ⟨by kernel_rfl, by kernel_rfl, by decide⟩
          bRange := ⟨by kernel_rfl, by kernel_rfl, by decide⟩
          bEnum := ⟨by kernel_rfl, by kernel_rfl, by decide⟩
          bSorted := ⟨by kernel_rfl, by kernel_rfl, by decide⟩
          bZip := ⟨by kernel_rfl, by kernel_rfl, by decide⟩
          bChr := ⟨by kernel_rfl, by kernel_rfl, by decide⟩
          bOrd := ⟨by kernel_rfl, by kernel_rfl, by decide⟩
          bExc := ⟨by kernel_rfl, by kernel_rfl, by decide⟩
          xk := ⟨⟨_, _, _, _, _, _, _, _, _, _, _, _, _, _, rfl⟩, by kernel_rfl, by kernel_rfl, by kernel_rfl, by kernel_rfl, by kernel_rfl, by kernel_rfl⟩
          ini := ⟨_, _, _, _, _, _, _, _, _, _, rfl, rfl, rfl, rfl, rfl, rfl, rfl, rfl⟩
          words := ⟨_, _, _, rfl, rfl, rfl, by repeat constructor⟩ })
