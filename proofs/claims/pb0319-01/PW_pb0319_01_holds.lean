import PyProof.Rows.All
import Wide.All
import OpenK.AllK
import Wide.FinOn
import KE.KSortTup
import PySem.Challenge.RW_pb0319_01
open PySem PySem.W PyProof.Rows
set_option Elab.async false
set_option linter.all false
set_option maxRecDepth 100000
set_option maxHeartbeats 4000000
namespace Mine
mutual
inductive Rp (h : Heap) (O : List Addr) : Value → PyData → Prop
  | none : Rp h O Value.none PyData.none
  | bool (b : Bool) : Rp h O (Value.bool b) (PyData.bool b)
  | int (i : Int) (t : Tok) : Rp h O (Value.int i t) (PyData.int i)
  | str (x : Str) (t : Tok) : Rp h O (Value.str x t) (PyData.str x)
  | list {a : Addr} {o : Obj} {vs : Array Value} {n : Nat} {ds : List PyData} : h.get? a = some o → a ∉ O → o.cls = .type "list" → o.data = .seq vs n → RpAll h O vs.toList ds → Rp h O (Value.ref a) (PyData.list ds)
  | tuple {a : Addr} {o : Obj} {vs : Array Value} {n : Nat} {ds : List PyData} : h.get? a = some o → a ∉ O → o.cls = .type "tuple" → o.data = .seq vs n → RpAll h O vs.toList ds → Rp h O (Value.ref a) (PyData.tuple ds)
inductive RpAll (h : Heap) (O : List Addr) : List Value → List PyData → Prop
  | nil : RpAll h O [] []
  | cons {v : Value} {vs : List Value} {d : PyData} {ds : List PyData} : Rp h O v d → RpAll h O vs ds → RpAll h O (v :: vs) (d :: ds)
end
mutual
theorem Rp.change {h h' : Heap} {O O' : List Addr} (hk : ∀ a o vs n, a ∉ O → h.get? a = some o → o.data = .seq vs n → h'.get? a = some o) (ho : ∀ a o vs n, a ∉ O → h.get? a = some o → o.data = .seq vs n → a ∉ O') :
    ∀ {v : Value} {d : PyData}, Rp h O v d → Rp h' O' v d
  | _, _, .none => .none
  | _, _, .bool b => .bool b
  | _, _, .int i t => .int i t
  | _, _, .str x t => .str x t
  | _, _, .list e1 e2 e3 e4 r => .list (hk _ _ _ _ e2 e1 e4) (ho _ _ _ _ e2 e1 e4) e3 e4 (RpAll.change hk ho r)
  | _, _, .tuple e1 e2 e3 e4 r => .tuple (hk _ _ _ _ e2 e1 e4) (ho _ _ _ _ e2 e1 e4) e3 e4 (RpAll.change hk ho r)
theorem RpAll.change {h h' : Heap} {O O' : List Addr} (hk : ∀ a o vs n, a ∉ O → h.get? a = some o → o.data = .seq vs n → h'.get? a = some o) (ho : ∀ a o vs n, a ∉ O → h.get? a = some o → o.data = .seq vs n → a ∉ O') :
    ∀ {vs : List Value} {ds : List PyData}, RpAll h O vs ds → RpAll h' O' vs ds
  | _, _, .nil => .nil
  | _, _, .cons r rs => .cons (Rp.change hk ho r) (RpAll.change hk ho rs)
end
def Grow (h h' : Heap) : Prop := ∀ b o, h.get? b = some o → h'.get? b = some o
theorem Grow.refl (h : Heap) : Grow h h := fun _ _ e => e
theorem Grow.trans {a b c : Heap} (x : Grow a b) (y : Grow b c) : Grow a c := fun _ _ e => y _ _ (x _ _ e)
theorem Grow.push (h : Heap) (o : Obj) : Grow h (h.push o) := fun _ _ e => Heap.get?_push_of_some _ e
theorem Rp.grow {h h' : Heap} {O : List Addr} (g : Grow h h') {v : Value} {d : PyData} (r : Rp h O v d) : Rp h' O v d := r.change (fun _ _ _ _ _ e _ => g _ _ e) (fun _ _ _ _ n _ _ => n)
theorem RpAll.grow {h h' : Heap} {O : List Addr} (g : Grow h h') {v : List Value} {d : List PyData} (r : RpAll h O v d) : RpAll h' O v d := r.change (fun _ _ _ _ _ e _ => g _ _ e) (fun _ _ _ _ n _ _ => n)
theorem Rp.sub {h : Heap} {O O' : List Addr} (g : ∀ a ∈ O', a ∈ O) {v : Value} {d : PyData} (r : Rp h O v d) : Rp h O' v d := r.change (fun _ _ _ _ _ e _ => e) (fun _ _ _ _ n _ _ m => n (g _ m))
theorem RpAll.sub {h : Heap} {O O' : List Addr} (g : ∀ a ∈ O', a ∈ O) {v : List Value} {d : List PyData} (r : RpAll h O v d) : RpAll h O' v d := r.change (fun _ _ _ _ _ e _ => e) (fun _ _ _ _ n _ _ m => n (g _ m))
mutual
theorem Rp.reads {h : Heap} {O : List Addr} : ∀ {v : Value} {d : PyData}, Rp h O v d → ∃ as, Reads h v d as
  | _, _, .none => ⟨_, .none⟩
  | _, _, .bool b => ⟨_, .bool b⟩
  | _, _, .int i t => ⟨_, .int i t⟩
  | _, _, .str x t => ⟨_, .str x t⟩
  | _, _, .list e1 _ e3 e4 r => let ⟨_, q⟩ := RpAll.reads r; ⟨_, .list e1 e3 e4 q⟩
  | _, _, .tuple e1 _ e3 e4 r => let ⟨_, q⟩ := RpAll.reads r; ⟨_, .tuple e1 e3 e4 q⟩
theorem RpAll.reads {h : Heap} {O : List Addr} : ∀ {vs : List Value} {ds : List PyData}, RpAll h O vs ds → ∃ as, ReadsAll h vs ds as
  | _, _, .nil => ⟨_, .nil⟩
  | _, _, .cons r rs => let ⟨_, q⟩ := Rp.reads r; let ⟨_, p⟩ := RpAll.reads rs; ⟨_, .cons q p⟩
end
section
variable {h : Heap} {O : List Addr} {v : Value} {vs ws : List Value} {ds es : List PyData} {d : PyData}
theorem RpAll.length (r : RpAll h O vs ds) : vs.length = ds.length := by
  induction vs generalizing ds with
  | nil => cases r; rfl
  | cons v vs ih => cases r with | cons _ r => rw [List.length_cons, List.length_cons, ih r]
theorem RpAll.append (r : RpAll h O vs ds) (q : RpAll h O ws es) : RpAll h O (vs ++ ws) (ds ++ es) := by
  induction vs generalizing ds with
  | nil => cases r; exact q
  | cons v vs ih => cases r with | cons a r => exact .cons a (ih r)
theorem RpAll.one (r : Rp h O v d) : RpAll h O [v] [d] := .cons r .nil
theorem RpAll.get (r : RpAll h O vs ds) {k : Nat} (hk : ds[k]? = some d) : ∃ v, vs[k]? = some v ∧ Rp h O v d := by
  induction vs generalizing ds k with
  | nil => cases r; simp at hk
  | cons v vs ih =>
    cases r with
    | cons a r =>
      cases k with
      | zero => simp at hk; subst hk; exact ⟨v, rfl, a⟩
      | succ k => exact ih r (by simpa using hk)
theorem RpAll.get' (r : RpAll h O vs ds) {k : Nat} (hk : vs[k]? = some v) : ∃ d, ds[k]? = some d ∧ Rp h O v d := by
  induction vs generalizing ds k with
  | nil => simp at hk
  | cons u vs ih =>
    cases r with
    | cons a r =>
      cases k with
      | zero => simp at hk; subst hk; exact ⟨_, rfl, a⟩
      | succ k => exact ih r (by simpa using hk)
theorem RpAll.set (r : RpAll h O vs ds) (q : Rp h O v d) (k : Nat) : RpAll h O (vs.set k v) (ds.set k d) := by
  induction vs generalizing ds k with
  | nil => cases r; exact .nil
  | cons u vs ih =>
    cases r with
    | cons a r =>
      cases k with
      | zero => exact .cons q r
      | succ k => exact .cons a (ih r k)
theorem RpAll.drop (r : RpAll h O vs ds) (k : Nat) : RpAll h O (vs.drop k) (ds.drop k) := by
  induction vs generalizing ds k with
  | nil => cases r; simpa using RpAll.nil
  | cons u vs ih =>
    cases r with
    | cons a r =>
      cases k with
      | zero => exact .cons a r
      | succ k => simpa using ih r k
theorem RpAll.take (r : RpAll h O vs ds) (k : Nat) : RpAll h O (vs.take k) (ds.take k) := by
  induction vs generalizing ds k with
  | nil => cases r; simpa using RpAll.nil
  | cons u vs ih =>
    cases r with
    | cons a r =>
      cases k with
      | zero => simpa using RpAll.nil
      | succ k => exact .cons a (ih r k)
theorem Rp.int_inv {i : Int} (r : Rp h O v (.int i)) : ∃ t, v = .int i t := by cases r; exact ⟨_, rfl⟩
theorem Rp.str_inv {x : Str} (r : Rp h O v (.str x)) : ∃ t, v = .str x t := by cases r; exact ⟨_, rfl⟩
theorem Rp.bool_inv {b : Bool} (r : Rp h O v (.bool b)) : v = .bool b := by cases r; rfl
theorem Rp.none_inv (r : Rp h O v .none) : v = .none := by cases r; rfl
theorem Rp.list_inv (r : Rp h O v (.list ds)) : ∃ a vs, v = .ref a ∧ a ∉ O ∧ h.IsList a vs ∧ RpAll h O vs.toList ds := by
  cases r with | list e1 e2 e3 e4 r => exact ⟨_, _, rfl, e2, ⟨_, e1, e3, _, e4⟩, r⟩
theorem Rp.tuple_inv (r : Rp h O v (.tuple ds)) : ∃ a vs, v = .ref a ∧ a ∉ O ∧ IsTup h a vs ∧ RpAll h O vs.toList ds := by
  cases r with | tuple e1 e2 e3 e4 r => exact ⟨_, _, rfl, e2, ⟨_, e1, e3, _, e4⟩, r⟩
theorem Rp.of_list {a : Addr} {vs : Array Value} (l : h.IsList a vs) (n : a ∉ O) (r : RpAll h O vs.toList ds) : Rp h O (.ref a) (.list ds) := by
  obtain ⟨o, e1, e2, k, e3⟩ := l; exact .list e1 n e2 e3 r
theorem Rp.of_tup {a : Addr} {vs : Array Value} (l : IsTup h a vs) (n : a ∉ O) (r : RpAll h O vs.toList ds) : Rp h O (.ref a) (.tuple ds) := by
  obtain ⟨o, e1, e2, k, e3⟩ := l; exact .tuple e1 n e2 e3 r
end
theorem keeps_refl (s : Shared) : Keeps s s := ⟨s.heap, s.toks, rfl, fun _ _ e => e⟩
theorem keeps_trans {a b c : Shared} (x : Keeps a b) (y : Keeps b c) : Keeps a c := by
  obtain ⟨h, t, rfl, k⟩ := x
  obtain ⟨h', t', rfl, k'⟩ := y
  exact ⟨h', t', rfl, fun b o e => k' b o (k b o e)⟩
theorem keeps_of {s : Shared} {h : Heap} {t : Nat} (g : Grow s.heap h) : Keeps s { s with heap := h, toks := t } := ⟨h, t, rfl, g⟩
theorem keeps_grow {s s' : Shared} (k : Keeps s s') : Grow s.heap s'.heap := by obtain ⟨h, t, rfl, g⟩ := k; exact g
theorem keeps_toks {s : Shared} (t : Nat) : Keeps s { s with toks := t } := ⟨s.heap, t, rfl, fun _ _ e => e⟩
theorem keeps_push {s : Shared} (o : Obj) (t : Nat) : Keeps s { s with heap := s.heap.push o, toks := t } := ⟨_, t, rfl, Grow.push _ _⟩
theorem fresh_none (h : Heap) : h.get? h.objs.size = none := by
  cases e : h.get? h.objs.size with
  | none => rfl
  | some o => exact absurd (Heap.lt_size e) (Nat.lt_irrefl _)
def blt : List Str := ["len", "range", "list", "int", "sorted"]
structure Cx where
  prog : Program
  w : World
  p : Program
  loose : List Str
  mean : ExcName → Option Value
  mg : Str → Option Value
  mb : Str → Option Value
  hB : Heap
  top : Top p loose mean mg mb hB
  miss : ∀ x ∈ blt, mg x = none
structure RA (A : Around) (k : Nat) : Prop where
  hd : A.handled = none
  dp : A.depth + k < recursionLimit
  un : A.units + 20 * k + 200 < cLine
theorem RA.in1 {A : Around} {k : Nat} (r : RA A (k + 1)) : RA A.in1 k := ⟨r.hd, by have := r.dp; show A.depth + k < _; omega, by have := r.un; show A.units + 1 + 20 * k + 200 < _; omega⟩
theorem RA.deeper {A : Around} {k : Nat} (env : Env) (r : RA A (k + 1)) : RA (A.deeper env) k := ⟨r.hd, by have := r.dp; show A.depth + 1 + k < _; omega, by have := r.un; show A.units + 3 + 20 * k + 200 < _; omega⟩
theorem RA.le {A : Around} {k j : Nat} (r : RA A k) (h : j ≤ k) : RA A j := ⟨r.hd, by have := r.dp; omega, by have := r.un; omega⟩
inductive Slot where
  | val (d : PyData)
  | lst (ds : List PyData)
  | dct (kvs : List (Int × Int))
  | dead
abbrev Sg := List (Str × Slot)
abbrev Kd := Str → Option NameKind
def VarAt (env : Env) (h : Heap) (x : Str) (v : Value) : Prop :=
  (x == ("__debug__" : Str)) = false ∧ (x == ("__classdict__" : Str)) = false ∧
  ((env.kindOf x = some .local ∧ ∃ m, h.Ns env.locals m ∧ m x = some v) ∨
   ((env.kindOf x = some .cell ∨ env.kindOf x = some .free) ∧ ∃ c, env.cells.lookup x = some c ∧ h.IsCell c (some v)))
def intOf : Value → Int
  | .int i _ => i
  | _ => 0
def kvOf (l : List (Int × Value)) : List (Int × Int) := l.map fun p => (p.1, intOf p.2)
def DictInts (cx : Cx) (h : Heap) (a : Addr) (kvs : List (Int × Int)) : Prop :=
  (a == sysModules) = false ∧ ∃ l, Heap.DictOf (intKind cx.prog cx.w) h a l ∧ kvs = kvOf l ∧ ∀ p ∈ l, ∃ i t, p.2 = .int i t
def SlotAt (cx : Cx) (env : Env) (h : Heap) (O : List Addr) (ow : List (Str × Addr)) (x : Str) : Slot → Prop
  | .val d => ∃ v, VarAt env h x v ∧ Rp h O v d
  | .lst ds => ∃ a vs, VarAt env h x (.ref a) ∧ ow.lookup x = some a ∧ h.PlainList a vs ∧ RpAll h O vs.toList ds
  | .dct kvs => ∃ a, VarAt env h x (.ref a) ∧ ow.lookup x = some a ∧ DictInts cx h a kvs
  | .dead => True
structure EnvOk (env : Env) (kd : Kd) : Prop where
  kind : env.scope.kind = .function
  glob : env.globals = mainGlobals
  bi : env.builtins = builtinsNs
  kd : ∀ x, env.kindOf x = kd x
structure St (cx : Cx) (env : Env) (kd : Kd) (X : List Addr) (ow : List (Str × Addr)) (σ : Sg) (s : Shared) : Prop where
  ek : EnvOk env kd
  base : Grow cx.hB s.heap
  loc : ∃ m, s.heap.Ns env.locals m
  locB : cx.hB.get? env.locals = none
  celK : ∀ x, env.kindOf x = some .cell → ∃ c, env.cells.lookup x = some c
  cel : ∀ x c, env.cells.lookup x = some c → (∃ v, s.heap.IsCell c v) ∧ cx.hB.get? c = none ∧ c ≠ env.locals
  celN : ∀ x y c, env.cells.lookup x = some c → env.cells.lookup y = some c → x = y
  old : ∀ a ∈ X, ∃ o, s.heap.get? a = some o
  own : ∀ p ∈ ow, cx.hB.get? p.2 = none ∧ p.2 ∉ X ∧ (∃ o, s.heap.get? p.2 = some o) ∧ p.2 ≠ env.locals ∧ ∀ x c, env.cells.lookup x = some c → c ≠ p.2
  ownN : (ow.map (·.2)).Nodup
  vars : ∀ x sl, σ.lookup x = some sl → SlotAt cx env s.heap (X ++ ow.map (·.2)) ow x sl
theorem isCell_grow {h h' : Heap} {c : Addr} {v : Option Value} (g : Grow h h') (x : h.IsCell c v) : h'.IsCell c v := x.keeps g
theorem isList_grow {h h' : Heap} {a : Addr} {vs : Array Value} (g : Grow h h') (x : h.IsList a vs) : h'.IsList a vs := let ⟨o, e, r⟩ := x; ⟨o, g _ _ e, r⟩
theorem plain_grow {h h' : Heap} {a : Addr} {vs : Array Value} (g : Grow h h') (x : h.PlainList a vs) : h'.PlainList a vs := let ⟨n, e⟩ := x; ⟨n, g _ _ e⟩
theorem isTup_grow {h h' : Heap} {a : Addr} {vs : Array Value} (g : Grow h h') (x : IsTup h a vs) : IsTup h' a vs := let ⟨o, e, r⟩ := x; ⟨o, g _ _ e, r⟩
theorem varAt_grow {env : Env} {h h' : Heap} {x : Str} {v : Value} (g : Grow h h') (q : VarAt env h x v) : VarAt env h' x v :=
  ⟨q.1, q.2.1, q.2.2.imp (fun ⟨a, m, b, c⟩ => ⟨a, m, b.keeps g, c⟩) fun ⟨a, c, b, d⟩ => ⟨a, c, b, isCell_grow g d⟩⟩
theorem dictOf_grow {prog : Program} {w : World} {K : Type} [DecidableEq K] {knd : PySem.KeyKind prog w K} {h h' : Heap} {a : Addr} {l : List (K × Value)} (g : Grow h h') (x : Heap.DictOf knd h a l) : Heap.DictOf knd h' a l :=
  let ⟨o, es, ep, e, r⟩ := x; ⟨o, es, ep, g _ _ e, r⟩
theorem dictInts_grow {cx : Cx} {h h' : Heap} {a : Addr} {kvs : List (Int × Int)} (g : Grow h h') (x : DictInts cx h a kvs) : DictInts cx h' a kvs :=
  let ⟨e, l, d, r⟩ := x; ⟨e, l, dictOf_grow g d, r⟩
theorem slotAt_grow {cx : Cx} {env : Env} {h h' : Heap} {O : List Addr} {ow : List (Str × Addr)} {x : Str} {sl : Slot} (g : Grow h h') (q : SlotAt cx env h O ow x sl) : SlotAt cx env h' O ow x sl := by
  cases sl with
  | val d => obtain ⟨v, a, b⟩ := q; exact ⟨v, varAt_grow g a, b.grow g⟩
  | lst ds => obtain ⟨a, vs, b, c, d, e⟩ := q; exact ⟨a, vs, varAt_grow g b, c, plain_grow g d, e.grow g⟩
  | dct kvs => obtain ⟨a, b, c, d⟩ := q; exact ⟨a, varAt_grow g b, c, dictInts_grow g d⟩
  | dead => trivial
section
variable {cx : Cx} {env : Env} {kd : Kd} {X : List Addr} {ow : List (Str × Addr)} {σ : Sg} {s s' : Shared}
theorem St.keeps (q : St cx env kd X ow σ s) (k : Keeps s s') : St cx env kd X ow σ s' :=
  have g := keeps_grow k
  ⟨q.ek, q.base.trans g, q.loc.imp fun _ n => n.keeps g, q.locB, q.celK, fun x c hc => ⟨(q.cel x c hc).1.imp fun _ e => isCell_grow g e, (q.cel x c hc).2⟩, q.celN, fun a ha => (q.old a ha).imp fun _ e => g _ _ e,
   fun p hp => ⟨(q.own p hp).1, (q.own p hp).2.1, (q.own p hp).2.2.1.imp fun _ e => g _ _ e, (q.own p hp).2.2.2⟩, q.ownN, fun x sl e => slotAt_grow g (q.vars x sl e)⟩
theorem St.oldO (q : St cx env kd X ow σ s) : ∀ a ∈ X ++ ow.map (·.2), ∃ o, s.heap.get? a = some o := by
  intro a ha
  rcases List.mem_append.mp ha with h | h
  · exact q.old a h
  · obtain ⟨p, hp, rfl⟩ := List.mem_map.mp h
    exact (q.own p hp).2.2.1
theorem St.fresh (q : St cx env kd X ow σ s) : s.heap.objs.size ∉ X ++ ow.map (·.2) := fun h => by
  obtain ⟨o, e⟩ := q.oldO _ h
  rw [fresh_none] at e; cases e
end
def CallsTo (cx : Cx) (k : Nat) (f : Str) (ds : List PyData) (d : PyData) : Prop :=
  ∃ fa o fd, cx.mg f = some (.ref fa) ∧ cx.hB.get? fa = some o ∧ o.data = .func fd ∧
    ∀ (A : Around) (s : Shared) (E Q : Value → Shared → Prop) (X : List Addr) (vs : List Value), RA A k → Grow cx.hB s.heap → (∀ a ∈ X, ∃ o, s.heap.get? a = some o) → RpAll s.heap X vs ds →
      (∀ v s', Keeps s s' → Rp s'.heap X v d → Q v s') → wpAny (model cx.prog cx.w) A (call (.ref fa) vs) Q E s
def IsFn (cx : Cx) (g : Str) : Prop := ∃ fa o fd, cx.mg g = some (.ref fa) ∧ cx.hB.get? fa = some o ∧ o.data = .func fd
def GInt (cx : Cx) (x : Str) (i : Int) : Prop := (x == ("__debug__" : Str)) = false ∧ ∃ t, cx.mg x = some (.int i t)
abbrev EvF := Kd → Sg → Expr → (PyData → Prop) → Prop
abbrev TrF := Kd → Sg → Expr → (Bool → Prop) → Prop
def cstW (c : Const) (Q : PyData → Prop) : Prop := match c with
  | .none => Q .none
  | .bool b => Q (.bool b)
  | .int i => Q (.int i)
  | .str x => Q (.str x)
  | _ => False
def nameW (cx : Cx) (kd : Kd) (σ : Sg) (x : Str) (Q : PyData → Prop) : Prop := match σ.lookup x with
  | some (.val d) => Q d
  | some _ => False
  | none => match kd x with
    | some .globalImplicit => ∃ i, GInt cx x i ∧ Q (.int i)
    | _ => False
def binW (op : Operator) (a b : PyData) (Q : PyData → Prop) : Prop := match a, b with
  | .int x, .int y => (match op with
    | .Add => Q (.int (x + y))
    | .Sub => Q (.int (x - y))
    | .Mult => x.natAbs < 2 ^ 64 ∧ y.natAbs < 2 ^ 64 ∧ Q (.int (x * y))
    | .Mod => y ≠ 0 ∧ Q (.int (x.fmod y))
    | .FloorDiv => y ≠ 0 ∧ y.natAbs < 1073741824 ∧ Q (.int (x.fdiv y))
    | .LShift => 0 ≤ y ∧ y ≤ 1000000 ∧ x.natAbs < 2 ^ 64 ∧ Q (.int (x * 2 ^ y.toNat))
    | .RShift => 0 ≤ y ∧ Q (.int (x.fdiv (2 ^ y.toNat)))
    | .BitAnd => Q (.int (Builtin.bitAnd x y))
    | .BitOr => Q (.int (Builtin.bitOr x y))
    | .BitXor => Q (.int (Builtin.bitXor x y))
    | _ => False)
  | .list xs, .list ys => (match op with
    | .Add => xs.length + ys.length ≤ 1000000 ∧ Q (.list (xs ++ ys))
    | _ => False)
  | _, _ => False
def unW (op : UnaryOp) (a : PyData) (Q : PyData → Prop) : Prop := match op, a with
  | .USub, .int i => Q (.int (-i))
  | .Not, .bool b => Q (.bool (!b))
  | _, _ => False
def truthW (d : PyData) (Q : Bool → Prop) : Prop := match d with
  | .bool b => Q b
  | _ => False
def inOk (d : PyData) (ds : List PyData) : Prop := PyData.canLayAll0 ds = true ∧ d.canLay0 = true ∧ d.depth ≤ 64
def cmpW (op : CmpOp) (a b : PyData) (Q : Bool → Prop) : Prop := match op with
  | .Eq => (match a, b with
    | .int x, .int y => Q (x == y)
    | .str x, .str y => Q (x == y)
    | a, b => SeqAt.shaped a = true ∧ SeqAt.shaped b = true ∧ Q (PyData.eqv a b))
  | .NotEq => (match a, b with
    | .int x, .int y => Q (x != y)
    | .str x, .str y => Q (x != y)
    | a, b => SeqAt.shaped a = true ∧ SeqAt.shaped b = true ∧ Q (!PyData.eqv a b))
  | .Lt => (match a, b with | .int x, .int y => Q (decide (x < y)) | _, _ => False)
  | .LtE => (match a, b with | .int x, .int y => Q (decide (x ≤ y)) | _, _ => False)
  | .In => (match b with | .list ds => inOk a ds ∧ Q (ds.any fun y => y.eqv a) | .tuple ds => inOk a ds ∧ Q (ds.any fun y => y.eqv a) | _ => False)
  | .NotIn => (match b with | .list ds => inOk a ds ∧ Q (!ds.any fun y => y.eqv a) | _ => False)
  | _ => False
def isSt : Expr → Bool
  | .Starred .. => true
  | _ => false
def evs (ev : Expr → (PyData → Prop) → Prop) : List Expr → (List PyData → Prop) → Prop
  | [], Q => Q []
  | e :: es, Q => match isSt e with
    | true => False
    | false => ev e fun d => evs ev es fun ds => Q (d :: ds)
def optW (ev : Expr → (PyData → Prop) → Prop) : Option Expr → (PyData → Prop) → Prop
  | none, Q => Q .none
  | some e, Q => ev e Q
def ownE (σ : Sg) (e : Expr) : Option Slot := match nameOf? e with
  | some x => (match σ.lookup x with
    | some (.lst ds) => some (.lst ds)
    | some (.dct kvs) => some (.dct kvs)
    | _ => none)
  | none => none
def sliceOf? : Expr → Option (Option Expr × Option Expr × Option Expr)
  | .Slice a b c _ => some (a, b, c)
  | _ => none
def attrOf? : Expr → Option (Expr × Str × Pos)
  | .Attribute o m p => some (o, m, p)
  | _ => none
def rangeOf? : Expr → Option (List Expr)
  | .Call f args [] _ => (match nameOf? f with
    | some g => if (g == ("range" : Str)) = true then some args else none
    | none => none)
  | _ => none
def getKV (kvs : List (Int × Int)) (k : Int) : Option Int := (kvs.find? fun kv => kv.1 = k).map (·.2)
def putKV (kvs : List (Int × Int)) (k v : Int) : List (Int × Int) := if kvs.any (fun kv => kv.1 = k) then kvs.map (fun kv => if kv.1 = k then (kv.1, v) else kv) else kvs ++ [(k, v)]
def strCut (x : Str) (lo hi : Option Int) : Str :=
  if (1 == 1 && (Builtin.Str.strSliceIndices lo hi 1 x.length).length == x.length) = true then x else ⟨((Builtin.Str.strSliceIndices lo hi 1 x.length).filterMap (x.cps[·]?)).toArray⟩
def itemW (a j : PyData) (Q : PyData → Prop) : Prop := match j with
  | .int k => (match a with
    | .tuple ds => 0 ≤ k ∧ k < 2 ^ 62 ∧ ∃ d, ds[k.toNat]? = some d ∧ Q d
    | .list ds => 0 ≤ k ∧ k < 2 ^ 62 ∧ ∃ d, ds[k.toNat]? = some d ∧ Q d
    | .str x => fitsSsize k = true ∧ (Txt.charAt x k).isSome = true ∧ Q (.str (Txt.item x k))
    | _ => False)
  | _ => False
def partOf : PyData → Option (Option Int)
  | .none => some none
  | .int i => some (some i)
  | _ => none
def sliceW (a l h : PyData) (Q : PyData → Prop) : Prop := match partOf l, partOf h with
  | some lo, some hi => (match a with
    | .list ds => ds.length ≤ 1000000 ∧ Q (.list ((sliceRange (sliceBounds lo hi none ds.length).1 (sliceBounds lo hi none ds.length).2.1 (sliceBounds lo hi none ds.length).2.2).filterMap (ds[·]?)))
    | .str x => (strCut x lo hi).length ≤ 1000 ∧ Q (.str (strCut x lo hi))
    | _ => False)
  | _, _ => False
def pairD (p : Int × Int) : PyData := .tuple [.int p.1, .int p.2]
def leP (p q : Int × Int) : Bool := decide (p.1 < q.1) || (p.1 == q.1 && decide (p.2 ≤ q.2))
def sortP (ps : List (Int × Int)) : List (Int × Int) := ps.mergeSort leP
def intsUp (a b : Int) : List PyData := (List.range (b - a).toNat).map fun (i : Nat) => PyData.int (a + (i : Int))
def setE : Expr → Bool
  | .Set .. => true
  | _ => false
def iterW (ev : Expr → (PyData → Prop) → Prop) (kd : Kd) (σ : Sg) (iter : Expr) (K : List PyData → Prop) : Prop := match ownE σ iter with
  | some (.dct kvs) => kvs.length ≤ 1000000 ∧ K (kvs.map fun p => .int p.1)
  | some _ => False
  | none => match rangeOf? iter with
    | some args => (match kd "range" with
      | some .globalImplicit => (match args with
        | [e] => (match isSt e with | true => False | false => ev e fun d => (match d with | .int n => -1000000 ≤ n ∧ n ≤ 1000000 ∧ K (intsUp 0 n) | _ => False))
        | [e, f] => (match isSt e, isSt f with | false, false => ev e fun c => ev f fun d => (match c, d with | .int a, .int b => -1000000 ≤ a ∧ a ≤ 1000000 ∧ b ≤ 1000000 ∧ -1000000 ≤ b ∧ K (intsUp a b) | _, _ => False) | _, _ => False)
        | _ => False)
      | _ => False)
    | none => (match setE iter with
      | true => False
      | false => ev iter fun d => (match d with | .list ds => ds.length ≤ 1000000 ∧ K ds | _ => False))
def callW (cx : Cx) (k : Nat) (ev : EvF) (kd : Kd) (σ : Sg) (g : Str) (args : List Expr) (Q : PyData → Prop) : Prop := match kd g with
  | some .globalImplicit =>
    if (g == ("len" : Str)) = true then (match args with
      | [e] => (match ownE σ e with
        | some (.lst ds) => ds.length ≤ 1000000 ∧ Q (.int ds.length)
        | some _ => False
        | none => (match isSt e with | true => False | false => ev kd σ e fun d => (match d with | .list ds => ds.length ≤ 1000000 ∧ Q (.int ds.length) | _ => False)))
      | _ => False)
    else if (g == ("int" : Str)) = true then (match args with
      | [e] => (match isSt e with | true => False | false => ev kd σ e fun d => (match d with | .int i => Q (.int i) | _ => False))
      | _ => False)
    else if (g == ("list" : Str)) = true then (match args with
      | [e] => (match isSt e with | true => False | false => ev kd σ e fun d => (match d with | .list ds => ds.length ≤ 1000000 ∧ Q (.list ds) | _ => False))
      | _ => False)
    else if (g == ("sorted" : Str)) = true then (match args with
      | [e] => (match isSt e with | true => False | false => ev kd σ e fun d => ∃ ps : List (Int × Int), d = .list (ps.map pairD) ∧ ps.length < 64 ∧ Q (.list ((sortP ps).map pairD)))
      | _ => False)
    else if (g == ("__debug__" : Str)) = true then False
    else IsFn cx g ∧ evs (ev kd σ) args fun ds => ∃ d, CallsTo cx k g ds d ∧ Q d
  | _ => False
def methW (ev : EvF) (kd : Kd) (σ : Sg) (o : Expr) (m : Str) (ap pos : Pos) (args : List Expr) (Q : PyData → Prop) : Prop :=
  if ((m == ("get" : Str)) && (ap.endLine == pos.line)) = true then (match ownE σ o, args with
    | some (.dct kvs), [e, f] => (match isSt e, isSt f with
      | false, false => ev kd σ e fun a => ev kd σ f fun b => (match a, b with | .int i, .int j => Q (.int ((getKV kvs i).getD j)) | _, _ => False)
      | _, _ => False)
    | _, _ => False)
  else False
def kdC (kd : Kd) (names : List (Str × NameKind)) : Kd := fun y =>
  (names.map fun (n, k) => if (k == .free && true && kd n == some .cell) then (n, NameKind.cell) else (n, k)).lookup y
def compOk (kd : Kd) (scope : Scope) (x : Str) : Bool :=
  scope.kind == .function && scope.names.all (fun p => p.2 != .cell && (p.2 != .local || scope.names.lookup p.1 == some .local) && (p.2 != .free || kd p.1 == some .cell)) && scope.names.lookup x == some .local &&
  !(x == ("__debug__" : Str)) && !(x == ("__classdict__" : Str))
def capt (σ : Sg) (scope : Scope) : Sg := σ.filter fun p => scope.names.lookup p.1 == some .free
def tests (tr : Expr → (Bool → Prop) → Prop) : List Expr → (Bool → Prop) → Prop
  | [], Q => Q true
  | [c], Q => tr c Q
  | _, _ => False
def compW (ev : EvF) (tr : TrF) (kd : Kd) (σ : Sg) (elt : Expr) (gens : List Comprehension) (scope : Scope) (Q : List PyData → Prop) : Prop := match gens with
  | [g] => (match nameOf? g.target with
    | some x => (match compOk kd scope x && g.is_async == 0 with
      | true => iterW (ev kd σ) kd σ g.iter fun items => ∃ f : PyData → Option PyData,
          (∀ d ∈ items, tests (tr (kdC kd scope.names) ((x, .val d) :: capt σ scope)) g.ifs fun b => (match b with
            | true => ev (kdC kd scope.names) ((x, .val d) :: capt σ scope) elt fun y => f d = some y
            | false => f d = none)) ∧ Q (items.filterMap f)
      | false => False)
    | none => False)
  | _ => False
def evStep (cx : Cx) (k : Nat) (ev : EvF) (tr : TrF) : EvF := fun kd σ e Q => match e with
  | .Constant c _ _ => cstW c Q
  | .Name x _ => nameW cx kd σ x Q
  | .BinOp l op r _ => ev kd σ l fun a => ev kd σ r fun b => binW op a b Q
  | .UnaryOp op x _ => ev kd σ x fun a => unW op a Q
  | .BoolOp op vs _ => (match vs with
    | [x, y] => ev kd σ x fun a => truthW a fun t => (match op, t with
      | .And, true => ev kd σ y Q
      | .And, false => Q a
      | .Or, true => Q a
      | .Or, false => ev kd σ y Q)
    | _ => False)
  | .IfExp t b o _ => tr kd σ t fun c => (match c with | true => ev kd σ b Q | false => ev kd σ o Q)
  | .Compare l ops rs _ => (match ops, rs with
    | [op], [r] => (match behindInMarks op r with
      | true => False
      | false => ev kd σ l fun a => ev kd σ r fun b => cmpW op a b fun c => Q (.bool c))
    | _, _ => False)
  | .Tuple es _ _ => (match Nat.ble es.length 100 with | true => evs (ev kd σ) es fun ds => Q (.tuple ds) | false => False)
  | .List es _ => (match Nat.ble es.length 100 with | true => evs (ev kd σ) es fun ds => Q (.list ds) | false => False)
  | .Subscript v i _ => (match ownE σ v with
    | some (.lst ds) => (match sliceOf? i with | none => ev kd σ i fun j => itemW (.list ds) j Q | some _ => False)
    | some (.dct kvs) => (match sliceOf? i with | none => ev kd σ i fun j => (match j with | .int kk => ∃ x, getKV kvs kk = some x ∧ Q (.int x) | _ => False) | some _ => False)
    | _ => (match sliceOf? i with
      | some (lo, hi, none) => ev kd σ v fun a => optW (ev kd σ) lo fun l => optW (ev kd σ) hi fun h => sliceW a l h Q
      | some _ => False
      | none => ev kd σ v fun a => ev kd σ i fun j => itemW a j Q))
  | .Call f args kws pos => (match kws with
    | [] => (match nameOf? f with
      | some g => callW cx k ev kd σ g args Q
      | none => (match attrOf? f with
        | some (o, m, ap) => methW ev kd σ o m ap pos args Q
        | none => False))
    | _ => False)
  | .ListComp elt gens scope _ => compW ev tr kd σ elt gens scope fun ds => Q (.list ds)
  | _ => False
def allW (tr : Expr → (Bool → Prop) → Prop) (op : BoolOp) : List Expr → (Bool → Prop) → Prop
  | [], Q => Q (op == .And)
  | e :: es, Q => tr e fun b => (match op, b with
    | .And, false => Q false
    | .Or, true => Q true
    | _, _ => allW tr op es Q)
def chW (ev : Expr → (PyData → Prop) → Prop) (a : PyData) : List CmpOp → List Expr → (Bool → Prop) → Prop
  | [op], [r], Q => ev r fun b => cmpW op a b Q
  | op :: op' :: ops, r :: r' :: rs, Q => ev r fun b => cmpW op a b fun c => (match c with | true => chW ev b (op' :: ops) (r' :: rs) Q | false => Q false)
  | _, _, _ => False
def trStep (ev : EvF) (tr : TrF) : TrF := fun kd σ e Q => match e with
  | .UnaryOp op x _ => (match op with | .Not => tr kd σ x fun b => Q (!b) | _ => False)
  | .BoolOp op vs _ => allW (tr kd σ) op vs Q
  | .Compare l ops rs _ => (match lastMarks ops rs with
    | true => False
    | false => ev kd σ l fun a => chW (ev kd σ) a ops rs Q)
  | .Name x p => ev kd σ (.Name x p) fun d => truthW d Q
  | .Call f args kws p => ev kd σ (.Call f args kws p) fun d => truthW d Q
  | _ => False
def evtr (cx : Cx) (k : Nat) : Nat → EvF × TrF
  | 0 => (fun _ _ _ _ => False, fun _ _ _ _ => False)
  | n + 1 => (evStep cx k (evtr cx k n).1 (evtr cx k n).2, trStep (evtr cx k n).1 (evtr cx k n).2)
def evW (cx : Cx) (k n : Nat) : EvF := (evtr cx k n).1
def trW (cx : Cx) (k n : Nat) : TrF := (evtr cx k n).2
theorem evW_succ (cx : Cx) (k n : Nat) : evW cx k (n + 1) = evStep cx k (evW cx k n) (trW cx k n) := rfl
theorem trW_succ (cx : Cx) (k n : Nat) : trW cx k (n + 1) = trStep (evW cx k n) (trW cx k n) := rfl
abbrev OO (X : List Addr) (ow : List (Str × Addr)) : List Addr := X ++ ow.map (·.2)
def SndE (cx : Cx) (k : Nat) (ev : EvF) : Prop := ∀ (env : Env) (kd : Kd) (X : List Addr) (ow : List (Str × Addr)) (σ : Sg) (s : Shared) (e : Expr) (Q : PyData → Prop) (A : Around) (E : Value → Shared → Prop),
  RA A k → St cx env kd X ow σ s → ev kd σ e Q → wpAny (model cx.prog cx.w) A (eval e env) (fun v s' => Keeps s s' ∧ ∃ d, Rp s'.heap (OO X ow) v d ∧ Q d) E s
def SndT (cx : Cx) (k : Nat) (tr : TrF) : Prop := ∀ (env : Env) (kd : Kd) (X : List Addr) (ow : List (Str × Addr)) (σ : Sg) (s : Shared) (e : Expr) (Q : Bool → Prop) (A : Around) (E : Value → Shared → Prop),
  RA A k → St cx env kd X ow σ s → tr kd σ e Q → wpAny (model cx.prog cx.w) A (isTrue e env (eval e env)) (fun b s' => Keeps s s' ∧ Q b) E s
theorem toks1 (s : Shared) : Keeps s { s with toks := s.toks + 1 } := keeps_toks _
section
variable {cx : Cx} {k : Nat} {env : Env} {kd : Kd} {X : List Addr} {ow : List (Str × Addr)} {σ : Sg} {s : Shared} {A : Around} {E : Value → Shared → Prop}
theorem cst_ok {c : Const} {n : Nat} {p : Pos} {Q : PyData → Prop} (h : cstW c Q) : wpAny (model cx.prog cx.w) A (eval (.Constant c n p) env) (fun v s' => Keeps s s' ∧ ∃ d, Rp s'.heap (OO X ow) v d ∧ Q d) E s := by
  cases c <;> first | exact h.elim | skip
  · exact wpAny_pure ⟨keeps_refl s, _, .none, h⟩
  · exact wpAny_pure ⟨keeps_refl s, _, .bool _, h⟩
  · exact wpAny_Constant_int ⟨toks1 s, _, .int _ _, h⟩
  · exact Calls.Constant_str ⟨toks1 s, _, .str _ _, h⟩
theorem load_ok {x : Str} {v : Value} {Q : Value → Shared → Prop} (ek : EnvOk env kd) (hv : VarAt env s.heap x v) (h : Q v s) : wpAny (model cx.prog cx.w) A (loadName env x) Q E s := by
  obtain ⟨_, hc, ⟨hk, m, hn, hm⟩ | ⟨hk, c, hl, hcell⟩⟩ := hv
  · exact wpAny_loadName_local ek.kind hk hn hm h
  · rcases hk with hk | hk
    · exact wpAny_loadName_cell ek.kind hk hl hcell h
    · exact wpAny_loadName_free ek.kind hk hl hcell h hc
theorem nameVar_ok {x : Str} {p : Pos} {v : Value} {Q : Value → Shared → Prop} (ek : EnvOk env kd) (hv : VarAt env s.heap x v) (h : Q v s) : wpAny (model cx.prog cx.w) A (eval (.Name x p) env) Q E s :=
  wpAny_Name (load_ok ek hv h) hv.1
theorem glob_ok {x : Str} {p : Pos} {v : Value} {Q : Value → Shared → Prop} (q : St cx env kd X ow σ s) (hk : kd x = some .globalImplicit) (hx : (x == ("__debug__" : Str)) = false) (hv : cx.mg x = some v) (h : Q v s) :
    wpAny (model cx.prog cx.w) A (eval (.Name x p) env) Q E s := by
  refine Calls.Name_function_global q.ek.kind ((q.ek.kd x).trans hk) (Calls.loadGlobal_global (mg := cx.mg) ?_ hv h) hx
  rw [q.ek.glob]; exact cx.top.g.keeps q.base
theorem blt_ok {x : Str} {p : Pos} {v : Value} {Q : Value → Shared → Prop} (q : St cx env kd X ow σ s) (hk : kd x = some .globalImplicit) (hb : x ∈ blt) (hv : bootBuiltins x = some v) (h : Q v s) (hx : (x == ("__debug__" : Str)) = false) (hn : x ≠ "__name__") :
    wpAny (model cx.prog cx.w) A (eval (.Name x p) env) Q E s := by
  refine Calls.Name_function_global q.ek.kind ((q.ek.kd x).trans hk) (Calls.loadGlobal_builtin (mg := cx.mg) (mb := cx.mb) ?_ (cx.miss x hb) ?_ ((cx.top.builtins x hn).trans hv) h) hx
  · rw [q.ek.glob]; exact cx.top.g.keeps q.base
  · rw [q.ek.bi]; exact cx.top.b.keeps q.base
theorem name_ok {x : Str} {p : Pos} {Q : PyData → Prop} (q : St cx env kd X ow σ s) (h : nameW cx kd σ x Q) : wpAny (model cx.prog cx.w) A (eval (.Name x p) env) (fun v s' => Keeps s s' ∧ ∃ d, Rp s'.heap (OO X ow) v d ∧ Q d) E s := by
  unfold nameW at h
  cases hl : σ.lookup x with
  | some sl =>
    rw [hl] at h
    cases sl <;> first | exact h.elim | skip
    obtain ⟨v, hv, hr⟩ := q.vars x _ hl
    exact nameVar_ok q.ek hv ⟨keeps_refl s, _, hr, h⟩
  | none =>
    rw [hl] at h
    dsimp only at h
    cases hk : kd x with
    | none => rw [hk] at h; exact h.elim
    | some nk =>
      rw [hk] at h
      cases nk <;> first | exact h.elim | skip
      obtain ⟨i, ⟨hd, t, hg⟩, hQ⟩ := h
      exact glob_ok q hk hd hg ⟨keeps_refl s, _, .int i t, hQ⟩
theorem intMul_small {x y : Int} (h : x.natAbs < 2 ^ 64) : IntMulOk x y := by
  refine IntMulOk.of_left ?_
  unfold Builtin.Int.intBits
  split
  · exact Nat.zero_le _
  · rename_i h0
    have : x.natAbs ≠ 0 := fun e => by
      apply h0
      have : x = 0 := Int.natAbs_eq_zero.mp e
      simp [this]
    have := (Nat.log2_lt this).mpr h
    omega
theorem size_le {n : Nat} (h : n ≤ 1000000) : n ≤ sizeLine := by rw [sizeLine_eq]; omega
theorem bin_ok {op : Operator} {a b : PyData} {u v : Value} {Q : PyData → Prop} (ru : Rp s.heap (OO X ow) u a) (rv : Rp s.heap (OO X ow) v b) (hf : s.heap.objs.size ∉ OO X ow) (h : binW op a b Q) :
    wpAny (model cx.prog cx.w) A (binaryOp op u v) (fun v s' => Keeps s s' ∧ ∃ d, Rp s'.heap (OO X ow) v d ∧ Q d) E s := by
  unfold binW at h
  cases a <;> cases b <;> dsimp only at h <;> first | exact h.elim | skip
  · obtain ⟨t, rfl⟩ := ru.int_inv
    obtain ⟨t', rfl⟩ := rv.int_inv
    cases op <;> dsimp only at h <;> first | exact h.elim | skip
    · exact add_int ⟨toks1 s, _, .int _ _, h⟩
    · exact sub_int ⟨toks1 s, _, .int _ _, h⟩
    · exact mul_int ⟨toks1 s, _, .int _ _, h.2.2⟩ (intMul_small h.1)
    · exact mod_int' h.1 ⟨toks1 s, _, .int _ _, h.2⟩
    · exact lshift_int_small h.1 h.2.1 h.2.2.1 ⟨toks1 s, _, .int _ _, h.2.2.2⟩
    · exact rshift_int h.1 ⟨toks1 s, _, .int _ _, h.2⟩
    · exact or_int ⟨toks1 s, _, .int _ _, h⟩
    · exact xor_int ⟨toks1 s, _, .int _ _, h⟩
    · exact and_int ⟨toks1 s, _, .int _ _, h⟩
    · exact floordiv_int h.1 ⟨toks1 s, _, .int _ _, h.2.2⟩ (.inl (PyProof.noPylong_small h.2.1))
  · cases op <;> dsimp only at h <;> first | exact h.elim | skip
    obtain ⟨l, vs, rfl, hl, il, rl⟩ := ru.list_inv
    obtain ⟨b, ws, rfl, hb, ib, rb⟩ := rv.list_inv
    obtain ⟨⟨cls, dd, data, sl⟩, ho, hc, n, hd⟩ := id il
    obtain ⟨⟨cls2, dd2, data2, sl2⟩, ho2, hc2, n2, hd2⟩ := id ib
    simp only at hc hd hc2 hd2
    subst hc hd hc2 hd2
    have e1 := rl.length
    have e2 := rb.length
    simp only [Array.length_toList] at e1 e2
    refine concat_meets ⟨_, ho, rfl⟩ ⟨_, ho2, rfl⟩ noFill_list_add seq_list_add PySem.F.slot_list_add PySem.F.entry_list_add (PySem.F.args_list_add_2 _ _) (list_addW l b vs ws n n2 dd dd2 sl sl2 (by rw [e1, e2]; exact size_le h.1)) ⟨ho, ho2, ?_⟩
    refine ⟨⟨_, _, rfl, Grow.push _ _⟩, _, Rp.list (Heap.get?_push_size _ rfl) hf rfl rfl ?_, h.2⟩
    simpa using (rl.append rb).grow (Grow.push _ _)
theorem un_ok {op : UnaryOp} {a : PyData} {u : Value} {Q : PyData → Prop} (ru : Rp s.heap (OO X ow) u a) (h : unW op a Q) :
    wpAny (model cx.prog cx.w) A (unaryOp op u) (fun v s' => Keeps s s' ∧ ∃ d, Rp s'.heap (OO X ow) v d ∧ Q d) E s := by
  unfold unW at h
  cases op <;> cases a <;> dsimp only at h <;> first | exact h.elim | skip
  · obtain rfl := ru.bool_inv
    exact not_of (wpAny_truthy_bool ⟨keeps_refl s, _, .bool _, h⟩)
  · obtain ⟨t, rfl⟩ := ru.int_inv
    exact neg_int ⟨toks1 s, _, .int _ _, h⟩
theorem truth_ok {a : PyData} {u : Value} {Q : Bool → Prop} (ru : Rp s.heap (OO X ow) u a) (h : truthW a Q) :
    wpAny (model cx.prog cx.w) A (truthy u) (fun b s' => s' = s ∧ Q b) E s := by
  unfold truthW at h
  cases a <;> dsimp only at h <;> first | exact h.elim | skip
  obtain rfl := ru.bool_inv
  exact wpAny_truthy_bool ⟨rfl, h⟩
theorem cmp_ok {op : CmpOp} {a b : PyData} {u v : Value} {Q : Bool → Prop} (ra : RA A k) (ru : Rp s.heap (OO X ow) u a) (rv : Rp s.heap (OO X ow) v b) (h : cmpW op a b Q) :
    wpAny (model cx.prog cx.w) A (compareOp op u v) (fun v s' => s' = s ∧ ∃ b, v = .bool b ∧ Q b) E s := by
  have hun := ra.un
  have room : ∀ n m : Nat, m ≤ 64 → A.units + 1 + min n m < cLine := fun n m hm => by
    have : min n m ≤ m := Nat.min_le_right _ _
    omega
  have room64 : A.units + 64 < cLine := by omega
  obtain ⟨as, qu⟩ := ru.reads
  obtain ⟨bs, qv⟩ := rv.reads
  cases op <;> dsimp only [cmpW] at h <;> first | exact h.elim | skip
  · cases a <;> cases b <;> dsimp only at h <;> first
      | exact eq_dataH qu qv h.1 h.2.1 room64 ⟨rfl, _, rfl, h.2.2⟩
      | (obtain ⟨t, rfl⟩ := ru.int_inv; obtain ⟨t', rfl⟩ := rv.int_inv; exact eq_int ⟨rfl, _, rfl, h⟩)
      | (obtain ⟨t, rfl⟩ := ru.str_inv; obtain ⟨t', rfl⟩ := rv.str_inv; exact eq_str ⟨rfl, _, rfl, h⟩)
  · cases a <;> cases b <;> dsimp only at h <;> first
      | exact ne_dataH qu qv h.1 h.2.1 room64 ⟨rfl, _, rfl, h.2.2⟩
      | (obtain ⟨t, rfl⟩ := ru.int_inv; obtain ⟨t', rfl⟩ := rv.int_inv; exact ne_int ⟨rfl, _, rfl, h⟩)
      | (obtain ⟨t, rfl⟩ := ru.str_inv; obtain ⟨t', rfl⟩ := rv.str_inv; exact ne_str ⟨rfl, _, rfl, h⟩)
  · cases a <;> cases b <;> dsimp only at h <;> first | exact h.elim | skip
    obtain ⟨t, rfl⟩ := ru.int_inv; obtain ⟨t', rfl⟩ := rv.int_inv
    exact lt_int ⟨rfl, _, rfl, h⟩
  · cases a <;> cases b <;> dsimp only at h <;> first | exact h.elim | skip
    obtain ⟨t, rfl⟩ := ru.int_inv; obtain ⟨t', rfl⟩ := rv.int_inv
    exact le_int ⟨rfl, _, rfl, h⟩
  · cases b <;> dsimp only at h <;> first | exact h.elim | skip
    · exact SeqAt.in_list_reads qv qu h.1.1 h.1.2.1 (room _ _ h.1.2.2) ⟨rfl, _, rfl, h.2⟩
    · exact SeqAt.in_tuple_reads qv qu h.1.1 h.1.2.1 (room _ _ h.1.2.2) ⟨rfl, _, rfl, h.2⟩
  · cases b <;> dsimp only at h <;> first | exact h.elim | skip
    exact SeqAt.notIn_list_reads qv qu h.1.1 h.1.2.1 (room _ _ h.1.2.2) ⟨rfl, _, rfl, h.2⟩
end
section
variable {cx : Cx} {k : Nat} {env : Env} {kd : Kd} {X : List Addr} {ow : List (Str × Addr)} {σ : Sg} {s : Shared} {A : Around} {E : Value → Shared → Prop}
theorem starEach_cons {e : Expr} {es : List Expr} (h : isSt e = false) : starEach (e :: es) env = (false, eval e env) :: starEach es env := by
  cases e <;> first | rfl | cases h
theorem backTo_cons {p : Pos} {t : Sem Value} {l : List (Bool × Sem Value)} : backTo p ((false, t) :: l) = (false, t) :: backTo p l := rfl
theorem RA.room {A : Around} {k : Nat} (r : RA A k) : A.handled = none := r.hd
theorem evs_ok {ev : EvF} (H : SndE cx k ev) (ra : RA A k) {p : Pos} : ∀ (es : List Expr) (s : Shared) (Q : List PyData → Prop), St cx env kd X ow σ s → evs (ev kd σ) es Q →
    wpAny (model cx.prog cx.w) A (spliced (backTo p (starEach es env))) (fun vs s' => Keeps s s' ∧ ∃ ds, RpAll s'.heap (OO X ow) vs ds ∧ ds.length = es.length ∧ Q ds) E s
  | [], s, Q, q, h => Calls.spliced_nil ⟨keeps_refl s, [], .nil, rfl, h⟩
  | e :: es, s, Q, q, h => by
    unfold evs at h
    cases hs : isSt e with
    | true => rw [hs] at h; exact h.elim
    | false =>
      rw [hs] at h
      rw [starEach_cons hs, backTo_cons]
      refine Calls.spliced_cons (wpAny_mono (H env kd X ow σ s e _ A E ra q h) (fun v s₁ h₁ => ?_) fun _ _ x => x)
      obtain ⟨k₁, d, r₁, h₁⟩ := h₁
      refine wpAny_mono (evs_ok H ra es s₁ _ (q.keeps k₁) h₁) (fun vs s₂ h₂ => ?_) fun _ _ x => x
      obtain ⟨k₂, ds, r₂, e₂, h₂⟩ := h₂
      exact ⟨keeps_trans k₁ k₂, d :: ds, .cons (r₁.grow (keeps_grow k₂)) r₂, by simp [e₂], h₂⟩
theorem any_star {p : Pos} : ∀ (es : List Expr), (es.all fun e => !isSt e) = true → ((backTo p (starEach es env)).any (·.1)) = false
  | [], _ => rfl
  | e :: es, h => by
    have h' : isSt e = false ∧ (es.all fun e => !isSt e) = true := by simpa using h
    rw [starEach_cons h'.1, backTo_cons, List.any_cons, any_star es h'.2]; rfl
theorem subs_plain {sl : Expr} {o i : Value} (h : sliceOf? sl = none) : subscripted sl false o i = operate [o, i] (getItem o i) := by
  cases sl <;> first | rfl | cases h
theorem subs_slice {lo hi : Option Expr} {p : Pos} {o i : Value} : subscripted (.Slice lo hi none p) false o i = operate [i, o] (getItem o i) := rfl
theorem item_ok {v sl : Expr} {a j : PyData} {u w : Value} {Q : PyData → Prop} (hsl : sliceOf? sl = none) (ru : Rp s.heap (OO X ow) u a) (rw' : Rp s.heap (OO X ow) w j) (h : itemW a j Q) :
    wpAny (model cx.prog cx.w) A (subscriptTail v sl u w) (fun v s' => Keeps s s' ∧ ∃ d, Rp s'.heap (OO X ow) v d ∧ Q d) E s := by
  unfold itemW at h
  cases j <;> dsimp only at h <;> first | exact h.elim | skip
  rename_i i
  obtain ⟨t, rfl⟩ := rw'.int_inv
  cases a <;> dsimp only at h <;> first | exact h.elim | skip
  · rename_i x
    obtain ⟨t', rfl⟩ := ru.str_inv
    exact tail_any (typeIs_str s x t') slot_str_getitem.lookup (SB.getItem h.1 h.2.1 ⟨toks1 s, _, .str _ _, h.2.2⟩) (subs_plain hsl)
  · obtain ⟨l, vs, rfl, hl, il, rl⟩ := ru.list_inv
    obtain ⟨h0, h1, d, hd, hQ⟩ := h
    obtain ⟨x, hx, rx⟩ := rl.get hd
    exact tail_any il.typeIs slot_list_getitem.lookup (wpAny_getItem_list il h0 (by omega) (by simpa using hx) ⟨keeps_refl s, d, rx, hQ⟩) (subs_plain hsl)
  · obtain ⟨l, vs, rfl, hl, il, rl⟩ := ru.tuple_inv
    obtain ⟨h0, h1, d, hd, hQ⟩ := h
    obtain ⟨x, hx, rx⟩ := rl.get hd
    have hlt : i.toNat < vs.size := by
      have := (List.getElem?_eq_some_iff.mp hx).1
      simpa using this
    have hj : seqIndex? i vs.size = some i.toNat := by
      unfold seqIndex?
      simp only [show ¬ i < 0 from by omega, if_false]
      rw [if_pos]
      simp only [Bool.and_eq_true, decide_eq_true_eq]
      omega
    exact tail_any il.typeIs slot_tuple_getitem.lookup (getItem_tuple il (by omega) (by omega) hj (by simpa using hx) ⟨keeps_refl s, d, rx, hQ⟩) (subs_plain hsl)
theorem part_is {d : PyData} {o : Option Int} {v : Value} (r : Rp s.heap (OO X ow) v d) (h : partOf d = some o) : IsPart v o := by
  unfold partOf at h
  split at h
  · cases h; obtain rfl := r.none_inv; exact .none
  · cases h; obtain ⟨t, rfl⟩ := r.int_inv; exact .int _ _
  · cases h
theorem optW_ok {ev : EvF} (H : SndE cx k ev) (ra : RA A k) (q : St cx env kd X ow σ s) {e : Option Expr} {Q : PyData → Prop} (h : optW (ev kd σ) e Q) :
    wpAny (model cx.prog cx.w) A (evalPart e env) (fun v s' => Keeps s s' ∧ ∃ d, Rp s'.heap (OO X ow) v d ∧ Q d) E s := by
  cases e with
  | none => exact wpAny_evalPart_none ⟨keeps_refl s, _, .none, h⟩
  | some e => exact wpAny_evalPart_some (H env kd X ow σ s e _ A E ra q h)
theorem rp_picked {h : Heap} {O : List Addr} {vs : List Value} {ds : List PyData} (r : RpAll h O vs ds) : ∀ is : List Nat, RpAll h O (is.filterMap (vs[·]?)) (is.filterMap (ds[·]?))
  | [] => .nil
  | i :: is => by
    simp only [List.filterMap_cons]
    cases hd : ds[i]? with
    | none =>
      have : vs[i]? = none := by
        cases hv : vs[i]? with
        | none => rfl
        | some v => obtain ⟨d, e, _⟩ := r.get' hv; rw [hd] at e; cases e
      rw [this]; exact rp_picked r is
    | some d =>
      obtain ⟨v, hv, rv⟩ := r.get hd
      rw [hv]; exact .cons rv (rp_picked r is)
theorem slice_ok {v : Expr} {lo hi : Option Expr} {p : Pos} {a l h : PyData} {u vl vh : Value} {sl : Addr} {Q : PyData → Prop} (ru : Rp s.heap (OO X ow) u a) (rl : Rp s.heap (OO X ow) vl l) (rh : Rp s.heap (OO X ow) vh h)
    (hs : s.heap.IsSliceOf sl vl vh .none) (hf : s.heap.objs.size ∉ OO X ow) (hw : sliceW a l h Q) :
    wpAny (model cx.prog cx.w) A (subscriptTail v (.Slice lo hi none p) u (.ref sl)) (fun v s' => Keeps s s' ∧ ∃ d, Rp s'.heap (OO X ow) v d ∧ Q d) E s := by
  unfold sliceW at hw
  cases h1 : partOf l with
  | none => rw [h1] at hw; exact hw.elim
  | some lo' =>
    cases h2 : partOf h with
    | none => rw [h1, h2] at hw; exact hw.elim
    | some hi' =>
      rw [h1, h2] at hw
      dsimp only at hw
      have pl := part_is rl h1
      have ph := part_is rh h2
      cases a <;> dsimp only at hw <;> first | exact hw.elim | skip
      · rename_i x
        obtain ⟨t, rfl⟩ := ru.str_inv
        have hsl : ∃ a b, s.heap.IsSlice sl a b none ∧ a.map (·.1) = lo' ∧ b.map (·.1) = hi' := by
          obtain ⟨o, ho, hc, hd⟩ := hs
          cases pl <;> cases ph
          · exact ⟨none, none, ⟨o, ho, hc, hd⟩, rfl, rfl⟩
          · rename_i i t; exact ⟨none, some (i, t), ⟨o, ho, hc, hd⟩, rfl, rfl⟩
          · rename_i i t; exact ⟨some (i, t), none, ⟨o, ho, hc, hd⟩, rfl, rfl⟩
          · rename_i i t i' t'; exact ⟨some (i, t), some (i', t'), ⟨o, ho, hc, hd⟩, rfl, rfl⟩
        obtain ⟨a, b, hsl, rfl, rfl⟩ := hsl
        refine tail_any (typeIs_str s x t) slot_str_getitem.lookup (wpAny_getItem_str_slice hsl rfl ?_) subs_slice
        unfold sliceMade slicePicked
        refine post_val_or_str ⟨Nat.le_trans hw.1 (size_le (by omega)), fun t' k => ⟨keeps_toks _, _, .str _ _, hw.2⟩⟩
      · rename_i ds
        obtain ⟨l', vs, rfl, hl, il, rl'⟩ := ru.list_inv
        have hlen := rl'.length
        simp only [Array.length_toList] at hlen
        refine tail_any il.typeIs slot_list_getitem.lookup (wpAny_getItem_list_slice (lo := lo') (hi := hi') (st := none) il hs pl ph .none (by simp) ?_ (by rw [hlen]; exact size_le hw.1)) subs_slice
        refine ⟨⟨_, _, rfl, Grow.push _ _⟩, _, Rp.list (Heap.get?_push_size _ rfl) hf rfl rfl ?_, hw.2⟩
        unfold slicePick
        rw [← hlen]
        simpa using (rp_picked rl' _).grow (Grow.push _ _)
theorem lookup_own {x : Str} {a : Addr} : ∀ {ow : List (Str × Addr)}, ow.lookup x = some a → (x, a) ∈ ow
  | [], h => by simp at h
  | (y, b) :: r, h => by
    rw [List.lookup_cons] at h
    cases hx : x == y with
    | true => rw [hx] at h; cases h; rw [eq_of_beq hx]; exact List.mem_cons_self
    | false => rw [hx] at h; exact List.mem_cons_of_mem _ (lookup_own h)
theorem kvFind {l : List (Int × Value)} {i : Int} (hi : ∀ p ∈ l, ∃ i t, p.2 = .int i t) : getKV (kvOf l) i = (valueAt l i).map intOf ∧ ∀ v, valueAt l i = some v → ∃ t, v = .int (intOf v) t := by
  unfold getKV kvOf valueAt
  induction l with
  | nil => exact ⟨rfl, fun v h => by simp at h⟩
  | cons p l ih =>
    have ih := ih fun q hq => hi q (List.mem_cons_of_mem _ hq)
    by_cases hp : p.1 = i
    · simp only [List.map_cons, List.find?_cons, hp, decide_true]
      refine ⟨rfl, fun v hv => ?_⟩
      obtain rfl : p.2 = v := by simpa using hv
      obtain ⟨j, t, e⟩ := hi p List.mem_cons_self
      exact ⟨t, by rw [e]; rfl⟩
    · simp only [List.map_cons, List.find?_cons, hp, decide_false]
      exact ih
theorem kvStored {l : List (Int × Value)} {i v : Int} {t : Tok} : kvOf (stored l i (.int v t)) = putKV (kvOf l) i v := by
  have hany : ((kvOf l).any fun kv => kv.1 = i) = l.any fun kv => kv.1 = i := by
    unfold kvOf; rw [List.any_map]; rfl
  unfold stored putKV
  rw [hany]
  split
  · unfold kvOf
    rw [List.map_map, List.map_map]
    apply List.map_congr_left
    intro p _
    simp only [Function.comp]
    split <;> rfl
  · unfold kvOf; rw [List.map_append]; rfl
theorem kvStored_ints {l : List (Int × Value)} {i v : Int} {t : Tok} (hi : ∀ p ∈ l, ∃ i t, p.2 = .int i t) : ∀ p ∈ stored l i (.int v t), ∃ i t, p.2 = .int i t := by
  intro p hp
  unfold stored at hp
  split at hp
  · obtain ⟨q, hq, rfl⟩ := List.mem_map.mp hp
    split
    · exact ⟨_, _, rfl⟩
    · exact hi q hq
  · rcases List.mem_append.mp hp with hp | hp
    · exact hi p hp
    · rw [List.mem_singleton.mp hp]; exact ⟨_, _, rfl⟩
theorem ownE_lst {e : Expr} {ds : List PyData} (h : ownE σ e = some (.lst ds)) : ∃ x p, e = .Name x p ∧ σ.lookup x = some (.lst ds) := by
  unfold ownE at h
  cases e <;> dsimp only [nameOf?] at h <;> first | cases h | skip
  rename_i x p
  refine ⟨x, p, rfl, ?_⟩
  split at h <;> first | (cases h; assumption) | cases h
theorem ownE_dct {e : Expr} {ds : List (Int × Int)} (h : ownE σ e = some (.dct ds)) : ∃ x p, e = .Name x p ∧ σ.lookup x = some (.dct ds) := by
  unfold ownE at h
  cases e <;> dsimp only [nameOf?] at h <;> first | cases h | skip
  rename_i x p
  refine ⟨x, p, rfl, ?_⟩
  split at h <;> first | (cases h; assumption) | cases h
theorem subscript_ok {ev : EvF} (H : SndE cx k ev) (ra : RA A k) (q : St cx env kd X ow σ s) {v i : Expr} {p : Pos} {Q : PyData → Prop}
    (h : (match ownE σ v with
    | some (.lst ds) => (match sliceOf? i with | none => ev kd σ i fun j => itemW (.list ds) j Q | some _ => False)
    | some (.dct kvs) => (match sliceOf? i with | none => ev kd σ i fun j => (match j with | .int kk => ∃ x, getKV kvs kk = some x ∧ Q (.int x) | _ => False) | some _ => False)
    | _ => (match sliceOf? i with
      | some (lo, hi, none) => ev kd σ v fun a => optW (ev kd σ) lo fun l => optW (ev kd σ) hi fun h => sliceW a l h Q
      | some _ => False
      | none => ev kd σ v fun a => ev kd σ i fun j => itemW a j Q))) :
    wpAny (model cx.prog cx.w) A (eval (.Subscript v i p) env) (fun v s' => Keeps s s' ∧ ∃ d, Rp s'.heap (OO X ow) v d ∧ Q d) E s := by
  refine Subscript_ ?_
  have gen : (match sliceOf? i with
      | some (lo, hi, none) => ev kd σ v fun a => optW (ev kd σ) lo fun l => optW (ev kd σ) hi fun h => sliceW a l h Q
      | some _ => False
      | none => ev kd σ v fun a => ev kd σ i fun j => itemW a j Q) →
      wpAny (model cx.prog cx.w) A (eval v env) (fun o s₁ => wpAny (model cx.prog cx.w) A (eval i env) (fun i' s₂ => wpAny (model cx.prog cx.w) A (subscriptTail v i o i') (fun v s' => Keeps s s' ∧ ∃ d, Rp s'.heap (OO X ow) v d ∧ Q d) E s₂) E s₁) E s := by
    intro g
    split at g
    · rename_i lo hi hsl
      have hi' : ∃ pp, i = .Slice lo hi none pp := by
        cases i <;> dsimp only [sliceOf?] at hsl <;> first | cases hsl | skip
        exact ⟨_, rfl⟩
      obtain ⟨pp, rfl⟩ := hi'
      refine wpAny_mono (H env kd X ow σ s v _ A E ra q g) (fun o s₁ h₁ => ?_) fun _ _ x => x
      obtain ⟨k₁, a, r₁, h₁⟩ := h₁
      refine wpAny_Slice (wpAny_mono (optW_ok H ra (q.keeps k₁) h₁) (fun l s₂ h₂ => ?_) fun _ _ x => x)
      obtain ⟨k₂, dl, r₂, h₂⟩ := h₂
      refine wpAny_mono (optW_ok H ra ((q.keeps k₁).keeps k₂) h₂) (fun u s₃ h₃ => ?_) fun _ _ x => x
      obtain ⟨k₃, dh, r₃, h₃⟩ := h₃
      refine wpAny_evalPart_none ?_
      have q₃ := ((q.keeps k₁).keeps k₂).keeps k₃
      have k₄ : Keeps s₃ { s₃ with heap := s₃.heap.push { cls := .type "slice", data := .fields #[l, u, .none] } } := ⟨_, _, rfl, Grow.push _ _⟩
      refine wpAny_mono (slice_ok ((r₁.grow (keeps_grow (keeps_trans k₂ k₃))).grow (Grow.push _ _)) ((r₂.grow (keeps_grow k₃)).grow (Grow.push _ _)) (r₃.grow (Grow.push _ _)) (Heap.IsSliceOf.new _ _ _ _) (q₃.keeps k₄).fresh h₃) (fun v s₅ h₅ => ?_) fun _ _ x => x
      obtain ⟨k₅, d, r₅, h₅⟩ := h₅
      exact ⟨keeps_trans (keeps_trans (keeps_trans k₁ k₂) (keeps_trans k₃ k₄)) k₅, d, r₅, h₅⟩
    · exact g.elim
    · rename_i hsl
      refine wpAny_mono (H env kd X ow σ s v _ A E ra q g) (fun o s₁ h₁ => ?_) fun _ _ x => x
      obtain ⟨k₁, a, r₁, h₁⟩ := h₁
      refine wpAny_mono (H env kd X ow σ s₁ i _ A E ra (q.keeps k₁) h₁) (fun j s₂ h₂ => ?_) fun _ _ x => x
      obtain ⟨k₂, dj, r₂, h₂⟩ := h₂
      refine wpAny_mono (item_ok hsl (r₁.grow (keeps_grow k₂)) r₂ h₂) (fun v s₃ h₃ => ?_) fun _ _ x => x
      obtain ⟨k₃, d, r₃, h₃⟩ := h₃
      exact ⟨keeps_trans (keeps_trans k₁ k₂) k₃, d, r₃, h₃⟩
  cases ho : ownE σ v with
  | none => rw [ho] at h; exact gen h
  | some sl =>
    rw [ho] at h
    cases sl with
    | val d => exact gen h
    | dead => exact gen h
    | lst ds =>
      dsimp only at h
      obtain ⟨x, px, rfl, hx⟩ := ownE_lst ho
      obtain ⟨a, vs, hv, hlk, ilp, rl⟩ := q.vars x _ hx
      have il := ilp.isList
      cases hsl : sliceOf? i with
      | some z => rw [hsl] at h; exact h.elim
      | none =>
        rw [hsl] at h
        refine nameVar_ok q.ek hv ?_
        refine wpAny_mono (H env kd X ow σ s i _ A E ra q h) (fun j s₂ h₂ => ?_) fun _ _ x => x
        obtain ⟨k₂, dj, r₂, h₂⟩ := h₂
        unfold itemW at h₂
        cases dj <;> dsimp only at h₂ <;> first | exact h₂.elim | skip
        obtain ⟨t, rfl⟩ := r₂.int_inv
        obtain ⟨h0, h1, d, hd, hQ⟩ := h₂
        obtain ⟨y, hy, ry⟩ := (rl.grow (keeps_grow k₂)).get hd
        have il₂ := isList_grow (keeps_grow k₂) il
        exact tail_any il₂.typeIs slot_list_getitem.lookup (wpAny_getItem_list il₂ h0 (by omega) (by simpa using hy) ⟨k₂, d, ry, hQ⟩) (subs_plain hsl)
    | dct kvs =>
      dsimp only at h
      obtain ⟨x, px, rfl, hx⟩ := ownE_dct ho
      obtain ⟨a, hv, hlk, hsm, l, hdo, rfl, hints⟩ := q.vars x _ hx
      cases hsl : sliceOf? i with
      | some z => rw [hsl] at h; exact h.elim
      | none =>
        rw [hsl] at h
        refine nameVar_ok q.ek hv ?_
        refine wpAny_mono (H env kd X ow σ s i _ A E ra q h) (fun j s₂ h₂ => ?_) fun _ _ x => x
        obtain ⟨k₂, dj, r₂, h₂⟩ := h₂
        cases dj <;> dsimp only at h₂ <;> first | exact h₂.elim | skip
        rename_i kk
        obtain ⟨t, rfl⟩ := r₂.int_inv
        obtain ⟨y, hy, hQ⟩ := h₂
        have hdo₂ := dictOf_grow (keeps_grow k₂) hdo
        obtain ⟨e1, e2⟩ := kvFind (i := kk) hints
        rw [e1] at hy
        cases hva : valueAt l kk with
        | none => rw [hva] at hy; cases hy
        | some z =>
          rw [hva] at hy
          obtain ⟨t', e3⟩ := e2 z hva
          have hy' : intOf z = y := by simpa using hy
          rw [hy'] at e3
          refine tail_any hdo₂.typeIs slot_dict_getitem.lookup (wpAny_getItem_of (knd := intKind cx.prog cx.w) (k := kk) ?_ hdo₂.mapOf hva ?_) (subs_plain hsl)
          · exact intKind_is _ _ _ _
          · exact ⟨keeps_trans k₂ (toks1 _), _, by rw [e3]; exact .int _ _, hQ⟩
end
def SortOk (cx : Cx) : Prop := ∀ (A : Around) (s : Shared) (E Q : Value → Shared → Prop) (X : List Addr) (v : Value) (ps : List (Int × Int)), A.handled = none → (∀ a ∈ X, ∃ o, s.heap.get? a = some o) →
  Rp s.heap X v (.list (ps.map pairD)) → ps.length < 64 → (∀ v s', Keeps s s' → Rp s'.heap X v (.list ((sortP ps).map pairD)) → Q v s') → wpAny (model cx.prog cx.w) A (call (.builtin "sorted") [v]) Q E s
section
variable {cx : Cx} {k : Nat} {env : Env} {kd : Kd} {X : List Addr} {ow : List (Str × Addr)} {σ : Sg} {s : Shared} {A : Around} {E : Value → Shared → Prop}
theorem one_star {e : Expr} {p : Pos} (h : isSt e = false) : backTo p (starEach [e] env) = [(false, eval e env)] := by
  rw [starEach_cons h]; rfl
theorem call_builtin1 {id : String} {e : Expr} {p : Pos} {Q : Value → Shared → Prop} (hs : isSt e = false)
    (h : wpAny (model cx.prog cx.w) A (eval e env) (fun v s₁ => wpAny (model cx.prog cx.w) A (call (.builtin id) [v]) Q E s₁) E s) :
    wpAny (model cx.prog cx.w) A (callWith p (.builtin id) [] (backTo p (starEach [e] env)) []) Q E s := by
  rw [one_star hs]
  exact Calls.callWith_builtin rfl (Calls.evalArgs_plain (Calls.spliced_cons (wpAny_mono h (fun _ _ h₁ => Calls.spliced_nil h₁) fun _ _ e => e)))
theorem call_type1 {id : String} {e : Expr} {p : Pos} {Q : Value → Shared → Prop} (hs : isSt e = false)
    (h : wpAny (model cx.prog cx.w) A (eval e env) (fun v s₁ => wpAny (model cx.prog cx.w) A (call (.type id) [v]) Q E s₁) E s) :
    wpAny (model cx.prog cx.w) A (callWith p (.type id) [] (backTo p (starEach [e] env)) []) Q E s := by
  rw [one_star hs]
  exact PySem.callWith_type rfl (Calls.evalArgs_plain (Calls.spliced_cons (wpAny_mono h (fun _ _ h₁ => Calls.spliced_nil h₁) fun _ _ e => e)))
theorem call_type2 {id : String} {e f : Expr} {p : Pos} {Q : Value → Shared → Prop} (hs : isSt e = false) (hs' : isSt f = false)
    (h : wpAny (model cx.prog cx.w) A (eval e env) (fun v s₁ => wpAny (model cx.prog cx.w) A (eval f env) (fun v' s₂ => wpAny (model cx.prog cx.w) A (call (.type id) [v, v']) Q E s₂) E s₁) E s) :
    wpAny (model cx.prog cx.w) A (callWith p (.type id) [] (backTo p (starEach [e, f] env)) []) Q E s := by
  rw [starEach_cons hs, backTo_cons, one_star hs']
  exact PySem.callWith_type rfl (Calls.evalArgs_plain (Calls.spliced_cons (wpAny_mono h (fun _ _ h₁ => Calls.spliced_cons (wpAny_mono h₁ (fun _ _ h₂ => Calls.spliced_nil h₂) fun _ _ e => e)) fun _ _ e => e)))
theorem len_list_ok {l : Addr} {vs : Array Value} {ds : List PyData} {O : List Addr} {Q : PyData → Prop} (il : s.heap.IsList l vs) (rl : RpAll s.heap O vs.toList ds) (hz : ds.length ≤ 1000000) (h : Q (.int ds.length)) :
    wpAny (model cx.prog cx.w) A (call (.builtin "len") [.ref l]) (fun v s' => Keeps s s' ∧ ∃ d, Rp s'.heap O v d ∧ Q d) E s := by
  have hl := rl.length
  simp only [Array.length_toList] at hl
  refine Calls.call_len_list il (by omega) ⟨keeps_toks _, _, .int _ _, ?_⟩
  rw [hl]; exact h
theorem evs_head {ev : Expr → (PyData → Prop) → Prop} {e : Expr} {es : List Expr} {Q : List PyData → Prop} (h : evs ev (e :: es) Q) : isSt e = false := by
  unfold evs at h
  cases hs : isSt e with
  | true => rw [hs] at h; exact h.elim
  | false => rfl
theorem user_ok {ev : EvF} (H : SndE cx k ev) (ra : RA A k) (q : St cx env kd X ow σ s) {g : Str} {np p : Pos} {args : List Expr} {Q : PyData → Prop} (hk : kd g = some .globalImplicit) (hg : (g == ("__debug__" : Str)) = false)
    (h : evs (ev kd σ) args fun ds => ∃ d, CallsTo cx k g ds d ∧ Q d)
    (hf : IsFn cx g) :
    wpAny (model cx.prog cx.w) A (eval (.Call (.Name g np) args [] p) env) (fun v s' => Keeps s s' ∧ ∃ d, Rp s'.heap (OO X ow) v d ∧ Q d) E s := by
  obtain ⟨fa, o, fd, hm, ho, hd⟩ := hf
  refine wpAny_Call_NameR (glob_ok q hk hg hm (Calls.callWith_function (o := o) (fd := fd) ?_))
  have fin : ∀ (vs : List Value) (s₁ : Shared), Keeps s s₁ → (∃ ds, RpAll s₁.heap (OO X ow) vs ds ∧ ds.length = args.length ∧ ∃ d, CallsTo cx k g ds d ∧ Q d) →
      (s₁.heap.get? fa = some o ∧ o.data = Data.func fd) ∧ wpAny (model cx.prog cx.w) A (call (.ref fa) ([] ++ vs)) (fun v s' => Keeps s s' ∧ ∃ d, Rp s'.heap (OO X ow) v d ∧ Q d) E s₁ := by
    rintro vs s₁ k₁ ⟨ds, r, _, d, ⟨fa', o', fd', hm', _, _, hc⟩, hQ⟩
    have q₁ := q.keeps k₁
    rw [hm] at hm'
    cases hm'
    refine ⟨⟨q₁.base _ _ ho, hd⟩, hc A s₁ E _ (OO X ow) vs ra q₁.base q₁.oldO r fun v s' k₂ rv => ⟨keeps_trans k₁ k₂, d, rv, hQ⟩⟩
  cases args with
  | nil => exact PySem.evalArgs_none (fin [] s (keeps_refl s) ⟨[], .nil, rfl, h⟩)
  | cons e es =>
    have hs := evs_head h
    have hh := evs_ok (cx := cx) (env := env) (X := X) (ow := ow) (A := A) (E := E) H ra (p := p) (e :: es) s _ q h
    rw [starEach_cons hs, backTo_cons] at hh ⊢
    exact Calls.evalArgs_plain (wpAny_mono hh (fun vs s₁ h₁ => fin vs s₁ h₁.1 h₁.2) fun _ _ x => x)
theorem call_ok {ev : EvF} (H : SndE cx k ev) (hS : SortOk cx) (ra : RA A k) (q : St cx env kd X ow σ s) {g : Str} {np p : Pos} {args : List Expr} {Q : PyData → Prop} (h : callW cx k ev kd σ g args Q) :
    wpAny (model cx.prog cx.w) A (eval (.Call (.Name g np) args [] p) env) (fun v s' => Keeps s s' ∧ ∃ d, Rp s'.heap (OO X ow) v d ∧ Q d) E s := by
  unfold callW at h
  cases hk : kd g with
  | none => rw [hk] at h; exact h.elim
  | some nk =>
    rw [hk] at h
    cases nk <;> dsimp only at h <;> first | exact h.elim | skip
    split at h
    · rename_i hg
      obtain rfl := eq_of_beq hg
      refine wpAny_Call_NameR (blt_ok q hk (by decide) PyProof.Rows.Boot.«len» ?_ (by decide) (by decide))
      match args, h with
      | [e], h =>
        dsimp only at h
        cases ho : ownE σ e with
        | some sl =>
          rw [ho] at h
          cases sl <;> dsimp only at h <;> first | exact h.elim | skip
          obtain ⟨x, px, rfl, hx⟩ := ownE_lst ho
          obtain ⟨a, vs, hv, hlk, il, rl⟩ := q.vars x _ hx
          exact call_builtin1 rfl (nameVar_ok q.ek hv (len_list_ok il.isList rl h.1 h.2))
        | none =>
          rw [ho] at h
          dsimp only at h
          cases hs : isSt e with
          | true => rw [hs] at h; exact h.elim
          | false =>
            rw [hs] at h
            refine call_builtin1 hs (wpAny_mono (H env kd X ow σ s e _ A E ra q h) (fun v s₁ h₁ => ?_) fun _ _ x => x)
            obtain ⟨k₁, d, r₁, h₁⟩ := h₁
            cases d <;> dsimp only at h₁ <;> first | exact h₁.elim | skip
            obtain ⟨l, vs, rfl, hl, il, rl⟩ := r₁.list_inv
            refine wpAny_mono (len_list_ok il rl h₁.1 h₁.2) (fun v s₂ h₂ => ⟨keeps_trans k₁ h₂.1, h₂.2⟩) fun _ _ x => x
      | [], h => exact h.elim
      | _ :: _ :: _, h => exact h.elim
    split at h
    · rename_i hg
      obtain rfl := eq_of_beq hg
      refine wpAny_Call_NameR (blt_ok q hk (by decide) PyProof.Rows.Boot.«int» ?_ (by decide) (by decide))
      match args, h with
      | [e], h =>
        dsimp only at h
        cases hs : isSt e with
        | true => rw [hs] at h; exact h.elim
        | false =>
          rw [hs] at h
          refine call_type1 hs (wpAny_mono (H env kd X ow σ s e _ A E ra q h) (fun v s₁ h₁ => ?_) fun _ _ x => x)
          obtain ⟨k₁, d, r₁, h₁⟩ := h₁
          cases d <;> dsimp only at h₁ <;> first | exact h₁.elim | skip
          obtain ⟨t, rfl⟩ := r₁.int_inv
          exact call_int_int ⟨k₁, _, .int _ _, h₁⟩
      | [], h => exact h.elim
      | _ :: _ :: _, h => exact h.elim
    split at h
    · rename_i hg
      obtain rfl := eq_of_beq hg
      refine wpAny_Call_NameR (blt_ok q hk (by decide) PyProof.Rows.Boot.«list» ?_ (by decide) (by decide))
      match args, h with
      | [e], h =>
        dsimp only at h
        cases hs : isSt e with
        | true => rw [hs] at h; exact h.elim
        | false =>
          rw [hs] at h
          refine call_type1 hs (wpAny_mono (H env kd X ow σ s e _ A E ra q h) (fun v s₁ h₁ => ?_) fun _ _ x => x)
          obtain ⟨k₁, d, r₁, h₁⟩ := h₁
          cases d <;> dsimp only at h₁ <;> first | exact h₁.elim | skip
          obtain ⟨l, vs, rfl, hl, ⟨o, ho, hc, n, hd⟩, rl⟩ := r₁.list_inv
          have hlen := rl.length
          simp only [Array.length_toList] at hlen
          refine call_list_seq l (.inl rfl) ho hc hd (fun h' c' hg' hn => ?_) (by rw [hlen]; exact size_le h₁.1)
          have k₂ : Keeps s₁ { s₁ with heap := h' } := ⟨h', s₁.toks, rfl, hg'⟩
          exact ⟨keeps_trans k₁ k₂, _, Rp.list hn (q.keeps k₁).fresh rfl rfl (rl.grow hg'), h₁.2⟩
      | [], h => exact h.elim
      | _ :: _ :: _, h => exact h.elim
    split at h
    · rename_i hg
      obtain rfl := eq_of_beq hg
      refine wpAny_Call_NameR (blt_ok q hk (by decide) PyProof.Rows.Boot.«sorted» ?_ (by decide) (by decide))
      match args, h with
      | [e], h =>
        dsimp only at h
        cases hs : isSt e with
        | true => rw [hs] at h; exact h.elim
        | false =>
          rw [hs] at h
          refine call_builtin1 hs (wpAny_mono (H env kd X ow σ s e _ A E ra q h) (fun v s₁ h₁ => ?_) fun _ _ x => x)
          obtain ⟨k₁, d, r₁, ps, rfl, hz, h₁⟩ := h₁
          exact hS A s₁ E _ (OO X ow) v ps ra.hd (q.keeps k₁).oldO r₁ hz fun v s' k₂ r₂ => ⟨keeps_trans k₁ k₂, _, r₂, h₁⟩
      | [], h => exact h.elim
      | _ :: _ :: _, h => exact h.elim
    split at h
    · exact h.elim
    · rename_i hg
      exact user_ok H ra q hk (Bool.eq_false_iff.mpr hg) h.2 h.1
end
section
variable {cx : Cx} {k : Nat} {env : Env} {kd : Kd} {X : List Addr} {ow : List (Str × Addr)} {σ : Sg} {s : Shared} {A : Around} {E : Value → Shared → Prop}
theorem meth_ok {ev : EvF} (H : SndE cx k ev) (ra : RA A k) (q : St cx env kd X ow σ s) {o : Expr} {m : Str} {ap pos : Pos} {args : List Expr} {Q : PyData → Prop} (h : methW ev kd σ o m ap pos args Q) :
    wpAny (model cx.prog cx.w) A (eval (.Call (.Attribute o m ap) args [] pos) env) (fun v s' => Keeps s s' ∧ ∃ d, Rp s'.heap (OO X ow) v d ∧ Q d) E s := by
  unfold methW at h
  split at h
  · rename_i hm
    obtain ⟨hm1, hm2⟩ := Bool.and_eq_true_iff.mp hm
    obtain rfl := eq_of_beq hm1
    split at h
    · rename_i kvs e f ho
      obtain ⟨x, px, rfl, hx⟩ := ownE_dct ho
      obtain ⟨a, hv, hlk, hsm, l, hdo, rfl, hints⟩ := q.vars x _ hx
      split at h
      · rename_i hse hsf
        refine wpAny_Call_method2_late rfl hm2 ?_ (nameVar_ok q.ek hv ?_)
        · rw [starEach_cons hse, backTo_cons, one_star hsf]
        refine ⟨"dict", "dict.get", PySem.F.plainAttrs_dict, PySem.F.slot_dict_get, PySem.F.type_dict_get, hdo.typeIs, hdo.mapOf.noDict, wpAny_dict_get2 (knd := intKind cx.prog cx.w) hsm ?_⟩
        refine wpAny_mono (H env kd X ow σ s e _ A E ra q h) (fun u s₁ h₁ => ?_) fun _ _ x => x
        obtain ⟨k₁, d₁, r₁, h₁⟩ := h₁
        refine wpAny_mono (H env kd X ow σ s₁ f _ A E ra (q.keeps k₁) h₁) (fun v s₂ h₂ => ?_) fun _ _ x => x
        obtain ⟨k₂, d₂, r₂, h₂⟩ := h₂
        cases d₁ <;> cases d₂ <;> dsimp only at h₂ <;> first | exact h₂.elim | skip
        rename_i i j
        obtain ⟨t, rfl⟩ := r₁.int_inv
        obtain ⟨t', rfl⟩ := r₂.int_inv
        refine ⟨i, _, intKind_is _ _ _ _, (dictOf_grow (keeps_grow (keeps_trans k₁ k₂)) hdo).mapOf, keeps_trans (keeps_trans k₁ k₂) (toks1 _), _, ?_, h₂⟩
        obtain ⟨e1, e2⟩ := kvFind (i := i) hints
        rw [e1]
        cases hva : valueAt l i with
        | none => exact .int _ _
        | some z =>
          obtain ⟨t'', e3⟩ := e2 z hva
          show Rp _ _ z (.int (intOf z))
          rw [e3]; exact .int _ _
      · exact h.elim
    · exact h.elim
  · exact h.elim
def NotOwned (o : Obj) : Prop := ∃ n vs, o.cls = .type n ∧ o.data = .fields vs ∧ (["enumerate", "zip", "dict_itemiterator", "dict_reverseitemiterator", "odict_iterator", "itertools.zip_longest", "itertools.pairwise"].contains n) = false
theorem letGo_ok {target : Expr} {I : Addr} {v : Value} {o : Obj} {Q : Unit → Shared → Prop} (ho : s.heap.get? I = some o) (hn : NotOwned o) (h : Q () s) : wpAny (model cx.prog cx.w) A (letOwnedTupleGo target (.ref I) v) Q E s := by
  obtain ⟨n, vs, hc, hd, hn⟩ := hn
  have key : wpAny (model cx.prog cx.w) A (do
      let (.ref r, .ref a) := ((Value.ref I, v) : Value × Value) | return
      let o ← load r
      match o.cls, o.data with
      | .type n, .fields vs =>
        if ["enumerate", "zip", "dict_itemiterator", "dict_reverseitemiterator", "odict_iterator", "itertools.zip_longest", "itertools.pairwise"].contains n && vs[0]? == some (rawInt a) then
          rule "for.unpacks-the-owned-tuple"
          updateField r 0 .none
      | _, _ => pure () : Sem Unit) Q E s := by
    cases v with
    | ref a =>
      refine wpAny_bind (wpAny_load ho ?_)
      rw [hc, hd]
      dsimp only
      rw [hn]
      exact wpAny_pure h
    | _ => exact wpAny_pure h
  cases target <;> first | exact wpAny_pure h | exact key
def IterOn (cx : Cx) (A : Around) (O : List Addr) (own : Prop) (items : List PyData) (xv : Value) (s₁ : Shared) : Prop :=
  ∀ (Q E : Value → Shared → Prop), (∀ (I : Addr) (fp : List Addr) (P : Nat → Value → Prop) (W : Nat → Heap → Prop) (s₂ : Shared), Keeps s₁ s₂ → s₁.heap.get? I = none → (∃ o, s₂.heap.get? I = some o ∧ ∀ vs n, o.data ≠ .seq vs n) →
      Walks cx.prog cx.w A I fp [I] items.length P W → W 0 s₂.heap → (∀ i h, W i h → ∃ o, h.get? I = some o ∧ NotOwned o) → (∀ a ∈ fp, a = I ∨ (∃ o, s₁.heap.get? a = some o) ∧ (own → a ∉ O ∧ ∃ o vs n, s₁.heap.get? a = some o ∧ o.data = .seq vs n)) → (∀ i v d, P i v → items[i]? = some d → Rp s₁.heap O v d) → Q (.ref I) s₂) →
    wpAny (model cx.prog cx.w) A (pyIter xv) Q E s₁
theorem intsUp_len (a b : Int) : (intsUp a b).length = (b - a).toNat := by simp [intsUp]
theorem intsUp_get {a b : Int} {i : Nat} {d : PyData} (h : (intsUp a b)[i]? = some d) : d = .int (a + (i : Int)) := by
  unfold intsUp at h
  rw [List.getElem?_map] at h
  cases hi : (List.range (b - a).toNat)[i]? with
  | none => rw [hi] at h; cases h
  | some j =>
    rw [hi] at h
    obtain ⟨h1, h2⟩ := List.getElem?_eq_some_iff.mp hi
    simp at h2
    subst h2
    simpa using h.symm
theorem range_on {a b : Int} {r : Addr} {t u v : Tok} {O : List Addr} {own : Prop} (hh : A.handled = none) (hr : IsRange s.heap r a b 1 t u v) (ha : -1000000 ≤ a) (ha' : a ≤ 1000000) (hb : b ≤ 1000000) (hb' : -1000000 ≤ b) :
    IterOn cx A O own (intsUp a b) (.ref r) s := by
  intro Q E hQ
  have hsm : Builtin.Range.small a b 1 = true := small_one (by omega) (by omega) (by omega) (by omega)
  refine wpAny_pyIter_range hr hsm ?_
  have hsz : Builtin.Range.rangeSize a b 1 = (((b - a).toNat : Nat) : Int) := by
    rw [rangeSize_one]; split <;> omega
  refine hQ s.heap.objs.size [s.heap.objs.size] (fun i v => i < (b - a).toNat ∧ ∃ t, v = .int (a + (i : Int) * 1) t) (fun i h => IsRangeIter h s.heap.objs.size (a + (i : Nat) * 1) (((b - a).toNat : Int) - (i : Nat)) 1) _ ⟨_, _, rfl, Grow.push _ _⟩ (fresh_none _)
    ⟨_, Heap.get?_push_size _ rfl, fun _ _ h => by cases h⟩ ?_ ?_ (fun i h hi => ⟨_, hi, _, _, rfl, rfl, by decide⟩) (fun a ha => .inl (List.mem_singleton.mp ha)) ?_
  · rw [intsUp_len]; exact (Walks.range hh _ a 1 _).bound
  · show IsRangeIter _ _ _ _ _
    rw [hsz]; simpa using Heap.get?_push_size _ rfl
  · rintro i v d ⟨_, t, rfl⟩ hd
    rw [intsUp_get hd, Int.mul_one]
    exact .int _ _
theorem rangeOf_inv {iter : Expr} {args : List Expr} (h : rangeOf? iter = some args) : ∃ np p, iter = .Call (.Name "range" np) args [] p := by
  unfold rangeOf? at h
  split at h
  · rename_i f as p
    cases f <;> dsimp only [nameOf?] at h <;> first | cases h | skip
    rename_i g np
    split at h
    · rename_i hg
      cases h
      rw [eq_of_beq hg]
      exact ⟨np, p, rfl⟩
    · cases h
  · cases h
theorem folded_ok {ev : Expr → (PyData → Prop) → Prop} {iter : Expr} {K : List PyData → Prop} (h : iterW ev kd σ iter K) : ∀ x, foldedSetIterable iter env x = pure x := by
  intro x
  cases iter <;> first | rfl | exact h.elim
theorem iter_ok {ev : EvF} (H : SndE cx k ev) (ra : RA A k) (q : St cx env kd X ow σ s) {iter : Expr} {K : List PyData → Prop} (h : iterW (ev kd σ) kd σ iter K) :
    wpAny (model cx.prog cx.w) A (eval iter env) (fun xv s₁ => Keeps s s₁ ∧ ∃ items, K items ∧ items.length ≤ 3000000 ∧ IterOn cx A (OO X ow) (ownE σ iter = none) items xv s₁) E s := by
  unfold iterW at h
  split at h
  · rename_i kvs ho
    obtain ⟨x, px, rfl, hx⟩ := ownE_dct ho
    obtain ⟨a, hv, hlk, hsm, l, hdo, rfl, hints⟩ := q.vars x _ hx
    refine nameVar_ok q.ek hv ⟨keeps_refl s, _, h.2, by have := h.1; rw [List.length_map]; omega, fun Q E hQ => ?_⟩
    obtain ⟨ep, hat⟩ := hdo.dictAt
    refine wpAny_pyIter_dict hsm hat ?_
    have hlt : a < s.heap.objs.size := hat.lt_size
    refine hQ s.heap.objs.size [s.heap.objs.size, a] (fun i v => ∃ k x, l[i]? = some (k, x) ∧ (intKind cx.prog cx.w).is k v = true) (fun i h => h.IsKeyIter s.heap.objs.size a i l.length ep ∧ Heap.DictAt (intKind cx.prog cx.w) h a l ep) _ ⟨_, _, rfl, Grow.push _ _⟩ (fresh_none _) ⟨_, Heap.get?_push_size _ rfl, fun _ _ h => by cases h⟩ (by
      have hl : (List.map (fun p => PyData.int p.1) (kvOf l)).length = l.length := by simp [kvOf]
      rw [hl]; exact Walks.dictKeys (knd := intKind cx.prog cx.w) ra.hd s.heap.objs.size a (Nat.ne_of_lt hlt) l ep) ⟨⟨_, Heap.get?_push_size _ rfl, rfl, rfl⟩, hat.push _⟩ (fun i h hi => let ⟨o, e, e2, e3⟩ := hi.1; ⟨o, e, _, _, e2, e3, by decide⟩) (fun b hb => ?_) ?_
    · rcases List.mem_cons.mp hb with rfl | hb
      · exact .inl rfl
      · rw [List.mem_singleton.mp hb]
        obtain ⟨o, es, e, _⟩ := hat
        exact .inr ⟨⟨o, e⟩, fun hn => by rw [ho] at hn; cases hn⟩
    · intro i v d hP hd
      obtain ⟨k', v', hk', hkv⟩ := hP
      obtain ⟨t, rfl⟩ := Value.isInt_shape hkv
      have : (List.map (fun p => PyData.int p.1) (kvOf l))[i]? = some (PyData.int k') := by
        unfold kvOf; simp [hk']
      rw [hd] at this
      cases this
      exact .int _ _
  · exact h.elim
  · rename_i ho
    split at h
    · rename_i args hr
      obtain ⟨np, p, rfl⟩ := rangeOf_inv hr
      split at h
      · rename_i hk
        refine wpAny_Call_NameR (blt_ok q hk (by decide) PyProof.Rows.Boot.«range» ?_ (by decide) (by decide))
        match args, h with
        | [e], h =>
          dsimp only at h
          cases hs : isSt e with
          | true => rw [hs] at h; exact h.elim
          | false =>
            rw [hs] at h
            refine call_type1 hs (wpAny_mono (H env kd X ow σ s e _ A E ra q h) (fun v s₁ h₁ => ?_) fun _ _ x => x)
            obtain ⟨k₁, d, r₁, h₁⟩ := h₁
            cases d <;> dsimp only at h₁ <;> first | exact h₁.elim | skip
            obtain ⟨t, rfl⟩ := r₁.int_inv
            refine call_range_1 ⟨keeps_trans k₁ ⟨_, _, rfl, Grow.push _ _⟩, _, h₁.2.2, by rw [intsUp_len]; omega, range_on ra.hd (IsRange.new _ _ _ _ _ _ _) (by omega) (by omega) (by omega) (by omega)⟩
        | [e, f], h =>
          dsimp only at h
          cases hs : isSt e with
          | true => rw [hs] at h; exact h.elim
          | false =>
            cases hs' : isSt f with
            | true => rw [hs, hs'] at h; exact h.elim
            | false =>
              rw [hs, hs'] at h
              refine call_type2 hs hs' (wpAny_mono (H env kd X ow σ s e _ A E ra q h) (fun v s₁ h₁ => ?_) fun _ _ x => x)
              obtain ⟨k₁, d, r₁, h₁⟩ := h₁
              refine wpAny_mono (H env kd X ow σ s₁ f _ A E ra (q.keeps k₁) h₁) (fun v' s₂ h₂ => ?_) fun _ _ x => x
              obtain ⟨k₂, d', r₂, h₂⟩ := h₂
              cases d <;> cases d' <;> dsimp only at h₂ <;> first | exact h₂.elim | skip
              obtain ⟨t, rfl⟩ := r₁.int_inv
              obtain ⟨t', rfl⟩ := r₂.int_inv
              refine call_range_2 ⟨keeps_trans (keeps_trans k₁ k₂) ⟨_, _, rfl, Grow.push _ _⟩, _, h₂.2.2.2.2, by rw [intsUp_len]; omega, range_on ra.hd (IsRange.new _ _ _ _ _ _ _) (by omega) (by omega) (by omega) (by omega)⟩
        | [], h => exact h.elim
        | _ :: _ :: _ :: _, h => exact h.elim
      · exact h.elim
    · split at h
      · exact h.elim
      refine wpAny_mono (H env kd X ow σ s iter _ A E ra q h) (fun v s₁ h₁ => ?_) fun _ _ x => x
      obtain ⟨k₁, d, r₁, h₁⟩ := h₁
      cases d <;> dsimp only at h₁ <;> first | exact h₁.elim | skip
      rename_i ds
      obtain ⟨l, vs, rfl, hl, il, rl⟩ := r₁.list_inv
      have hlen := rl.length
      simp only [Array.length_toList] at hlen
      refine ⟨k₁, ds, h₁.2, by omega, fun Q E hQ => ?_⟩
      refine wpAny_pyIter_list il ?_
      have hlt : l < s₁.heap.objs.size := by obtain ⟨_, e, _⟩ := il; exact Heap.lt_size e
      refine hQ s₁.heap.objs.size [s₁.heap.objs.size, l] (fun i v => vs[i]? = some v) (fun i h => h.IsListIter s₁.heap.objs.size l i ∧ h.IsList l vs) _ ⟨_, _, rfl, Grow.push _ _⟩ (fresh_none _)
        ⟨_, Heap.get?_push_size _ rfl, fun _ _ h => by cases h⟩ ?_ ⟨⟨_, Heap.get?_push_size _ rfl, rfl, rfl⟩, il.push _⟩ (fun i h hi => let ⟨o, e, e2, e3⟩ := hi.1; ⟨o, e, _, _, e2, e3, by decide⟩) (fun a ha => ?_) ?_
      · rw [← hlen]; exact Walks.list ra.hd _ _ (Nat.ne_of_lt hlt) vs
      · rcases List.mem_cons.mp ha with rfl | ha
        · exact .inl rfl
        · rw [List.mem_singleton.mp ha]
          obtain ⟨o, e, _, n, hd⟩ := il
          exact .inr ⟨⟨o, e⟩, fun _ => ⟨hl, o, vs, n, e, hd⟩⟩
      · intro i v d hv hd
        obtain ⟨d', e', rv⟩ := rl.get' (k := i) (by simpa using hv)
        rw [hd] at e'; cases e'
        exact rv
end
def closL (cells : List (Str × Addr)) : List (Str × NameKind) → List (Str × Addr) → List (Str × Addr)
  | [], acc => acc
  | (n, kd) :: r, acc => if kd == .free then closL cells r (match cells.lookup n with | some c => (n, c) :: acc | none => acc) else closL cells r acc
theorem closL_forIn {env : Env} : ∀ (names : List (Str × NameKind)) (acc : List (Str × Addr)), (∀ p ∈ names, p.2 = .free → ∃ c, env.cells.lookup p.1 = some c) →
    (forIn names acc fun (x : Str × NameKind) (cs : List (Str × Addr)) => if (x.2 == .free) = true then do let c ← cellOf env x.1; pure (ForInStep.yield ((x.1, c) :: cs)) else pure (ForInStep.yield cs) : Sem (List (Str × Addr))) = pure (closL env.cells names acc)
  | [], acc, _ => rfl
  | (n, kd) :: r, acc, h => by
    have ih := fun a => closL_forIn r a fun p hp => h p (List.mem_cons_of_mem _ hp)
    rw [List.forIn_cons]
    unfold closL
    cases hk : kd == .free with
    | false =>
      simp only [Bool.false_eq_true, if_false, pure_bind]
      exact ih acc
    | true =>
      obtain ⟨c, hc⟩ := h (n, kd) List.mem_cons_self (eq_of_beq hk)
      simp only [if_true, hc]
      have e : cellOf env n = pure c := by unfold cellOf; rw [hc]
      rw [e]
      simp only [pure_bind]
      exact ih _
theorem closureFor_some {env : Env} {scope : Scope} (h : ∀ p ∈ scope.names, p.2 = .free → ∃ c, env.cells.lookup p.1 = some c) : closureFor scope env = pure (closL env.cells scope.names []) := by
  have e := closL_forIn (env := env) scope.names [] h
  show (bind (forIn scope.names ([] : List (Str × Addr)) fun (x : Str × NameKind) (cs : List (Str × Addr)) => (if (x.2 == NameKind.free) = true then do let c ← cellOf env x.1; pure (ForInStep.yield ((x.1, c) :: cs)) else pure (ForInStep.yield cs) : Sem (ForInStep (List (Str × Addr))))) fun cs => (pure cs : Sem (List (Str × Addr)))) = _
  rw [e]; rfl
theorem closL_lookup {cells : List (Str × Addr)} {x : Str} {c : Addr} : ∀ {names : List (Str × NameKind)} {acc : List (Str × Addr)}, (∀ a, acc.lookup x = some a → cells.lookup x = some a) → (closL cells names acc).lookup x = some c → cells.lookup x = some c
  | [], acc, h, e => h _ e
  | (n, kd) :: r, acc, h, e => by
    unfold closL at e
    split at e
    · refine closL_lookup (names := r) (fun a ha => ?_) e
      split at ha
      · rename_i c' hc'
        rw [List.lookup_cons] at ha
        cases hx : x == n with
        | true => rw [hx] at ha; cases ha; rw [eq_of_beq hx]; exact hc'
        | false => rw [hx] at ha; exact h a ha
      · exact h a ha
    · exact closL_lookup (names := r) h e
theorem closL_has {cells : List (Str × Addr)} {x : Str} {c : Addr} (hc : cells.lookup x = some c) : ∀ {names : List (Str × NameKind)} {acc : List (Str × Addr)}, ((acc.lookup x).isSome = true ∨ (x, NameKind.free) ∈ names) → ((closL cells names acc).lookup x).isSome = true
  | [], acc, h => by
    rcases h with h | h
    · exact h
    · cases h
  | (n, kd) :: r, acc, h => by
    unfold closL
    by_cases hn : x = n
    · subst hn
      by_cases hk : (kd == .free) = true
      · rw [if_pos hk]; exact closL_has hc (.inl (by rw [hc]; simp [List.lookup_cons]))
      · rw [if_neg hk]
        refine closL_has hc (h.imp id fun hm => ?_)
        rcases List.mem_cons.mp hm with e | hm
        · cases e; exact absurd rfl hk
        · exact hm
    · have hx : (x == n) = false := by simpa using hn
      have hm : (acc.lookup x).isSome = true ∨ (x, NameKind.free) ∈ r := h.imp id fun hm => by
        rcases List.mem_cons.mp hm with e | hm
        · cases e; exact absurd rfl hn
        · exact hm
      split
      · refine closL_has hc (hm.imp (fun h => ?_) id)
        split
        · rw [List.lookup_cons, hx]; exact h
        · exact h
      · exact closL_has hc hm
theorem lookup_relab {names : List (Str × NameKind)} {f : Str → NameKind → NameKind} {x : Str} : (names.map fun (n, k) => (n, f n k)).lookup x = (names.lookup x).map (f x) := by
  induction names with
  | nil => rfl
  | cons p r ih =>
    obtain ⟨n, k⟩ := p
    simp only [List.map_cons, List.lookup_cons]
    cases hx : x == n with
    | true => rw [eq_of_beq hx]; rfl
    | false => exact ih
theorem lookup_mem' {α : Type} {x : Str} {a : α} : ∀ {l : List (Str × α)}, l.lookup x = some a → (x, a) ∈ l
  | [], h => by simp at h
  | (y, b) :: r, h => by
    rw [List.lookup_cons] at h
    cases hx : x == y with
    | true => rw [hx] at h; cases h; rw [eq_of_beq hx]; exact List.mem_cons_self
    | false => rw [hx] at h; exact List.mem_cons_of_mem _ (lookup_mem' h)
theorem lookup_filter {α : Type} {p : Str → Bool} {x : Str} : ∀ {l : List (Str × α)}, (l.filter fun q => p q.1).lookup x = if p x = true then l.lookup x else none
  | [] => by simp
  | (y, b) :: r => by
    have ih := lookup_filter (p := p) (x := x) (l := r)
    rw [List.filter_cons, List.lookup_cons]
    cases hx : x == y with
    | true =>
      rw [eq_of_beq hx] at ih ⊢
      by_cases hp : p y = true
      · simp [hp]
      · simp [hp, ih]
    | false =>
      by_cases hp : p y = true
      · simp only [hp, if_true, List.lookup_cons, hx]; exact ih
      · simp only [hp, Bool.false_eq_true, if_false]; exact ih
structure CompOk (kd : Kd) (scope : Scope) (x : Str) : Prop where
  kind : scope.kind = .function
  cell : ∀ y ∈ scope.names, y.2 ≠ .cell
  names : ∀ y ∈ scope.names, y.2 = .local → scope.names.lookup y.1 = some .local
  free : ∀ y ∈ scope.names, y.2 = .free → kd y.1 = some .cell
  loc : scope.names.lookup x = some .local
  dbg : (x == ("__debug__" : Str)) = false
  cdc : (x == ("__classdict__" : Str)) = false
theorem compOk_of {kd : Kd} {scope : Scope} {x : Str} (h : compOk kd scope x = true) : CompOk kd scope x := by
  unfold compOk at h
  simp only [Bool.and_eq_true, Bool.not_eq_true', beq_iff_eq, List.all_eq_true, Bool.or_eq_true, bne_iff_ne, ne_eq] at h
  obtain ⟨⟨⟨⟨h1, h2⟩, h3⟩, h4⟩, h5⟩ := h
  refine ⟨h1, fun y hy => (h2 y hy).1.1, fun y hy e => (h2 y hy).1.2.resolve_left fun n => n e, fun y hy e => (h2 y hy).2.resolve_left fun n => n e, h3, h4, h5⟩
section
variable {cx : Cx} {k : Nat} {env : Env} {kd : Kd} {X : List Addr} {ow : List (Str × Addr)} {σ : Sg} {s : Shared} {A : Around} {E : Value → Shared → Prop}
theorem comp_state {scope : Scope} {x : Str} {C : Addr} {m : Str → Option Value} {v : Value} {d : PyData} (q : St cx env kd X ow σ s) (co : CompOk kd scope x) (hC : s.heap.Ns C m) (hm : m x = some v) (rv : Rp s.heap (OO X ow) v d)
    (hCB : cx.hB.get? C = none) (hCo : ∀ p ∈ ow, p.2 ≠ C) (hCc : ∀ y c, env.cells.lookup y = some c → c ≠ C) :
    St cx (compEnvC scope (closL env.cells scope.names []) C env) (kdC kd scope.names) X ow ((x, .val d) :: capt σ scope) s := by
  have hkd : ∀ y, (compEnvC scope (closL env.cells scope.names []) C env).kindOf y = kdC kd scope.names y := by
    intro y
    show (scope.names.map fun (n, k) => if (k == .free && env.scope.kind == .function && env.kindOf n == some .cell) = true then (n, NameKind.cell) else (n, k)).lookup y = _
    unfold kdC
    have : (env.scope.kind == ScopeKind.function) = true := by rw [q.ek.kind]; rfl
    simp only [this, q.ek.kd]
  have hk2 : ∀ y, kdC kd scope.names y = (scope.names.lookup y).map fun k => if (k == .free && true && kd y == some .cell) = true then NameKind.cell else k := by
    intro y
    unfold kdC
    rw [← lookup_relab (f := fun n k => if (k == .free && true && kd n == some .cell) = true then NameKind.cell else k)]
    congr 1
    apply List.map_congr_left
    rintro ⟨n, k⟩ _
    dsimp only
    split <;> rfl
  have hcl : ∀ y c, (closL env.cells scope.names []).lookup y = some c → env.cells.lookup y = some c := fun y c h => closL_lookup (fun a ha => by cases ha) h
  refine ⟨⟨co.kind, q.ek.glob, q.ek.bi, hkd⟩, q.base, ⟨m, hC⟩, hCB, ?_, ?_, ?_, q.old, ?_, q.ownN, ?_⟩
  · intro y hy
    rw [hkd, hk2] at hy
    cases hl : scope.names.lookup y with
    | none => rw [hl] at hy; cases hy
    | some k' =>
      have hmem := lookup_mem' hl
      rw [hl] at hy
      have hy' : (if (k' == .free && true && kd y == some .cell) = true then NameKind.cell else k') = .cell := by simpa using hy
      split at hy'
      · rename_i hc
        simp only [Bool.and_true, Bool.and_eq_true, beq_iff_eq] at hc
        obtain ⟨c, hc'⟩ := q.celK y ((q.ek.kd y).trans hc.2)
        have := closL_has (names := scope.names) (acc := []) hc' (.inr (hc.1 ▸ hmem))
        exact Option.isSome_iff_exists.mp this
      · exact absurd hy' (co.cell _ hmem)
  · intro y c hy
    obtain ⟨a, b, _⟩ := q.cel y c (hcl y c hy)
    exact ⟨a, b, hCc y c (hcl y c hy)⟩
  · intro y z c hy hz
    exact q.celN y z c (hcl _ _ hy) (hcl _ _ hz)
  · intro p hp
    obtain ⟨a, b, c, d, e⟩ := q.own p hp
    exact ⟨a, b, c, hCo p hp, fun y c h => e y c (hcl _ _ h)⟩
  · intro y sl hy
    rw [List.lookup_cons] at hy
    cases hx : y == x with
    | true =>
      rw [hx] at hy
      cases hy
      rw [eq_of_beq hx]
      refine ⟨v, ⟨co.dbg, co.cdc, .inl ⟨?_, m, hC, hm⟩⟩, rv⟩
      rw [hkd, hk2, co.loc]; rfl
    | false =>
      rw [hx] at hy
      have hy' := (lookup_filter (p := fun n => scope.names.lookup n == some NameKind.free) (x := y) (l := σ)).symm.trans hy
      split at hy'
      · rename_i hf
        have hf' : scope.names.lookup y = some .free := by simpa using hf
        have hcell := co.free _ (lookup_mem' hf') rfl
        obtain ⟨c, hc⟩ := q.celK y ((q.ek.kd y).trans hcell)
        obtain ⟨c', hc'⟩ := Option.isSome_iff_exists.mp (closL_has (names := scope.names) (acc := []) hc (.inr (lookup_mem' hf')))
        have hc2 := hcl _ _ hc'
        rw [hc] at hc2
        cases hc2
        have hv : ∀ w, VarAt env s.heap y w → VarAt (compEnvC scope (closL env.cells scope.names []) C env) s.heap y w := by
          rintro w ⟨h1, h2, h3⟩
          refine ⟨h1, h2, .inr ⟨.inl ?_, c, hc', ?_⟩⟩
          · rw [hkd, hk2, hf', hcell]; rfl
          · rcases h3 with ⟨h3, _⟩ | ⟨_, c', h3, h4⟩
            · rw [q.ek.kd, hcell] at h3; cases h3
            · rw [hc] at h3; cases h3; exact h4
        have := q.vars y sl hy'
        cases sl with
        | val d => obtain ⟨w, a, b⟩ := this; exact ⟨w, hv w a, b⟩
        | lst ds => obtain ⟨a, vs, b, c, d⟩ := this; exact ⟨a, vs, hv _ b, c, d⟩
        | dct kvs => obtain ⟨a, b, c⟩ := this; exact ⟨a, hv _ b, c⟩
        | dead => trivial
      · cases hy'
end
section
variable {cx : Cx} {k : Nat} {env : Env} {kd : Kd} {X : List Addr} {ow : List (Str × Addr)} {σ : Sg} {s : Shared} {A : Around} {E : Value → Shared → Prop}
theorem size_le' {n : Nat} (h : n ≤ 4000000) : n ≤ sizeLine := by rw [sizeLine_eq]; omega
theorem rp_more {h h' : Heap} {O N : List Addr} (g : Grow h h') (hN : ∀ D ∈ N, h.get? D = none) {v : Value} {d : PyData} (r : Rp h O v d) : Rp h' (N ++ O) v d :=
  r.change (fun _ _ _ _ _ e _ => g _ _ e) fun a o vs n hn e _ hm => by
    rcases List.mem_append.mp hm with hm | hm
    · rw [hN a hm] at e; cases e
    · exact hn hm
theorem rpAll_more {h h' : Heap} {O N : List Addr} (g : Grow h h') (hN : ∀ D ∈ N, h.get? D = none) {v : List Value} {d : List PyData} (r : RpAll h O v d) : RpAll h' (N ++ O) v d :=
  r.change (fun _ _ _ _ _ e _ => g _ _ e) fun a o vs n hn e _ hm => by
    rcases List.mem_append.mp hm with hm | hm
    · rw [hN a hm] at e; cases e
    · exact hn hm
theorem slotAt_more {h h' : Heap} {O N : List Addr} {x : Str} {sl : Slot} (g : Grow h h') (hN : ∀ D ∈ N, h.get? D = none) (q : SlotAt cx env h O ow x sl) : SlotAt cx env h' (N ++ O) ow x sl := by
  cases sl with
  | val d => obtain ⟨v, a, b⟩ := q; exact ⟨v, varAt_grow g a, rp_more g hN b⟩
  | lst ds => obtain ⟨a, vs, b, c, d, e⟩ := q; exact ⟨a, vs, varAt_grow g b, c, plain_grow g d, rpAll_more g hN e⟩
  | dct kvs => obtain ⟨a, b, c, d⟩ := q; exact ⟨a, varAt_grow g b, c, dictInts_grow g d⟩
  | dead => trivial
theorem St.addX {s' : Shared} {N : List Addr} (q : St cx env kd X ow σ s) (kp : Keeps s s') (hN : ∀ D ∈ N, s.heap.get? D = none) (hN' : ∀ D ∈ N, ∃ o, s'.heap.get? D = some o) : St cx env kd (N ++ X) ow σ s' := by
  have q' := q.keeps kp
  refine ⟨q'.ek, q'.base, q'.loc, q'.locB, q'.celK, q'.cel, q'.celN, fun a ha => ?_, fun p hp => ?_, q'.ownN, fun x sl hx => ?_⟩
  · rcases List.mem_append.mp ha with ha | ha
    · exact hN' a ha
    · exact q'.old a ha
  · obtain ⟨a, b, c, d⟩ := q'.own p hp
    refine ⟨a, fun hm => ?_, c, d⟩
    rcases List.mem_append.mp hm with e | hm
    · obtain ⟨o, ho⟩ := (q.own p hp).2.2.1
      rw [hN _ e] at ho; cases ho
    · exact b hm
  · have := slotAt_more (keeps_grow kp) hN (q.vars x sl hx)
    rw [List.append_assoc]; exact this
theorem tests_ok {tr : TrF} {cenv : Env} {kd' : Kd} {X' : List Addr} {τ : Sg} (HT : SndT cx k tr) (ra : RA A k) (q : St cx cenv kd' X' ow τ s) {ifs : List Expr} {Q : Bool → Prop} (h : tests (tr kd' τ) ifs Q) :
    wpAny (model cx.prog cx.w) A (forIn ifs true fun c r => if r = true then do let ok ← isTrue c cenv (eval c cenv); pure (ForInStep.yield ok) else pure (ForInStep.yield r)) (fun b s' => Keeps s s' ∧ Q b) E s := by
  match ifs, h with
  | [], h => exact wpAny_tests_nil ⟨keeps_refl s, h⟩
  | [c], h => exact wpAny_tests_one (HT cenv kd' X' ow τ s c Q A E ra q h)
  | _ :: _ :: _, h => exact h.elim
theorem comp_ok {ev : EvF} {tr : TrF} (H : SndE cx k ev) (HT : SndT cx k tr) (ra : RA A k) (q : St cx env kd X ow σ s) {elt : Expr} {gens : List Comprehension} {scope : Scope} {pos p' : Pos} {Q : List PyData → Prop}
    (h : compW ev tr kd σ elt gens scope Q) {use : Option (Value → Sem Unit)} {QQ : Value → Shared → Prop}
    (fin : ∀ (D C : Addr) (m : Str → Option Value) (s' : Shared) (ds : List PyData) (vs : Array Value), Keeps s s' → s.heap.get? D = none → s.heap.get? C = none → D ≠ C → s'.heap.Ns C m → s'.heap.PlainList D vs → RpAll s'.heap (D :: OO X ow) vs.toList ds → Q ds →
      compPost (model cx.prog cx.w) A E use QQ (.ref D) C (.ok .next) s') :
    wpAny (model cx.prog cx.w) A (comprehension (.ListComp elt gens scope pos) scope env p' (newList []) (firstAsync gens) (firstIter gens env) use) QQ E s := by
  unfold compW at h
  match gens, h with
  | [], h => exact h.elim
  | _ :: _ :: _, h => exact h.elim
  | [⟨target, iter, ifs, asy⟩], h =>
  dsimp only at h
  cases ht : nameOf? target with
  | none => rw [ht] at h; exact h.elim
  | some x =>
  rw [ht] at h
  dsimp only at h
  have htt : ∃ px, target = .Name x px := by
    cases target <;> dsimp only [nameOf?] at ht <;> first | cases ht | skip
    exact ⟨_, rfl⟩
  obtain ⟨px, rfl⟩ := htt
  cases hco : compOk kd scope x && asy == 0 with
  | false => rw [hco] at h; exact h.elim
  | true =>
  rw [hco] at h
  dsimp only at h
  obtain ⟨hco1, hasy⟩ := Bool.and_eq_true_iff.mp hco
  obtain rfl := eq_of_beq hasy
  have co := compOk_of hco1
  have hfree : ∀ p ∈ scope.names, p.2 = .free → ∃ c, env.cells.lookup p.1 = some c := fun p hp e => q.celK _ ((q.ek.kd _).trans (co.free p hp e))
  refine wpAny_comprehension_free (use := use) rfl (folded_ok h) (closureFor_some hfree) co.kind co.names (wpAny_mono (iter_ok H ra q h) (fun xv s₁ h₁ => ?_) fun _ _ e => e)
  obtain ⟨k₁, items, ⟨f, hf, hQ⟩, hlen, hiter⟩ := h₁
  refine hiter _ _ fun I fp P W s₂ k₂ hI hI' WK hW0 hWI hfp hP => ?_
  refine wpAny_newObj_type (wpAny_newFunctionEnv co.cell (by intro y hy; simp at hy) (fun h₁ hns₁ hsb₁ => ?_) co.kind)
  dsimp only at hns₁ hsb₁ ⊢
  generalize hH2 : s₂.heap.push { cls := .type "list", dict := none, data := .seq ([] : List Value).toArray } = H2 at hns₁ hsb₁ ⊢
  have hC : H2.objs.size = s₂.heap.objs.size + 1 := by rw [← hH2, Heap.size_push]
  generalize hDn : s₂.heap.objs.size = D at hns₁ hsb₁ hC ⊢
  generalize hCn : H2.objs.size = C at hns₁ hsb₁ hC ⊢
  have hD2 : s₂.heap.get? D = none := hDn ▸ fresh_none _
  have hC2 : s₂.heap.get? C = none := by
    cases e : s₂.heap.get? C with
    | none => rfl
    | some o =>
      have h9 := Heap.lt_size e
      rw [hC, hDn] at h9
      exact absurd h9 (Nat.not_lt.mpr (Nat.le_succ D))
  have hDC : D ≠ C := by rw [hC]; exact Nat.ne_of_lt (Nat.lt_succ_self D)
  have old₂ : ∀ b o, s₂.heap.get? b = some o → h₁.get? b = some o := fun b o e =>
    hsb₁.extBut b o (fun z => by have z' : b = C := z; rw [z', hC2] at e; cases e) (Heap.get?_push_of_some _ (hH2 ▸ Heap.get?_push_of_some _ e))
  have hacc : h₁.PlainList D #[] := ⟨_, hsb₁.extBut _ _ hDC (Heap.get?_push_of_some _ (hH2 ▸ hDn ▸ Heap.get?_push_size _ rfl))⟩
  have g01 : Grow s.heap s₁.heap := keeps_grow k₁
  have g12 : Grow s₁.heap s₂.heap := keeps_grow k₂
  obtain ⟨oI, hoI, hoIs⟩ := hI'
  have hDI : D ≠ I := fun e => by rw [e, hoI] at hD2; cases hD2
  have hCI : C ≠ I := fun e => by rw [e, hoI] at hC2; cases hC2
  have hfpD : D ∉ fp := fun hm => by
    rcases hfp D hm with e | ⟨⟨o, e⟩, _⟩
    · exact hDI e
    · rw [g12 _ _ e] at hD2; cases hD2
  have hfpC : C ∉ fp := fun hm => by
    rcases hfp C hm with e | ⟨⟨o, e⟩, _⟩
    · exact hCI e
    · rw [g12 _ _ e] at hC2; cases hC2
  have none_back : ∀ {a b : Heap} {z : Addr}, Grow a b → b.get? z = none → a.get? z = none := fun {a b z} g e => by
    cases e' : a.get? z with
    | none => rfl
    | some o => rw [g _ _ e'] at e; cases e
  have hD1 := none_back g12 hD2
  have hC1 := none_back g12 hC2
  have hD0 := none_back g01 hD1
  have hC0 := none_back g01 hC1
  have loop : ∀ s₃ : Shared, s₃ = { s₂ with heap := h₁, toks := s₂.toks + ([] : List (Str × Value)).length } →
      codeAny (model cx.prog cx.w) A (.compLoop (.ListComp elt [⟨.Name x px, iter, ifs, 0⟩] scope pos) 0 (.ref I) (.ref D) (compEnvC scope (closL env.cells scope.names []) C env))
        (compPost (model cx.prog cx.w) A E use QQ (.ref D) C) s₃ := by
    rintro s₃ rfl
    refine codeAny_compLoop_tests
      (fun n s' => ∃ h' tk i m' vs, s' = { s₂ with heap := h', toks := tk } ∧ i ≤ items.length ∧ n = items.length + 1 - i ∧ W i h' ∧ Grow s₁.heap h' ∧ (∃ o, h'.get? I = some o) ∧ h'.Ns C m' ∧ h'.PlainList D vs ∧ vs.size ≤ i ∧
        RpAll h' ([D, I] ++ OO X ow) vs.toList ((items.take i).filterMap f)) ?_ (items.length + 1)
      ⟨h₁, _, 0, _, #[], rfl, Nat.zero_le _, rfl, WK.frame _ _ _ hW0 fun b _ o e => old₂ b o e, fun b o e => old₂ b o (g12 b o e), ⟨_, old₂ _ _ hoI⟩, hns₁, hacc, Nat.le_refl _, by simpa using RpAll.nil⟩
    rintro n s' ⟨h', tk, i, m', vs, rfl, hi, rfl, hWi, gi, hIi, hns, hl, hvs, hr⟩
    by_cases hlt : i < items.length
    · refine WK.item i _ _ _ hlt hWi fun v h₂ tk₂ hPv hW₂ hk₂ => ?_
      obtain ⟨d, hd⟩ : ∃ d, items[i]? = some d := ⟨items[i], by simp [hlt]⟩
      have hI1 : ∀ b o, s₁.heap.get? b = some o → b ≠ I := fun b o e hb => by rw [hb, hI] at e; cases e
      have g2 : Grow s₁.heap h₂ := fun b o e => hk₂ b o (by simpa using hI1 b o e) (gi b o e)
      refine wpAny_assign_Name (wpAny_storeName_local (lookup_relabel_local co.loc) (hns.at' fun o e => hk₂ _ o (by simpa using hCI) e) (fun h₃ hn₃ hs₃ => ?_) (by simp [compEnvC, relabel, co.kind]))
      have g3 : Grow s₁.heap h₃ := fun b o e => hs₃.extBut b o (fun z => by have z' : b = C := z; rw [z', hC1] at e; cases e) (g2 b o e)
      have kp3 : Keeps s { s₂ with heap := h₃, toks := tk₂ + 1 } := by
        obtain ⟨_, _, rfl, _⟩ := k₁
        obtain ⟨_, _, rfl, _⟩ := k₂
        exact ⟨h₃, _, rfl, fun b o e => g3 b o (g01 b o e)⟩
      have hl3 : h₃.PlainList D vs := (hl.extBut (b := I) (fun b o hb e => hk₂ b o (by simpa using hb) e) hDI).extBut hs₃.extBut hDC
      have hI3 : ∃ o, h₃.get? I = some o := (hWI (i + 1) h₃ (WK.frame _ _ _ hW₂ fun b hb o e => hs₃.extBut b o (fun z => hfpC (by have z' : b = C := z; rw [← z']; exact hb)) e)).imp fun _ z => z.1
      have hW3 : W (i + 1) h₃ := WK.frame _ _ _ hW₂ fun b hb o e => hs₃.extBut b o (fun z => hfpC (by have z' : b = C := z; rw [← z']; exact hb)) e
      have r3 : RpAll h₃ ([D, I] ++ OO X ow) vs.toList ((items.take i).filterMap f) := hr.change (fun a o w n hn e ed => hs₃.extBut a o (fun z => by
          obtain ⟨o', es, ep, e', ed', _⟩ := hns
          have z' : a = C := z
          rw [z', e'] at e; cases e; rw [ed] at ed'; cases ed') (hk₂ a o (fun z => by
          have z' : a = I := by simpa using z
          exact hn (by rw [z']; simp)) e)) fun _ _ _ _ n _ _ => n
      have hI0 : s.heap.get? I = none := none_back g01 hI
      have hN : ∀ z ∈ [D, I], s.heap.get? z = none := by
        intro z hz
        rcases List.mem_cons.mp hz with rfl | hz
        · exact hD0
        · rw [List.mem_singleton.mp hz]; exact hI0
      have hN' : ∀ z ∈ [D, I], ∃ o, h₃.get? z = some o := by
        intro z hz
        rcases List.mem_cons.mp hz with rfl | hz
        · obtain ⟨n, e⟩ := hl3; exact ⟨_, e⟩
        · rw [List.mem_singleton.mp hz]; exact hI3
      have q3 := q.addX kp3 hN hN'
      have rv3 : Rp h₃ ([D, I] ++ OO X ow) v d := rp_more g3 (fun z hz => by
        rcases List.mem_cons.mp hz with rfl | hz
        · exact hD1
        · rw [List.mem_singleton.mp hz]; exact hI) (hP i v d hPv hd)
      have hCB : cx.hB.get? C = none := none_back q.base hC0
      have qc := comp_state (v := v) (d := d) q3 co hn₃ (by simp) (by rw [show OO ([D, I] ++ X) ow = [D, I] ++ OO X ow from List.append_assoc _ _ _]; exact rv3) hCB
        (fun p hp e => by obtain ⟨o, ho⟩ := (q.own p hp).2.2.1; have e' : p.2 = C := e; rw [e', hC0] at ho; cases ho)
        (fun y c hy e => by obtain ⟨⟨w, o, ho, _⟩, _⟩ := q.cel y c hy; have e' : c = C := e; rw [e', hC0] at ho; cases ho)
      have hfd := hf d (List.mem_of_getElem? hd)
      have htake : (items.take (i + 1)).filterMap f = (items.take i).filterMap f ++ ([d].filterMap f) := by
        rw [List.take_add_one, hd, List.filterMap_append]; rfl
      refine wpAny_mono (tests_ok HT ra qc hfd) (fun b s₄ h₄ => ?_) fun _ _ x => x
      obtain ⟨k₄, hb⟩ := h₄
      have g4 := keeps_grow k₄
      cases b with
      | false =>
        simp only [Bool.false_eq_true, if_false]
        obtain ⟨h4, tk4, rfl, _⟩ := k₄
        refine ⟨items.length + 1 - (i + 1), by omega, h4, tk4, i + 1, _, vs, rfl, hlt, rfl, WK.frame _ _ _ hW3 fun b _ o e => g4 b o e, fun b o e => g4 _ _ (g3 b o e), hI3.imp fun _ e => g4 _ _ e, hn₃.keeps g4, plain_grow g4 hl3, by omega, ?_⟩
        rw [htake]
        have e0 : [d].filterMap f = [] := by simp [hb]
        rw [e0, List.append_nil]
        exact r3.grow g4
      | true =>
        simp only [if_true]
        refine wpAny_mono (H _ _ _ ow _ s₄ elt _ A _ ra (qc.keeps k₄) hb) (fun y s₅ h₅ => ?_) fun _ _ x => x
        obtain ⟨k₅, dy, ry, hfy⟩ := h₅
        have k45 := keeps_trans k₄ k₅
        have g5 := keeps_grow k45
        obtain ⟨h5, tk5, rfl, _⟩ := k45
        have hl5 := plain_grow g5 hl3
        refine wpAny_list_append_plain (hsz := by have := hlen; exact size_le' (by omega)) hl5 fun h6 hl6 hs6 => ?_
        have hI5 : ∃ o, h5.get? I = some o := hI3.imp fun _ e => g5 _ _ e
        have ne_D : ∀ b o, h₃.get? b = some o → b ≠ D → h6.get? b = some o := fun b o e hb => hs6.extBut b o hb (g5 b o e)
        refine ⟨items.length + 1 - (i + 1), by omega, h6, tk5, i + 1, _, vs.push y, rfl, hlt, rfl, WK.frame _ _ _ hW3 (fun b hb o e => ne_D b o e (fun z => hfpD (z ▸ hb))),
          fun b o e => ne_D b o (g3 b o e) (fun z => by rw [z, hD1] at e; cases e), hI3.elim fun o e => ⟨o, ne_D _ _ e (Ne.symm hDI)⟩, (hn₃.keeps g5).sameBut hs6 (Ne.symm hDC), hl6, by rw [Array.size_push]; omega, ?_⟩
        rw [htake]
        have e1 : [d].filterMap f = [dy] := by simp [hfy]
        rw [e1, Array.toList_push]
        have hkD : ∀ a (o : Obj) vs n, a ∉ [D, I] ++ OO X ow → h5.get? a = some o → o.data = .seq vs n → h6.get? a = some o := fun a o _ _ hn e _ => hs6.extBut a o (fun z => hn (by rw [z]; simp)) e
        have ry' : Rp h5 ([D, I] ++ OO X ow) y dy := by rw [show [D, I] ++ OO X ow = OO ([D, I] ++ X) ow from (List.append_assoc _ _ _).symm]; exact ry
        exact ((r3.grow g5).append (.one ry')).change hkD fun _ _ _ _ n _ _ => n
    · obtain rfl : i = items.length := Nat.le_antisymm hi (Nat.not_lt.mp hlt)
      refine WK.done _ _ _ hWi fun h₂ tk₂ hk₂ => ?_
      have hkI : ∀ b o, h'.get? b = some o → b ≠ I → h₂.get? b = some o := fun b o e hb => hk₂ b o (by simpa using hb) e
      have kpf : Keeps s { s₂ with heap := h₂, toks := tk₂ } := by
        obtain ⟨_, _, rfl, _⟩ := k₁
        obtain ⟨_, _, rfl, _⟩ := k₂
        exact ⟨h₂, _, rfl, fun b o e => hkI b o (gi b o (g01 b o e)) (fun z => by rw [z, none_back g01 hI] at e; cases e)⟩
      refine fin D C m' _ ((items.take items.length).filterMap f) vs kpf hD0 hC0 hDC (hns.at' fun o e => hkI _ o e hCI) (hl.extBut (b := I) (fun b o hb e => hkI b o e hb) hDI) ?_ (by rw [List.take_length]; exact hQ)
      exact (hr.change (fun a o _ _ hn e _ => hkI a o e fun z => hn (by rw [z]; simp)) fun _ _ _ _ n _ _ => n).sub (fun a ha => by
        rcases List.mem_cons.mp ha with rfl | ha
        · simp
        · exact List.mem_append_right _ ha)
  exact codeAny_compStart_list (loop _ rfl) (WK.self 0 _ _ _ (WK.frame _ _ _ hW0 fun b _ o e => old₂ b o e) (loop _ rfl))
end
section
variable {cx : Cx} {k : Nat} {env : Env} {kd : Kd} {X : List Addr} {ow : List (Str × Addr)} {σ : Sg} {s : Shared} {A : Around} {E : Value → Shared → Prop}
theorem chain_ok {ev : EvF} (H : SndE cx k ev) (ra : RA A k) {p : Pos} : ∀ (ops : List CmpOp) (rs : List Expr) (s : Shared) (u : Value) (a : PyData) (Q : Bool → Prop), St cx env kd X ow σ s → Rp s.heap (OO X ow) u a → chW (ev kd σ) a ops rs Q →
    wpAny (model cx.prog cx.w) A (testChain p u ops (evalEach rs env)) (fun b s' => Keeps s s' ∧ Q b) E s
  | [], _, _, _, _, _, _, _, h => h.elim
  | [_], [], _, _, _, _, _, _, h => h.elim
  | [_], _ :: _ :: _, _, _, _, _, _, _, h => h.elim
  | _ :: _ :: _, [], _, _, _, _, _, _, h => h.elim
  | _ :: _ :: _, [_], _, _, _, _, _, _, h => h.elim
  | [op], [r], s, u, a, Q, q, ru, h => by
    have h' : ev kd σ r fun b => cmpW op a b Q := h
    refine test_last (wpAny_mono (H env kd X ow σ s r _ A E ra q h') (fun v s₁ h₁ => ?_) fun _ _ x => x)
    obtain ⟨k₁, b, rb, hb⟩ := h₁
    refine wpAny_mono (cmp_ok ra (ru.grow (keeps_grow k₁)) rb hb) (fun c s₂ h₂ => ?_) fun _ _ x => x
    obtain ⟨rfl, b', rfl, hQ⟩ := h₂
    exact wpAny_truthy_bool ⟨k₁, hQ⟩
  | op :: op' :: ops, r :: r' :: rs, s, u, a, Q, q, ru, h => by
    have h' : ev kd σ r fun b => cmpW op a b fun c => (match c with | true => chW (ev kd σ) b (op' :: ops) (r' :: rs) Q | false => Q false) := h
    refine test_link (wpAny_mono (H env kd X ow σ s r _ A E ra q h') (fun v s₁ h₁ => ?_) fun _ _ x => x)
    obtain ⟨k₁, b, rb, hb⟩ := h₁
    refine wpAny_mono (cmp_ok ra (ru.grow (keeps_grow k₁)) rb hb) (fun c s₂ h₂ => ?_) fun _ _ x => x
    obtain ⟨rfl, b', rfl, hQ⟩ := h₂
    refine wpAny_truthy_bool ?_
    cases b' with
    | false => simp only [Bool.false_eq_true, if_false]; exact ⟨k₁, hQ⟩
    | true =>
      simp only [if_true]
      refine wpAny_mono (chain_ok H ra (op' :: ops) (r' :: rs) s₂ v b Q (q.keeps k₁) rb hQ) (fun c s₃ h₃ => ⟨keeps_trans k₁ h₃.1, h₃.2⟩) fun _ _ x => x
theorem evStep_ok {ev : EvF} {tr : TrF} (hS : SortOk cx) (H : SndE cx k ev) (HT : SndT cx k tr) : SndE cx k (evStep cx k ev tr) := by
  intro env kd X ow σ s e Q A E ra q h
  unfold evStep at h
  cases e <;> dsimp only at h <;> first | exact h.elim | skip
  · -- BoolOp
    rename_i op vs pos
    match vs, h with
    | [], h => exact h.elim
    | [_], h => exact h.elim
    | _ :: _ :: _ :: _, h => exact h.elim
    | [x, y], h =>
      dsimp only at h
      have fin : ∀ (s₁ : Shared) (h' : ev kd σ y Q), Keeps s s₁ → wpAny (model cx.prog cx.w) A (eval y env) (fun v s' => Keeps s s' ∧ ∃ d, Rp s'.heap (OO X ow) v d ∧ Q d) E s₁ := fun s₁ h' k₁ =>
        wpAny_mono (H env kd X ow σ s₁ y Q A E ra (q.keeps k₁) h') (fun v s₂ h₂ => ⟨keeps_trans k₁ h₂.1, h₂.2⟩) fun _ _ x => x
      cases op with
      | And =>
        refine wpAny_And2 (wpAny_mono (H env kd X ow σ s x _ A E ra q h) (fun v s₁ h₁ => ?_) fun _ _ x => x)
        obtain ⟨k₁, a, r₁, h₁⟩ := h₁
        refine wpAny_mono (truth_ok r₁ h₁) (fun t s₂ h₂ => ?_) fun _ _ x => x
        obtain ⟨rfl, h₂⟩ := h₂
        cases t with
        | true => simp only [if_true]; exact fin _ h₂ k₁
        | false => simp only [Bool.false_eq_true, if_false]; exact ⟨k₁, a, r₁, h₂⟩
      | Or =>
        refine wpAny_Or2 (wpAny_mono (H env kd X ow σ s x _ A E ra q h) (fun v s₁ h₁ => ?_) fun _ _ x => x)
        obtain ⟨k₁, a, r₁, h₁⟩ := h₁
        refine wpAny_mono (truth_ok r₁ h₁) (fun t s₂ h₂ => ?_) fun _ _ x => x
        obtain ⟨rfl, h₂⟩ := h₂
        cases t with
        | true => simp only [if_true]; exact ⟨k₁, a, r₁, h₂⟩
        | false => simp only [Bool.false_eq_true, if_false]; exact fin _ h₂ k₁
  · -- BinOp
    rename_i l op r pos
    refine wpAny_BinOp (wpAny_mono (H env kd X ow σ s l _ A E ra q h) (fun u s₁ h₁ => ?_) fun _ _ x => x)
    obtain ⟨k₁, a, r₁, h₁⟩ := h₁
    refine wpAny_mono (H env kd X ow σ s₁ r _ A E ra (q.keeps k₁) h₁) (fun v s₂ h₂ => ?_) fun _ _ x => x
    obtain ⟨k₂, b, r₂, h₂⟩ := h₂
    exact wpAny_mono (bin_ok (r₁.grow (keeps_grow k₂)) r₂ ((q.keeps k₁).keeps k₂).fresh h₂) (fun v s₃ h₃ => ⟨keeps_trans (keeps_trans k₁ k₂) h₃.1, h₃.2⟩) fun _ _ x => x
  · -- UnaryOp
    rename_i op x pos
    refine wpAny_UnaryOp (wpAny_mono (H env kd X ow σ s x _ A E ra q h) (fun u s₁ h₁ => ?_) fun _ _ x => x)
    obtain ⟨k₁, a, r₁, h₁⟩ := h₁
    exact wpAny_mono (un_ok r₁ h₁) (fun v s₃ h₃ => ⟨keeps_trans k₁ h₃.1, h₃.2⟩) fun _ _ x => x
  · -- IfExp
    rename_i t b o pos
    refine wpAny_IfExp (wpAny_mono (HT env kd X ow σ s t _ A E ra q h) (fun c s₁ h₁ => ?_) fun _ _ x => x)
    obtain ⟨k₁, h₁⟩ := h₁
    cases c with
    | true => simp only [if_true]; exact wpAny_mono (H env kd X ow σ s₁ b _ A E ra (q.keeps k₁) h₁) (fun v s₃ h₃ => ⟨keeps_trans k₁ h₃.1, h₃.2⟩) fun _ _ x => x
    | false => simp only [Bool.false_eq_true, if_false]; exact wpAny_mono (H env kd X ow σ s₁ o _ A E ra (q.keeps k₁) h₁) (fun v s₃ h₃ => ⟨keeps_trans k₁ h₃.1, h₃.2⟩) fun _ _ x => x
  · -- ListComp
    rename_i elt gens scope pos
    rw [eval_ListComp]
    refine comp_ok (use := none) H HT ra q h fun D C m s' ds vs kp hD hC hDC hns hl hr hQ => ?_
    refine ⟨m, hns, fun h' hs' => ?_⟩
    have kp' : Keeps s { s' with heap := h' } := by
      obtain ⟨g, tk, rfl, hk⟩ := kp
      exact ⟨h', tk, rfl, fun b o e => hs'.extBut b o (fun z => by rw [z, hC] at e; cases e) (hk b o e)⟩
    have hDO : D ∉ OO X ow := fun hm => by obtain ⟨o, e⟩ := q.oldO D hm; rw [hD] at e; cases e
    refine ⟨kp', _, Rp.of_list (hl.extBut hs'.extBut hDC).isList hDO (hr.change (fun a o vs n _ e ed => hs'.extBut a o (fun z => by
      obtain ⟨o', es, ep, e', ed', _⟩ := hns
      rw [z, e'] at e; cases e; rw [ed] at ed'; cases ed') e) fun a o vs n hn _ _ hm => hn (List.mem_cons_of_mem _ hm)), hQ⟩
  · -- Compare
    rename_i l ops rs pos
    match ops, rs, h with
    | [], _, h => exact h.elim
    | [_], [], h => exact h.elim
    | [_], _ :: _ :: _, h => exact h.elim
    | _ :: _ :: _, _, h => exact h.elim
    | [op], [r], h =>
      dsimp only at h
      cases hm : behindInMarks op r with
      | true => rw [hm] at h; exact h.elim
      | false =>
        rw [hm] at h
        refine wpAny_Compare1 (wpAny_mono (H env kd X ow σ s l _ A E ra q h) (fun u s₁ h₁ => ?_) fun _ _ x => x) hm
        obtain ⟨k₁, a, r₁, h₁⟩ := h₁
        refine wpAny_mono (H env kd X ow σ s₁ r _ A E ra (q.keeps k₁) h₁) (fun v s₂ h₂ => ?_) fun _ _ x => x
        obtain ⟨k₂, b, r₂, h₂⟩ := h₂
        refine wpAny_mono (cmp_ok ra (r₁.grow (keeps_grow k₂)) r₂ h₂) (fun c s₃ h₃ => ?_) fun _ _ x => x
        obtain ⟨rfl, c', rfl, h₃⟩ := h₃
        exact ⟨keeps_trans k₁ k₂, _, .bool _, h₃⟩
  · -- Call
    rename_i f args kws pos
    match kws, h with
    | _ :: _, hh => exact hh.elim
    | [], hh =>
      dsimp only at hh
      cases hn : nameOf? f with
      | some g =>
        rw [hn] at hh
        have hf : ∃ np, f = .Name g np := by
          cases f <;> dsimp only [nameOf?] at hn <;> first | cases hn | skip
          exact ⟨_, rfl⟩
        obtain ⟨np, rfl⟩ := hf
        exact call_ok H hS ra q hh
      | none =>
        rw [hn] at hh
        dsimp only at hh
        cases ha : attrOf? f with
        | none => rw [ha] at hh; exact hh.elim
        | some z =>
          obtain ⟨o, m, ap⟩ := z
          rw [ha] at hh
          have hf : f = .Attribute o m ap := by
            cases f <;> dsimp only [attrOf?] at ha <;> first | cases ha | skip
            rfl
          subst hf
          exact meth_ok H ra q hh
  · exact cst_ok h
  · exact subscript_ok H ra q h
  · exact name_ok q h
  · -- List
    rename_i es pos
    cases hz : Nat.ble es.length 100 with
    | false => rw [hz] at h; exact h.elim
    | true =>
      rw [hz] at h
      have hz' := Nat.le_of_ble_eq_true hz
      refine wpAny_List_spliced (wpAny_mono (evs_ok H ra es s _ q h) (fun vs s₁ h₁ => ?_) fun _ _ x => x)
      obtain ⟨k₁, ds, r₁, hl, hQ⟩ := h₁
      have e1 := r₁.length
      refine ⟨size_le (by omega), keeps_trans k₁ ⟨_, _, rfl, Grow.push _ _⟩, _, Rp.list (Heap.get?_push_size _ rfl) (q.keeps k₁).fresh rfl rfl (by simpa using r₁.grow (Grow.push _ _)), hQ⟩
  · -- Tuple
    rename_i es k' pos
    cases hz : Nat.ble es.length 100 with
    | false => rw [hz] at h; exact h.elim
    | true =>
      rw [hz] at h
      have hz' := Nat.le_of_ble_eq_true hz
      refine wpAny_Tuple_spliced (wpAny_mono (evs_ok H ra es s _ q h) (fun vs s₁ h₁ => ?_) fun _ _ x => x)
      obtain ⟨k₁, ds, r₁, hl, hQ⟩ := h₁
      have e1 := r₁.length
      refine ⟨size_le (by omega), keeps_trans k₁ ⟨_, _, rfl, Grow.push _ _⟩, _, Rp.tuple (Heap.get?_push_size _ rfl) (q.keeps k₁).fresh rfl rfl (by simpa using r₁.grow (Grow.push _ _)), hQ⟩
theorem all_ok {tr : TrF} (HT : SndT cx k tr) (ra : RA A k) {op : BoolOp} : ∀ (es : List Expr) (s : Shared) (Q : Bool → Prop), St cx env kd X ow σ s → allW (tr kd σ) op es Q →
    wpAny (model cx.prog cx.w) A (allTrue op es env) (fun b s' => Keeps s s' ∧ Q b) E s
  | [], s, Q, q, h => by
    cases op <;> exact wpAny_pure ⟨keeps_refl s, h⟩
  | e :: es, s, Q, q, h => by
    unfold allW at h
    cases op with
    | And =>
      refine wpAny_allTrue_And_cons (wpAny_mono (HT env kd X ow σ s e _ A E ra q h) (fun b s₁ h₁ => ?_) fun _ _ x => x)
      obtain ⟨k₁, h₁⟩ := h₁
      cases b with
      | false => simp only [Bool.false_eq_true, if_false]; exact ⟨k₁, h₁⟩
      | true => simp only [if_true]; exact wpAny_mono (all_ok HT ra es s₁ Q (q.keeps k₁) h₁) (fun c s₂ h₂ => ⟨keeps_trans k₁ h₂.1, h₂.2⟩) fun _ _ x => x
    | Or =>
      refine wpAny_allTrue_Or_cons (wpAny_mono (HT env kd X ow σ s e _ A E ra q h) (fun b s₁ h₁ => ?_) fun _ _ x => x)
      obtain ⟨k₁, h₁⟩ := h₁
      cases b with
      | true => simp only [if_true]; exact ⟨k₁, h₁⟩
      | false => simp only [Bool.false_eq_true, if_false]; exact wpAny_mono (all_ok HT ra es s₁ Q (q.keeps k₁) h₁) (fun c s₂ h₂ => ⟨keeps_trans k₁ h₂.1, h₂.2⟩) fun _ _ x => x
theorem trStep_ok {ev : EvF} {tr : TrF} (H : SndE cx k ev) (HT : SndT cx k tr) : SndT cx k (trStep ev tr) := by
  intro env kd X ow σ s e Q A E ra q h
  unfold trStep at h
  cases e <;> dsimp only at h <;> first | exact h.elim | skip
  · rename_i op vs pos
    exact wpAny_isTrue_BoolOp (all_ok HT ra vs s Q q h)
  · rename_i op x pos
    cases op <;> dsimp only at h <;> first | exact h.elim | skip
    exact wpAny_isTrue_Not (HT env kd X ow σ s x _ A E ra q h)
  · rename_i l ops rs pos
    cases hm : lastMarks ops rs with
    | true => rw [hm] at h; exact h.elim
    | false =>
      rw [hm] at h
      show wpAny _ A (do testChain pos (← eval l env) ops (markedEach ops rs (evalEach rs env))) _ _ _
      rw [markedEach_of_false _ _ _ hm]
      refine wpAny_bind (wpAny_mono (H env kd X ow σ s l _ A E ra q h) (fun u s₁ h₁ => ?_) fun _ _ x => x)
      obtain ⟨k₁, a, r₁, h₁⟩ := h₁
      exact wpAny_mono (chain_ok H ra ops rs s₁ u a Q (q.keeps k₁) r₁ h₁) (fun c s₂ h₂ => ⟨keeps_trans k₁ h₂.1, h₂.2⟩) fun _ _ x => x
  · rename_i f args kws pos
    refine wpAny_isTrue_value (wpAny_mono (H env kd X ow σ s _ _ A E ra q h) (fun u s₁ h₁ => ?_) fun _ _ x => x) rfl
    obtain ⟨k₁, a, r₁, h₁⟩ := h₁
    refine wpAny_mono (truth_ok r₁ h₁) (fun t s₂ h₂ => ?_) fun _ _ x => x
    obtain ⟨rfl, h₂⟩ := h₂
    exact ⟨k₁, h₂⟩
  · rename_i x p
    refine wpAny_isTrue_value (wpAny_mono (H env kd X ow σ s _ _ A E ra q h) (fun u s₁ h₁ => ?_) fun _ _ x => x) rfl
    obtain ⟨k₁, a, r₁, h₁⟩ := h₁
    refine wpAny_mono (truth_ok r₁ h₁) (fun t s₂ h₂ => ?_) fun _ _ x => x
    obtain ⟨rfl, h₂⟩ := h₂
    exact ⟨k₁, h₂⟩
theorem evtr_ok (hS : SortOk cx) : ∀ n, SndE cx k (evW cx k n) ∧ SndT cx k (trW cx k n)
  | 0 => ⟨fun _ _ _ _ _ _ _ _ _ _ _ _ h => h.elim, fun _ _ _ _ _ _ _ _ _ _ _ _ h => h.elim⟩
  | n + 1 => by
    have ih := evtr_ok hS n
    rw [evW_succ, trW_succ]
    exact ⟨evStep_ok hS ih.1 ih.2, trStep_ok ih.1 ih.2⟩
end
inductive Fl where
  | next | cont | brk
  | ret (d : PyData)
abbrev PF := Fl → Sg → Prop
abbrev ExF := Kd → Stmt → Sg → PF → Prop
abbrev BlF := Kd → List Stmt → Sg → PF → Prop
def storable (kd : Kd) (x : Str) : Bool := (kd x == some .local || kd x == some .cell) && !(x == ("__debug__" : Str)) && !(x == ("__classdict__" : Str))
def Sub (τ' τ : Sg) : Prop := ∀ x sl, τ'.lookup x = some sl → sl = .dead ∨ τ.lookup x = some sl
def upd (x : Str) (s : Slot) : Sg → Sg
  | [] => [(x, s)]
  | (y, t) :: r => match x == y with
    | true => (y, s) :: r
    | false => (y, t) :: upd x s r
theorem lookup_upd {x y : Str} {s : Slot} : ∀ {σ : Sg}, (upd x s σ).lookup y = List.lookup y ((x, s) :: σ)
  | [] => rfl
  | (z, t) :: r => by
    unfold upd
    cases hxz : x == z with
    | true =>
      obtain rfl := eq_of_beq hxz
      simp only [List.lookup_cons]
      cases y == x <;> rfl
    | false =>
      simp only
      rw [List.lookup_cons, lookup_upd (σ := r), List.lookup_cons, List.lookup_cons, List.lookup_cons]
      cases hyz : y == z with
      | true =>
        obtain rfl := eq_of_beq hyz
        have : (y == x) = false := by
          rw [beq_eq_false_iff_ne] at hxz ⊢
          exact fun e => hxz e.symm
        rw [this]
      | false => rfl
def frzS : Slot → Slot
  | .lst ds => .val (.list ds)
  | .dct _ => .dead
  | s => s
def frz (σ : Sg) : Sg := σ.map fun p => (p.1, frzS p.2)
def compOf? : Expr → Option (Expr × List Comprehension × Scope × Pos)
  | .ListComp e g s p => some (e, g, s, p)
  | _ => none
def othComp : Expr → Bool
  | .SetComp .. => true
  | .DictComp .. => true
  | .ListComp .. => true
  | _ => false
def subOf? : Expr → Option (Expr × Expr)
  | .Subscript o i _ => some (o, i)
  | _ => none
def tupOf? : Expr → Option (List Expr)
  | .Tuple es _ _ => some es
  | _ => none
def callOf? : Expr → Option (Expr × List Expr × List Keyword × Pos)
  | .Call f a k p => some (f, a, k, p)
  | _ => none
def emptyL : Expr → Bool
  | .List [] _ => true
  | _ => false
def emptyD : Expr → Bool
  | .Dict [] [] _ => true
  | _ => false
def swapOk (kd : Kd) (x : Str) (tp cp : Pos) (scope : Scope) : Bool := kd x == some .local && tp.line == cp.line && !(scope.names.any fun (n, k) => n == x && (k == .local || k == .cell))
def namePos : Expr → Pos
  | .Name _ p => p
  | _ => ⟨0, 0, 0, 0⟩
section
variable (ev : EvF) (tr : TrF) (own : List Str)
def assignW (kd : Kd) (x : Str) (tp : Pos) (v : Expr) (σ : Sg) (Q : PF) : Prop := match compOf? v with
  | some (elt, gens, scope, cp) => (match swapOk kd x tp cp scope with
    | true => compW ev tr kd σ elt gens scope fun ds => (match own.contains x with
      | true => Q .next (upd x (.lst ds) σ)
      | false => Q .next (upd x (.val (.list ds)) σ))
    | false => False)
  | none => (match othComp v with
    | true => False
    | false => (match own.contains x with
      | false => ev kd σ v fun d => Q .next (upd x (.val d) σ)
      | true => (match emptyL v with
        | true => Q .next (upd x (.lst []) σ)
        | false => (match emptyD v with
          | true => Q .next (upd x (.dct []) σ)
          | false => (match callOf? v with
            | some (f, [e], [], _) => (match nameOf? f with
              | some g => if (g == ("list" : Str)) = true then (match kd g, isSt e with
                  | some .globalImplicit, false => ev kd σ e fun d => (match d with | .list ds => ds.length ≤ 1000000 ∧ Q .next (upd x (.lst ds) σ) | _ => False)
                  | _, _ => False) else False
              | none => False)
            | _ => False)))))
def setW (kd : Kd) (o i v : Expr) (σ : Sg) (Q : PF) : Prop := match othComp v with
  | true => False
  | false => (match nameOf? o with
    | some x => ev kd σ v fun d => (match σ.lookup x with
      | some (.lst ds) => ev kd σ i fun j => (match j with
        | .int kk => 0 ≤ kk ∧ kk < (ds.length : Int) ∧ ds.length ≤ 1000000 ∧ Q .next (upd x (.lst (ds.set kk.toNat d)) σ)
        | _ => False)
      | some (.dct kvs) => ev kd σ i fun j => (match d, j with
        | .int w, .int kk => kvs.length ≤ 1000000 ∧ Q .next (upd x (.dct (putKV kvs kk w)) σ)
        | _, _ => False)
      | _ => False)
    | none => False)
def augW (kd : Kd) (x : Str) (op : Operator) (v : Expr) (σ : Sg) (Q : PF) : Prop := match storable kd x, op with
  | true, .Add => (match σ.lookup x with
    | some (.val (.int a)) => ev kd σ v fun d => (match d with | .int b => Q .next (upd x (.val (.int (a + b))) σ) | _ => False)
    | some (.lst ds) => ev kd σ v fun d => (match d with | .list es => ds.length ≤ 1000000 ∧ es.length ≤ 1000000 ∧ Q .next (upd x (.val (.list (ds ++ es))) σ) | _ => False)
    | _ => False)
  | _, _ => False
def exprW (kd : Kd) (e : Expr) (σ : Sg) (Q : PF) : Prop := match callOf? e with
  | some (f, [a], [], pos) => (match attrOf? f with
    | some (o, m, ap) => (match nameOf? o with
      | some x => if ((m == ("append" : Str)) && (ap.endLine == pos.line)) = true then (match σ.lookup x, isSt a with
        | some (.lst ds), false => ev kd σ a fun d => ds.length ≤ 1000000 ∧ Q .next (upd x (.lst (ds ++ [d])) σ)
        | _, _ => False) else False
      | none => False)
    | none => False)
  | _ => False
def bindAll (kd : Kd) : List Expr → List PyData → Sg → (Sg → Prop) → Prop
  | [], [], σ, K => K σ
  | t :: ts, d :: ds, σ, K => (match nameOf? t with
    | some x => (match storable kd x with | true => bindAll kd ts ds (upd x (.val d) σ) K | false => False)
    | none => False)
  | _, _, _, _ => False
def bindT (kd : Kd) (t : Expr) (d : PyData) (σ : Sg) (K : Sg → Prop) : Prop := match tupOf? t with
  | some ts => (match d with | .tuple ds => bindAll kd ts ds σ K | _ => False)
  | none => bindAll kd [t] [d] σ K
def forW (bl : BlF) (kd : Kd) (t it : Expr) (b : List Stmt) (σ : Sg) (Q : PF) : Prop := match ownE σ it with
  | some _ => False
  | none => iterW (ev kd σ) kd σ it fun items => ∃ I : Nat → Sg → Prop, I 0 σ ∧
      (∀ i d τ, items[i]? = some d → I i τ → bindT kd t d τ fun τ' => bl kd b τ' fun f υ => (match f with
        | .next => ∃ υ', Sub υ' υ ∧ I (i + 1) υ'
        | .cont => ∃ υ', Sub υ' υ ∧ I (i + 1) υ'
        | .brk => Q .next υ
        | .ret d => Q (.ret d) υ)) ∧ ∀ τ, I items.length τ → Q .next τ
def whileW (bl : BlF) (kd : Kd) (t : Expr) (b : List Stmt) (σ : Sg) (Q : PF) : Prop := ∃ (I : Sg → Prop) (μ : Sg → Nat), I σ ∧
  ∀ τ, I τ → tr kd τ t fun c => (match c with
    | true => bl kd b τ fun f υ => (match f with
      | .next => ∃ υ', Sub υ' υ ∧ I υ' ∧ μ υ' < μ τ
      | .cont => ∃ υ', Sub υ' υ ∧ I υ' ∧ μ υ' < μ τ
      | .brk => Q .next υ
      | .ret d => Q (.ret d) υ)
    | false => Q .next τ)
def exStep (bl : BlF) : ExF := fun kd st σ Q => match st with
  | .Assign ts v _ => (match ts with
    | [t] => (match nameOf? t with
      | some x => (match storable kd x with
        | true => assignW ev tr own kd x (namePos t) v σ Q
        | false => False)
      | none => (match subOf? t with
        | some (o, i) => setW ev kd o i v σ Q
        | none => (match tupOf? t, subOf? v with
          | some _, some _ => ev kd σ v fun d => bindT kd t d σ fun τ => Q .next τ
          | _, _ => False)))
    | _ => False)
  | .AugAssign t op v _ => (match nameOf? t with
    | some x => augW ev kd x op v σ Q
    | none => False)
  | .Expr e _ => exprW ev kd e σ Q
  | .If t b o _ => tr kd σ t fun c => (match c with | true => bl kd b σ Q | false => bl kd o σ Q)
  | .While t b o _ => (match o with | [] => whileW tr bl kd t b σ Q | _ => False)
  | .For t it b o _ => (match o with | [] => forW ev bl kd t it b σ Q | _ => False)
  | .Return v _ => (match v with | some e => ev kd (frz σ) e fun d => Q (.ret d) [] | none => False)
  | .Continue _ => Q .cont σ
  | _ => False
def blStep (ex : ExF) : BlF := fun kd => fun ss => match ss with
  | [] => fun σ Q => Q .next σ
  | st :: rest => fun σ Q => ex kd st σ fun f τ => (match f with
    | .next => blStep ex kd rest τ Q
    | .cont => Q .cont τ
    | .brk => Q .brk τ
    | .ret d => Q (.ret d) τ)
end
def exW (cx : Cx) (k n : Nat) (own : List Str) : Nat → ExF
  | 0 => fun _ _ _ _ => False
  | m + 1 => exStep (evW cx k n) (trW cx k n) own (blStep (exW cx k n own m))
theorem blStep_nil (ex : ExF) (kd : Kd) (σ : Sg) (Q : PF) : blStep ex kd [] σ Q = Q .next σ := rfl
theorem blStep_cons (ex : ExF) (kd : Kd) (st : Stmt) (rest : List Stmt) (σ : Sg) (Q : PF) : blStep ex kd (st :: rest) σ Q = ex kd st σ fun f τ => (match f with
    | .next => blStep ex kd rest τ Q
    | .cont => Q .cont τ
    | .brk => Q .brk τ
    | .ret d => Q (.ret d) τ) := rfl
def Frm (env : Env) (ow : List (Str × Addr)) (s s' : Shared) : Prop :=
  (∃ h tk, s' = { s with heap := h, toks := tk }) ∧ (∀ b, (∃ o, s.heap.get? b = some o) → ∃ o, s'.heap.get? b = some o) ∧
  ∀ b o, s.heap.get? b = some o → b ≠ env.locals → (∀ x c, env.cells.lookup x = some c → b ≠ c) → (∀ p ∈ ow, b ≠ p.2) → s'.heap.get? b = some o
def OwnExt (s : Shared) (ow ow' : List (Str × Addr)) : Prop := ∀ p ∈ ow', p ∈ ow ∨ s.heap.get? p.2 = none
section
variable {cx : Cx} {k : Nat} {env : Env} {kd : Kd} {X : List Addr} {ow ow' ow'' : List (Str × Addr)} {σ : Sg} {s s' s'' : Shared} {A : Around} {E : Value → Shared → Prop}
theorem Frm.of_keeps (kp : Keeps s s') : Frm env ow s s' := by
  obtain ⟨h, t, rfl, g⟩ := kp
  exact ⟨⟨h, t, rfl⟩, fun b ⟨o, e⟩ => ⟨o, g b o e⟩, fun b o e _ _ _ => g b o e⟩
theorem OwnExt.refl : OwnExt s ow ow := fun _ h => .inl h
theorem Frm.trans (a : Frm env ow s s') (x : OwnExt s ow ow') (b : Frm env ow' s' s'') : Frm env ow s s'' := by
  obtain ⟨⟨h, t, rfl⟩, a1, a2⟩ := a
  obtain ⟨⟨h', t', rfl⟩, b1, b2⟩ := b
  refine ⟨⟨h', t', rfl⟩, fun b e => b1 b (a1 b e), fun b o e n1 n2 n3 => b2 b o (a2 b o e n1 n2 n3) n1 n2 fun p hp z => ?_⟩
  rcases x p hp with hq | hq
  · exact n3 p hq z
  · rw [z, hq] at e; cases e
theorem Frm.trans' (a : Frm env ow s s') (x : OwnExt s ow ow') (y : OwnExt s' ow' ow'') : OwnExt s ow ow'' := fun p hp => by
  rcases y p hp with h | h
  · exact x p h
  · right
    cases e : s.heap.get? p.2 with
    | none => rfl
    | some o => obtain ⟨o', e'⟩ := a.2.1 p.2 ⟨o, e⟩; rw [e'] at h; cases h
end
section
variable {cx : Cx} {k : Nat} {env : Env} {kd : Kd} {X : List Addr} {ow ow' ow'' : List (Str × Addr)} {σ : Sg} {s s' s'' : Shared} {A : Around} {E : Value → Shared → Prop}
theorem ns_unique {h : Heap} {a : Addr} {m m' : Str → Option Value} (x : h.Ns a m) (y : h.Ns a m') : m = m' := by
  obtain ⟨o, es, ep, e, d, _, f⟩ := x
  obtain ⟨o', es', ep', e', d', _, f'⟩ := y
  rw [e] at e'; cases e'
  rw [d] at d'; cases d'
  funext n
  rw [← f, f']
theorem St.sub {τ : Sg} (q : St cx env kd X ow σ s) (h : Sub τ σ) : St cx env kd X ow τ s :=
  ⟨q.ek, q.base, q.loc, q.locB, q.celK, q.cel, q.celN, q.old, q.own, q.ownN, fun x sl e => by
    rcases h x sl e with rfl | h
    · trivial
    · exact q.vars x sl h⟩
theorem St.up {x : Str} {sl : Slot} (q : St cx env kd X ow ((x, sl) :: σ) s) : St cx env kd X ow (upd x sl σ) s := q.sub fun y t e => .inr (by rw [← e, lookup_upd])
theorem own_ne {x y : Str} {a b : Addr} : ∀ {ow : List (Str × Addr)}, (ow.map (·.2)).Nodup → (x, a) ∈ ow → (y, b) ∈ ow → x ≠ y → a ≠ b
  | [], _, h, _, _ => by cases h
  | p :: r, hn, hx, hy, hne => by
    simp only [List.map_cons, List.nodup_cons] at hn
    rcases List.mem_cons.mp hx with e1 | hx'
    · rcases List.mem_cons.mp hy with e2 | hy'
      · rw [← e1] at e2; cases e2; exact absurd rfl hne
      · exact fun e => hn.1 (List.mem_map.mpr ⟨_, hy', by rw [← e1]; exact e.symm⟩)
    · rcases List.mem_cons.mp hy with e2 | hy'
      · exact fun e => hn.1 (List.mem_map.mpr ⟨_, hx', by rw [← e2]; exact e⟩)
      · exact own_ne hn.2 hx' hy' hne
structure Off (z : Addr) (h h' : Heap) : Prop where
  same : ∀ b, b ≠ z → h'.get? b = h.get? b
  nseq : ∀ o, h.get? z = some o → ∀ vs n, o.data ≠ .seq vs n
theorem Off.rp {z : Addr} {h h' : Heap} (c : Off z h h') {O : List Addr} {v : Value} {d : PyData} (r : Rp h O v d) : Rp h' O v d :=
  r.change (fun a o vs n _ e ed => by rw [c.same a (fun x => c.nseq o (x ▸ e) vs n ed)]; exact e) fun _ _ _ _ n _ _ => n
theorem Off.rpAll {z : Addr} {h h' : Heap} (c : Off z h h') {O : List Addr} {v : List Value} {d : List PyData} (r : RpAll h O v d) : RpAll h' O v d :=
  r.change (fun a o vs n _ e ed => by rw [c.same a (fun x => c.nseq o (x ▸ e) vs n ed)]; exact e) fun _ _ _ _ n _ _ => n
theorem Off.list {z a : Addr} {h h' : Heap} (c : Off z h h') (hz : a ≠ z) {vs : Array Value} (r : h.PlainList a vs) : h'.PlainList a vs := let ⟨n, e⟩ := r; ⟨n, (c.same a hz).trans e⟩
theorem Off.dict {z a : Addr} {h h' : Heap} (c : Off z h h') (hz : a ≠ z) {kvs : List (Int × Int)} (r : DictInts cx h a kvs) : DictInts cx h' a kvs :=
  let ⟨e, l, ⟨o, es, ep, g, q⟩, t⟩ := r; ⟨e, l, ⟨o, es, ep, (c.same a hz).trans g, q⟩, t⟩
theorem store_ok {x : Str} {v : Value} {QQ : Unit → Shared → Prop} (q : St cx env kd X ow σ s) (hx : storable kd x = true)
    (h : ∀ s' z, Frm env ow s s' → St cx env kd X ow ((x, .dead) :: σ) s' → VarAt env s'.heap x v → Off z s.heap s'.heap → (∀ p ∈ ow, p.2 ≠ z) → QQ () s') : wpAny (model cx.prog cx.w) A (storeName env x v) QQ E s := by
  unfold storable at hx
  simp only [Bool.and_eq_true, Bool.not_eq_true', Bool.or_eq_true, beq_iff_eq] at hx
  obtain ⟨⟨hk, hd⟩, hc⟩ := hx
  have core : ∀ (h' : Heap) (tk : Nat) (z : Addr), (∀ b, b ≠ z → h'.get? b = s.heap.get? b) → (∃ o, h'.get? z = some o) → (∀ o, s.heap.get? z = some o → ∀ vs n, o.data ≠ .seq vs n) → cx.hB.get? z = none → (∀ p ∈ ow, p.2 ≠ z) →
      (∃ m, h'.Ns env.locals m) → (∀ y c, env.cells.lookup y = some c → ∃ w, h'.IsCell c w) → VarAt env h' x v → (∀ y w, y ≠ x → VarAt env s.heap y w → VarAt env h' y w) → (z = env.locals ∨ ∃ y, env.cells.lookup y = some z) → QQ () { s with heap := h', toks := tk } := by
    intro h' tk z hsame hex hseq hzB hzo hloc hcel hv hvs hz
    have off : Off z s.heap h' := ⟨hsame, hseq⟩
    have ex : ∀ b, (∃ o, s.heap.get? b = some o) → ∃ o, h'.get? b = some o := fun b e => by
      by_cases hb : b = z
      · rw [hb]; exact hex
      · rw [hsame b hb]; exact e
    refine h _ z ⟨⟨h', tk, rfl⟩, ex, fun b o e n1 n2 _ => ?_⟩ ⟨q.ek, fun b o e => ?_, hloc, q.locB, q.celK, fun y c hy => ⟨hcel y c hy, (q.cel y c hy).2⟩, q.celN, fun a ha => ex a (q.old a ha), fun p hp => ?_, q.ownN, fun y sl hy => ?_⟩ hv off hzo
    · have : b ≠ z := by
        rcases hz with hz | ⟨y, hz⟩
        · rw [hz]; exact n1
        · exact n2 y z hz
      exact (hsame b this).trans e
    · have : b ≠ z := fun hb => by rw [hb, hzB] at e; cases e
      exact (hsame b this).trans (q.base b o e)
    · obtain ⟨a, b, c, d⟩ := q.own p hp
      exact ⟨a, b, ex _ c, d⟩
    · rw [List.lookup_cons] at hy
      cases hyx : y == x with
      | true => rw [hyx] at hy; cases hy; trivial
      | false =>
        rw [hyx] at hy
        have hne : y ≠ x := by simpa using hyx
        have := q.vars y sl hy
        cases sl with
        | val d => obtain ⟨w, a, b⟩ := this; exact ⟨w, hvs y w hne a, off.rp b⟩
        | lst ds => obtain ⟨a, vs, b, c, d, e⟩ := this; exact ⟨a, vs, hvs y _ hne b, c, off.list (hzo _ (lookup_own c)) d, off.rpAll e⟩
        | dct kvs => obtain ⟨a, b, c, d⟩ := this; exact ⟨a, hvs y _ hne b, c, off.dict (hzo _ (lookup_own c)) d⟩
        | dead => trivial
  rcases hk with hk | hk
  · have hk' : env.kindOf x = some .local := (q.ek.kd x).trans hk
    obtain ⟨m, hm⟩ := q.loc
    refine wpAny_storeName_local hk' hm (fun h' hn hs => ?_) (by rw [q.ek.kind]; rfl)
    refine core h' _ env.locals (fun b hb => hs.2 b hb) (let ⟨o, _, _, e, _⟩ := hn; ⟨o, e⟩) (fun o ho vs n hd' => by
      obtain ⟨o', es, ep, e', d', _⟩ := hm
      rw [ho] at e'; cases e'; rw [hd'] at d'; cases d') q.locB (fun p hp => (q.own p hp).2.2.2.1) ⟨_, hn⟩ (fun y c hy => ?_) ⟨hd, hc, .inl ⟨hk', _, hn, by simp⟩⟩ (fun y w hne hv => ?_) (.inl rfl)
    · obtain ⟨⟨w, o, e, d⟩, _, hcl⟩ := q.cel y c hy
      exact ⟨w, o, (hs.2 c hcl).trans e, d⟩
    · obtain ⟨a, b, h3⟩ := hv
      refine ⟨a, b, ?_⟩
      rcases h3 with ⟨h3, m', hm', e⟩ | ⟨h3, c, hcc, ho, e1, e2⟩
      · refine .inl ⟨h3, _, hn, ?_⟩
        rw [ns_unique hm hm', if_neg hne]; exact e
      · refine .inr ⟨h3, c, hcc, ho, (hs.2 c ?_).trans e1, e2⟩
        exact (q.cel y c hcc).2.2
  · have hk' : env.kindOf x = some .cell := (q.ek.kd x).trans hk
    obtain ⟨c, hcc⟩ := q.celK x hk'
    obtain ⟨⟨w0, hw0⟩, hcB, hcL⟩ := q.cel x c hcc
    refine wpAny_storeName_cell q.ek.kind hk' hcc hw0 fun h' hn hs => ?_
    refine core h' _ c (fun b hb => hs.2 b hb) (let ⟨o, e, _⟩ := hn; ⟨o, e⟩) (fun o ho vs n hd' => by
      obtain ⟨o', e', d'⟩ := hw0
      rw [ho] at e'; cases e'; rw [hd'] at d'; cases d') hcB (fun p hp e => (q.own p hp).2.2.2.2 x c hcc e.symm) (q.loc.imp fun m hm => hm.sameBut hs (Ne.symm hcL)) (fun y c' hy => ?_) ⟨hd, hc, .inr ⟨.inl hk', c, hcc, hn⟩⟩ (fun y w hne hv => ?_) (.inr ⟨x, hcc⟩)
    · by_cases e : c' = c
      · rw [e]; exact ⟨_, hn⟩
      · obtain ⟨⟨w, o, e1, d⟩, _⟩ := q.cel y c' hy
        exact ⟨w, o, (hs.2 c' e).trans e1, d⟩
    · obtain ⟨a, b, h3⟩ := hv
      refine ⟨a, b, ?_⟩
      rcases h3 with ⟨h3, m', hm', e⟩ | ⟨h3, c', hcc', ho, e1, e2⟩
      · exact .inl ⟨h3, m', hm'.sameBut hs (Ne.symm hcL), e⟩
      · refine .inr ⟨h3, c', hcc', ho, (hs.2 c' fun e => ?_).trans e1, e2⟩
        exact hne (q.celN y x c (e ▸ hcc') hcc)
theorem St.slot {x : Str} {sl : Slot} (q : St cx env kd X ow ((x, .dead) :: σ) s) (h : SlotAt cx env s.heap (OO X ow) ow x sl) : St cx env kd X ow ((x, sl) :: σ) s := by
  refine ⟨q.ek, q.base, q.loc, q.locB, q.celK, q.cel, q.celN, q.old, q.own, q.ownN, fun y sl' e => ?_⟩
  rw [List.lookup_cons] at e
  cases hyx : y == x with
  | true => rw [hyx] at e; cases e; rw [eq_of_beq hyx]; exact h
  | false =>
    rw [hyx] at e
    exact q.vars y sl' (by rw [List.lookup_cons, hyx]; exact e)
theorem St.mutate {x : Str} {a : Addr} {h' : Heap} {tk : Nat} (q : St cx env kd X ow σ s) (hxa : ow.lookup x = some a) (hs : Heap.SameBut a s.heap h') (he : ∃ o, h'.get? a = some o) :
    St cx env kd X ow ((x, .dead) :: σ) { s with heap := h', toks := tk } ∧ Frm env ow s { s with heap := h', toks := tk } := by
  have hmem := lookup_own hxa
  obtain ⟨hB, hX, hE, hL, hC⟩ := q.own _ hmem
  have ex : ∀ b, (∃ o, s.heap.get? b = some o) → ∃ o, h'.get? b = some o := fun b e => by
    by_cases hb : b = a
    · rw [hb]; exact he
    · rw [hs.2 b hb]; exact e
  have vars : ∀ y w, VarAt env s.heap y w → VarAt env h' y w := fun y w ⟨h1, h2, h3⟩ => by
    refine ⟨h1, h2, ?_⟩
    rcases h3 with ⟨h3, m, hm, e⟩ | ⟨h3, c, hcc, ho, e1, e2⟩
    · exact .inl ⟨h3, m, hm.sameBut hs (Ne.symm hL), e⟩
    · exact .inr ⟨h3, c, hcc, ho, (hs.2 c (hC y c hcc)).trans e1, e2⟩
  have hO : ∀ b, b ∉ OO X ow → b ≠ a := fun b hb e => hb (List.mem_append_right _ (List.mem_map.mpr ⟨_, hmem, e.symm⟩))
  refine ⟨⟨q.ek, fun b o e => (hs.2 b (fun z => by rw [z, hB] at e; cases e)).trans (q.base b o e), q.loc.imp fun m hm => hm.sameBut hs (Ne.symm hL), q.locB, q.celK, fun y c hy => ⟨?_, (q.cel y c hy).2⟩, q.celN, fun b hb => ex b (q.old b hb), fun p hp => ?_, q.ownN, fun y sl hy => ?_⟩, ⟨h', tk, rfl⟩, ex, fun b o e _ _ n => (hs.2 b (n _ hmem)).trans e⟩
  · obtain ⟨⟨w, o, e1, d⟩, _⟩ := q.cel y c hy
    exact ⟨w, o, (hs.2 c (hC y c hy)).trans e1, d⟩
  · obtain ⟨a', b, c, d⟩ := q.own p hp
    exact ⟨a', b, ex _ c, d⟩
  · rw [List.lookup_cons] at hy
    cases hyx : y == x with
    | true => rw [hyx] at hy; cases hy; trivial
    | false =>
      rw [hyx] at hy
      have hne : x ≠ y := fun e => by simp [e] at hyx
      have := q.vars y sl hy
      cases sl with
      | val d => obtain ⟨w, a', b⟩ := this; exact ⟨w, vars y w a', b.change (fun b o _ _ hb e _ => (hs.2 b (hO b hb)).trans e) fun _ _ _ _ n _ _ => n⟩
      | lst ds =>
        obtain ⟨b, vs, h1, h2, ⟨o, e⟩, h4⟩ := this
        have hba : b ≠ a := Ne.symm (own_ne q.ownN hmem (lookup_own h2) hne)
        exact ⟨b, vs, vars y _ h1, h2, ⟨o, (hs.2 b hba).trans e⟩, h4.change (fun b o _ _ hb e _ => (hs.2 b (hO b hb)).trans e) fun _ _ _ _ n _ _ => n⟩
      | dct kvs =>
        obtain ⟨b, h1, h2, h3, l, ⟨o, es, ep, e, h4⟩, h5⟩ := this
        have hba : b ≠ a := Ne.symm (own_ne q.ownN hmem (lookup_own h2) hne)
        exact ⟨b, vars y _ h1, h2, h3, l, ⟨o, es, ep, (hs.2 b hba).trans e, h4⟩, h5⟩
      | dead => trivial
theorem St.own_add {x : Str} {a : Addr} (q : St cx env kd X ow σ s) (kp : Keeps s s') (ha : s.heap.get? a = none) (ha' : ∃ o, s'.heap.get? a = some o) :
    St cx env kd X ((x, a) :: ow) ((x, .dead) :: σ) s' ∧ OwnExt s ow ((x, a) :: ow) := by
  have q' := q.keeps kp
  refine ⟨⟨q'.ek, q'.base, q'.loc, q'.locB, q'.celK, q'.cel, q'.celN, q'.old, fun p hp => ?_, ?_, fun y sl hy => ?_⟩, fun p hp => ?_⟩
  · rcases List.mem_cons.mp hp with rfl | hp
    · refine ⟨?_, fun h => ?_, ha', fun h => ?_, fun y c hy h => ?_⟩
      · cases e : cx.hB.get? a with
        | none => rfl
        | some o => rw [q.base _ _ e] at ha; cases ha
      · obtain ⟨o, e⟩ := q.old _ h
        rw [ha] at e; cases e
      · obtain ⟨m, o, _, _, e, _⟩ := q.loc
        have h' : a = env.locals := h
        rw [← h', ha] at e; cases e
      · obtain ⟨⟨w, o, e, _⟩, _⟩ := q.cel y c hy
        have h' : c = a := h
        rw [h', ha] at e; cases e
    · exact q'.own p hp
  · simp only [List.map_cons, List.nodup_cons]
    refine ⟨fun h => ?_, q'.ownN⟩
    obtain ⟨p, hp, e⟩ := List.mem_map.mp h
    obtain ⟨o, e'⟩ := (q.own p hp).2.2.1
    rw [e, ha] at e'; cases e'
  · rw [List.lookup_cons] at hy
    cases hyx : y == x with
    | true => rw [hyx] at hy; cases hy; trivial
    | false =>
      rw [hyx] at hy
      have := slotAt_more (N := [a]) (keeps_grow kp) (fun D hD => by rw [List.mem_singleton.mp hD]; exact ha) (q.vars y sl hy)
      have hsub : ∀ z ∈ OO X ((x, a) :: ow), z ∈ [a] ++ (X ++ ow.map (·.2)) := fun z hz => by
        rcases List.mem_append.mp hz with h | h
        · exact List.mem_append_right _ (List.mem_append_left _ h)
        · rcases List.mem_cons.mp h with rfl | h
          · simp
          · exact List.mem_append_right _ (List.mem_append_right _ h)
      have hlk : List.lookup y ((x, a) :: ow) = ow.lookup y := by rw [List.lookup_cons, hyx]
      cases sl with
      | val d => obtain ⟨w, h1, h2⟩ := this; exact ⟨w, h1, h2.sub hsub⟩
      | lst ds => obtain ⟨b, vs, h1, h2, h3, h4⟩ := this; exact ⟨b, vs, h1, hlk.trans h2, h3, h4.sub hsub⟩
      | dct kvs => obtain ⟨b, h1, h2, h3⟩ := this; exact ⟨b, h1, hlk.trans h2, h3⟩
      | dead => trivial
  · rcases List.mem_cons.mp hp with rfl | hp
    · exact .inr ha
    · exact .inl hp
theorem lookup_frz {x : Str} : ∀ {σ : Sg}, (frz σ).lookup x = (σ.lookup x).map frzS
  | [] => rfl
  | (y, sl) :: r => by
    have ih := lookup_frz (x := x) (σ := r)
    unfold frz at ih ⊢
    rw [List.map_cons, List.lookup_cons, List.lookup_cons]
    cases hx : x == y with
    | true => rfl
    | false => exact ih
theorem St.frz (q : St cx env kd X ow σ s) : St cx env kd X [] (frz σ) s := by
  refine ⟨q.ek, q.base, q.loc, q.locB, q.celK, q.cel, q.celN, q.old, fun p hp => (by cases hp), List.Pairwise.nil, fun x sl hx => ?_⟩
  rw [lookup_frz] at hx
  cases e : σ.lookup x with
  | none => rw [e] at hx; cases hx
  | some sl' =>
    rw [e] at hx
    have hx' : frzS sl' = sl := by simpa using hx
    subst hx'
    have := q.vars x sl' e
    have hsub : ∀ z ∈ OO X ([] : List (Str × Addr)), z ∈ OO X ow := fun z hz => by
      have : z ∈ X := by simpa using hz
      exact List.mem_append_left _ this
    cases sl' with
    | val d => obtain ⟨w, h1, h2⟩ := this; exact ⟨w, h1, h2.sub hsub⟩
    | lst ds =>
      obtain ⟨a, vs, h1, h2, h3, h4⟩ := this
      exact ⟨.ref a, h1,   .of_list h3.isList (fun h => (q.own _ (lookup_own h2)).2.1 (by simpa using h)) (h4.sub hsub)⟩
    | dct kvs => trivial
    | dead => trivial
theorem St.thaw {x : Str} {ds : List PyData} (q : St cx env kd X ow ((x, .lst ds) :: σ) s) : St cx env kd X (ow.filter fun p => p.1 != x) ((x, .val (.list ds)) :: σ) s := by
  have hsub : ∀ z ∈ OO X (ow.filter fun p => p.1 != x), z ∈ OO X ow := fun z hz => by
    rcases List.mem_append.mp hz with h | h
    · exact List.mem_append_left _ h
    · obtain ⟨p, hp, e⟩ := List.mem_map.mp h
      exact List.mem_append_right _ (List.mem_map.mpr ⟨p, (List.mem_filter.mp hp).1, e⟩)
  refine ⟨q.ek, q.base, q.loc, q.locB, q.celK, q.cel, q.celN, q.old, fun p hp => q.own p (List.mem_filter.mp hp).1, ?_, fun y sl hy => ?_⟩
  · exact (List.Sublist.map _ List.filter_sublist).nodup q.ownN
  · rw [List.lookup_cons] at hy
    cases hyx : y == x with
    | true =>
      rw [hyx] at hy; cases hy
      rw [eq_of_beq hyx]
      obtain ⟨a, vs, h1, h2, h3, h4⟩ := q.vars x (.lst ds) (by simp)
      refine ⟨.ref a, h1,   .of_list h3.isList (fun h => ?_) (h4.sub hsub)⟩
      rcases List.mem_append.mp h with h | h
      · exact (q.own _ (lookup_own h2)).2.1 h
      · obtain ⟨p, hp, e⟩ := List.mem_map.mp h
        obtain ⟨hp1, hp2⟩ := List.mem_filter.mp hp
        have : p.1 ≠ x := by simpa using hp2
        exact own_ne q.ownN (lookup_own h2) (show (p.1, p.2) ∈ ow from hp1) (Ne.symm this) e.symm
    | false =>
      rw [hyx] at hy
      have hne : y ≠ x := by simpa using hyx
      have hlk : ∀ a, ow.lookup y = some a → (ow.filter fun p => p.1 != x).lookup y = some a := fun a h => by
        have e := lookup_filter (p := fun z => z != x) (x := y) (l := ow)
        rw [if_pos (by simpa using hne)] at e
        exact e.trans h
      have := q.vars y sl (by rw [List.lookup_cons, hyx]; exact hy)
      cases sl with
      | val d => obtain ⟨w, h1, h2⟩ := this; exact ⟨w, h1, h2.sub hsub⟩
      | lst ds => obtain ⟨b, vs, h1, h2, h3, h4⟩ := this; exact ⟨b, vs, h1, hlk _ h2, h3, h4.sub hsub⟩
      | dct kvs => obtain ⟨b, h1, h2, h3⟩ := this; exact ⟨b, h1, hlk _ h2, h3⟩
      | dead => trivial
end
def Post (cx : Cx) (env : Env) (kd : Kd) (X : List Addr) (ow : List (Str × Addr)) (s : Shared) (Q : PF) (f : Flow) (s' : Shared) : Prop :=
  Frm env ow s s' ∧ match f with
    | .next => ∃ ow' τ, St cx env kd X ow' τ s' ∧ OwnExt s ow ow' ∧ Q .next τ
    | .cont => ∃ ow' τ, St cx env kd X ow' τ s' ∧ OwnExt s ow ow' ∧ Q .cont τ
    | .brk => ∃ ow' τ, St cx env kd X ow' τ s' ∧ OwnExt s ow ow' ∧ Q .brk τ
    | .ret v => ∃ d, Rp s'.heap X v d ∧ Q (.ret d) []
def SndX (cx : Cx) (k : Nat) (ex : ExF) : Prop := ∀ (env : Env) (kd : Kd) (X : List Addr) (ow : List (Str × Addr)) (σ : Sg) (s : Shared) (st : Stmt) (Q : PF) (A : Around) (E : Value → Shared → Prop),
  RA A k → St cx env kd X ow σ s → ex kd st σ Q → wpAny (model cx.prog cx.w) A (exec st env) (Post cx env kd X ow s Q) E s
def SndB (cx : Cx) (k : Nat) (bl : BlF) : Prop := ∀ (env : Env) (kd : Kd) (X : List Addr) (ow : List (Str × Addr)) (σ : Sg) (s : Shared) (ss : List Stmt) (Q : PF) (A : Around) (E : Value → Shared → Prop),
  RA A k → St cx env kd X ow σ s → bl kd ss σ Q → wpAny (model cx.prog cx.w) A (execs ss env) (Post cx env kd X ow s Q) E s
section
variable {cx : Cx} {k n : Nat} {own : List Str} {env : Env} {kd : Kd} {X : List Addr} {ow ow' ow'' : List (Str × Addr)} {σ : Sg} {s s' s'' : Shared} {A : Around} {E : Value → Shared → Prop}
theorem post_lift {Q : PF} {f : Flow} (a : Frm env ow s s') (x : OwnExt s ow ow') (p : Post cx env kd X ow' s' Q f s'') : Post cx env kd X ow s Q f s'' := by
  refine ⟨a.trans x p.1, ?_⟩
  have h := p.2
  cases f with
  | ret v => exact h
  | next => obtain ⟨o, τ, h1, h2, h3⟩ := h; exact ⟨o, τ, h1, a.trans' x h2, h3⟩
  | cont => obtain ⟨o, τ, h1, h2, h3⟩ := h; exact ⟨o, τ, h1, a.trans' x h2, h3⟩
  | brk => obtain ⟨o, τ, h1, h2, h3⟩ := h; exact ⟨o, τ, h1, a.trans' x h2, h3⟩
theorem blStep_ok {ex : ExF} (H : SndX cx k ex) : SndB cx k (blStep ex) := by
  intro env kd X ow σ s ss
  induction ss generalizing ow σ s with
  | nil => intro Q A E ra q h; exact wpAny_execs_nil ⟨.of_keeps (keeps_refl s), ow, σ, q, .refl, h⟩
  | cons st rest ih =>
    intro Q A E ra q h
    rw [blStep_cons] at h
    refine wpAny_execs_cons (wpAny_mono (H env kd X ow σ s st _ A E ra q h) (fun f s₁ p => ?_) fun _ _ x => x)
    obtain ⟨fr, p⟩ := p
    cases f with
    | next =>
      obtain ⟨ow₁, τ, q₁, x, hQ⟩ := p
      exact wpAny_mono (ih ow₁ τ s₁ Q A E ra q₁ hQ) (fun f s₂ p => post_lift fr x p) fun _ _ x => x
    | cont => exact ⟨fr, p⟩
    | brk => exact ⟨fr, p⟩
    | ret v => exact ⟨fr, p⟩
theorem sub_dead {x : Str} {sl : Slot} : Sub ((x, sl) :: σ) ((x, sl) :: (x, .dead) :: σ) := fun y sl' e => by
  rw [List.lookup_cons] at e ⊢
  cases hyx : y == x with
  | true => rw [hyx] at e; exact .inr e
  | false => rw [hyx] at e; right; simp only; rw [List.lookup_cons, hyx]; exact e
theorem put_val {x : Str} {v : Value} {d : PyData} {QQ : Unit → Shared → Prop} (q : St cx env kd X ow σ s) (hx : storable kd x = true) (rv : Rp s.heap (OO X ow) v d)
    (h : ∀ s', Frm env ow s s' → St cx env kd X ow (upd x (.val d) σ) s' → QQ () s') : wpAny (model cx.prog cx.w) A (storeName env x v) QQ E s :=
  store_ok q hx fun s' _ fr q' hv off _ => h s' fr (q'.slot (sl := .val d) ⟨v, hv, off.rp rv⟩).up
theorem swaps_plain {v : Expr} {t : Option Expr} {l : Nat} (h : othComp v = false) : swapsWith v t l env = pure false := by
  cases v <;> first | rfl | cases h
theorem assign_plain {x : Str} {tp : Pos} {v : Expr} {p : Pos} {QQ : Flow → Shared → Prop} (ho : othComp v = false) (h : wpAny (model cx.prog cx.w) A (eval v env) (fun v s₁ => wpAny (model cx.prog cx.w) A (storeName env x v) (fun _ => QQ .next) E s₁) E s) :
    wpAny (model cx.prog cx.w) A (exec (.Assign [.Name x tp] v p) env) QQ E s := wpAny_Assign_Name h (swaps_plain ho)
theorem put_own {x : Str} {a : Addr} {sl : Slot} {s₀ : Shared} {QQ : Unit → Shared → Prop} (q : St cx env kd X ow σ s₀) (kp : Keeps s₀ s) (ha : s₀.heap.get? a = none) (ha' : ∃ o, s.heap.get? a = some o) (hx : storable kd x = true)
    (hsl : ∀ (s' : Shared) (z : Addr), Off z s.heap s'.heap → a ≠ z → VarAt env s'.heap x (.ref a) → (∀ O v d, RpAll s₀.heap O v d → RpAll s'.heap (a :: O) v d) → SlotAt cx env s'.heap (OO X ((x, a) :: ow)) ((x, a) :: ow) x sl)
    (h : ∀ s' ow', Frm env ow s₀ s' → St cx env kd X ow' (upd x sl σ) s' → OwnExt s₀ ow ow' → QQ () s') : wpAny (model cx.prog cx.w) A (storeName env x (.ref a)) QQ E s := by
  obtain ⟨q₁, x₁⟩ := q.own_add (x := x) kp ha ha'
  refine store_ok q₁ hx fun s' z fr q' hv off hz => ?_
  have q'' := q'.slot (hsl s' z off (hz _ List.mem_cons_self) hv fun O v d r => off.rpAll (rpAll_more (N := [a]) (keeps_grow kp) (fun D hD => by rw [List.mem_singleton.mp hD]; exact ha) r))
  exact h s' _ ((Frm.of_keeps kp).trans x₁ fr) (q''.sub sub_dead).up x₁
theorem none_back {a b : Heap} {z : Addr} (g : Grow a b) (e : b.get? z = none) : a.get? z = none := by
  cases h : a.get? z with
  | none => rfl
  | some o => rw [g _ _ h] at e; cases e
theorem emptyL_inv {v : Expr} (h : emptyL v = true) : ∃ p, v = .List [] p := by
  unfold emptyL at h
  split at h
  · exact ⟨_, rfl⟩
  · cases h
theorem emptyD_inv {v : Expr} (h : emptyD v = true) : ∃ p, v = .Dict [] [] p := by
  unfold emptyD at h
  split at h
  · exact ⟨_, rfl⟩
  · cases h
theorem oo_cons {x : Str} {a : Addr} : ∀ z ∈ OO X ((x, a) :: ow), z ∈ a :: OO X ow := fun z hz => by
  rcases List.mem_append.mp hz with h | h
  · exact List.mem_cons_of_mem _ (List.mem_append_left _ h)
  · rcases List.mem_cons.mp h with rfl | h
    · exact List.mem_cons_self
    · exact List.mem_cons_of_mem _ (List.mem_append_right _ h)
theorem not_sys (q : St cx env kd X ow σ s) : (s.heap.objs.size == sysModules) = false := by
  obtain ⟨mc, ⟨o, _, _, e, _⟩, _⟩ := cx.top.nodigits
  have h1 := Heap.lt_size (q.base _ _ e)
  have h2 : (2 : Nat) < s.heap.objs.size := h1
  have h3 : sysModules = 1 := rfl
  rw [h3]
  exact beq_eq_false_iff_ne.mpr fun e => by rw [e] at h2; exact absurd h2 (by decide)
theorem St.off (q : St cx env kd X ow σ s) {C : Addr} {h' : Heap} (hs : Heap.SameBut C s.heap h') (hB : cx.hB.get? C = none) (hX : C ∉ X) (hL : C ≠ env.locals) (hc : ∀ y c, env.cells.lookup y = some c → c ≠ C) (ho : ∀ p ∈ ow, p.2 ≠ C)
    (hq : ∀ o, s.heap.get? C = some o → ∀ vs n, o.data ≠ .seq vs n) : St cx env kd X ow σ { s with heap := h' } := by
  have off : Off C s.heap h' := ⟨hs.2, hq⟩
  have vars : ∀ y w, VarAt env s.heap y w → VarAt env h' y w := fun y w ⟨h1, h2, h3⟩ => by
    refine ⟨h1, h2, ?_⟩
    rcases h3 with ⟨h3, m, hm, e⟩ | ⟨h3, c, hcc, ho, e1, e2⟩
    · exact .inl ⟨h3, m, hm.sameBut hs (Ne.symm hL), e⟩
    · exact .inr ⟨h3, c, hcc, ho, (hs.2 c (hc y c hcc)).trans e1, e2⟩
  refine ⟨q.ek, fun b o e => (hs.2 b (fun z => by rw [z, hB] at e; cases e)).trans (q.base b o e), q.loc.imp fun m hm => hm.sameBut hs (Ne.symm hL), q.locB, q.celK, fun y c hy => ⟨?_, (q.cel y c hy).2⟩, q.celN,
    fun b hb => (q.old b hb).imp fun o e => (hs.2 b (fun z => hX (z ▸ hb))).trans e, fun p hp => ?_, q.ownN, fun y sl hy => ?_⟩
  · obtain ⟨⟨w, o, e1, d⟩, _⟩ := q.cel y c hy
    exact ⟨w, o, (hs.2 c (hc y c hy)).trans e1, d⟩
  · obtain ⟨a', b, ⟨o, e⟩, d⟩ := q.own p hp
    exact ⟨a', b, ⟨o, (hs.2 _ (ho p hp)).trans e⟩, d⟩
  · have := q.vars y sl hy
    cases sl with
    | val d => obtain ⟨w, a', b⟩ := this; exact ⟨w, vars y w a', off.rp b⟩
    | lst ds => obtain ⟨b, vs, h1, h2, h3, h4⟩ := this; exact ⟨b, vs, vars y _ h1, h2, off.list (ho _ (lookup_own h2)) h3, off.rpAll h4⟩
    | dct kvs => obtain ⟨b, h1, h2, h3⟩ := this; exact ⟨b, vars y _ h1, h2, off.dict (ho _ (lookup_own h2)) h3⟩
    | dead => trivial
theorem assign_ok (hS : SortOk cx) (ra : RA A k) (q : St cx env kd X ow σ s) {x : Str} {tp p : Pos} {v : Expr} {Q : PF} (hx : storable kd x = true) (h : assignW (evW cx k n) (trW cx k n) own kd x tp v σ Q) :
    wpAny (model cx.prog cx.w) A (exec (.Assign [.Name x tp] v p) env) (Post cx env kd X ow s Q) E s := by
  have H := (evtr_ok (cx := cx) (k := k) hS n).1
  have HT := (evtr_ok (cx := cx) (k := k) hS n).2
  unfold assignW at h
  cases hc : compOf? v with
  | some z =>
    obtain ⟨elt, gens, scope, cp⟩ := z
    rw [hc] at h
    have hv : v = .ListComp elt gens scope cp := by
      cases v <;> dsimp only [compOf?] at hc <;> first | cases hc | skip
      rfl
    subst hv
    dsimp only at h
    cases hw : swapOk kd x tp cp scope with
    | false => rw [hw] at h; exact h.elim
    | true =>
      rw [hw] at h
      dsimp only at h
      unfold swapOk at hw
      simp only [Bool.and_eq_true] at hw
      obtain ⟨⟨hw1, hw2⟩, hw3⟩ := hw
      have hb : (env.blockKind == .function) = true := by unfold Env.blockKind; rw [q.ek.kind]; rfl
      have hsw : swapsWith (.ListComp elt gens scope cp) (some (.Name x tp)) p.line env = pure true := by
        show (pure (env.blockKind == .function && env.kindOf x == some .local && tp.line == cp.line && !(scope.names.any fun (n, k) => n == x && (k == .local || k == .cell))) : Sem Bool) = pure true
        rw [hb, q.ek.kd x, hw1, hw2, hw3]; rfl
      rw [exec_Assign_Name_used _ _ _ _ hsw]
      refine wpAny_bind (wpAny_standAt (wpAny_bind ?_))
      show wpAny _ A (do let _ ← comprehension (.ListComp elt gens scope cp) scope env _ (newList []) (firstAsync gens) (firstIter gens env) (some (assign (.Name x tp) env))) _ _ s
      refine wpAny_bind (wpAny_mono (comp_ok H HT ra q (use := some (assign (.Name x tp) env)) (QQ := fun _ s' => Post cx env kd X ow s Q .next s') h fun D C m s' ds vs kp hD hC hDC hns hl hr hQ => ?_) (fun _ s' hq => wpAny_pure (wpAny_pure hq)) fun _ _ e => e)
      have hCB := none_back q.base hC
      have hCL : C ≠ env.locals := by rintro rfl; obtain ⟨_, o, _, _, e, _⟩ := q.loc; rw [hC] at e; cases e
      have hCc : ∀ y c, env.cells.lookup y = some c → c ≠ C := fun y c hy e => by obtain ⟨⟨w, o, e', _⟩, _⟩ := q.cel y c hy; rw [e, hC] at e'; cases e'
      have hCX : C ∉ X := fun h => by obtain ⟨o, e⟩ := q.old _ h; rw [hC] at e; cases e
      have hCo : ∀ p ∈ ow, p.2 ≠ C := fun p hp e => by obtain ⟨o, e'⟩ := (q.own p hp).2.2.1; rw [e, hC] at e'; cases e'
      have hDX : D ∉ OO X ow := fun h => by obtain ⟨o, e⟩ := q.oldO _ h; rw [hD] at e; cases e
      show wpAny _ A (assign (.Name x tp) env (.ref D)) _ _ _
      have fin : ∀ (sl : Slot) (ow' : List (Str × Addr)) (s'' : Shared), (∀ p ∈ ow', p ∈ ow ∨ p = (x, D)) → Frm env ow s s'' → (Frm env ow s' s'' ∨ Frm env ow' s' s'') → St cx env kd X ow' (upd x sl σ) s'' → OwnExt s ow ow' → Q .next (upd x sl σ) →
          ∃ m, s''.heap.Ns C m ∧ ∀ h', Heap.SameBut C s''.heap h' → Post cx env kd X ow s Q .next { s'' with heap := h' } := by
        intro sl ow' s'' how fr fr' q' ox hq
        have hCo' : ∀ p ∈ ow', p.2 ≠ C := fun p hp => by
          rcases how p hp with h | rfl
          · exact hCo p h
          · exact hDC
        have hn : s''.heap.Ns C m := hns.at' fun o e => by
          rcases fr' with f | f
          · exact f.2.2 _ o e hCL (fun y c hy e => hCc y c hy e.symm) fun p hp e => hCo p hp e.symm
          · exact f.2.2 _ o e hCL (fun y c hy e => hCc y c hy e.symm) fun p hp e => hCo' p hp e.symm
        refine ⟨m, hn, fun h' hs => ⟨?_, ow', _, q'.off hs hCB hCX hCL hCc hCo' ?_, ox, hq⟩⟩
        · obtain ⟨⟨h₂, tk, rfl⟩, f1, f2⟩ := fr
          have hne : ∀ b o, s.heap.get? b = some o → b ≠ C := fun b o e z => by rw [z, hC] at e; cases e
          exact ⟨⟨h', tk, rfl⟩, fun b ⟨o, e⟩ => by obtain ⟨o', e'⟩ := f1 b ⟨o, e⟩; exact ⟨o', (hs.2 b (hne b o e)).trans e'⟩, fun b o e n1 n2 n3 => (hs.2 b (hne b o e)).trans (f2 b o e n1 n2 n3)⟩
        · intro o ho vs k hd
          obtain ⟨o', es, ep, e', ed', _⟩ := hn
          rw [ho] at e'; cases e'; rw [hd] at ed'; cases ed'
      refine wpAny_assign_Name ?_
      cases hw : own.contains x with
      | false =>
        rw [hw] at hQ
        refine store_ok (q.keeps kp) hx fun s'' z fr q' hv off hz => ?_
        exact fin (.val (.list ds)) ow s'' (fun p hp => .inl hp) ((Frm.of_keeps kp).trans .refl fr) (.inl fr) (q'.slot (sl := .val (.list ds)) ⟨_, hv, off.rp (.of_list hl.isList hDX (hr.sub fun a ha => List.mem_cons_of_mem _ ha))⟩).up .refl hQ
      | true =>
        rw [hw] at hQ
        obtain ⟨q₁, x₁⟩ := q.own_add (x := x) kp hD (let ⟨_, e⟩ := hl; ⟨_, e⟩)
        refine store_ok q₁ hx fun s'' z fr q' hv off hz => ?_
        exact fin (.lst ds) _ s'' (fun p hp => (List.mem_cons.mp hp).symm) ((Frm.of_keeps kp).trans x₁ fr) (.inr fr) ((q'.slot (sl := .lst ds) ⟨_, vs, hv, by simp, off.list (hz _ List.mem_cons_self) hl, off.rpAll (hr.sub oo_cons)⟩).sub sub_dead).up x₁ hQ
  | none =>
    rw [hc] at h
    dsimp only at h
    cases ho : othComp v with
    | true => rw [ho] at h; exact h.elim
    | false =>
      rw [ho] at h
      dsimp only at h
      refine assign_plain ho ?_
      cases hw : own.contains x with
      | false =>
        rw [hw] at h
        refine wpAny_mono (H env kd X ow σ s v _ A E ra q h) (fun u s₁ h₁ => ?_) fun _ _ x => x
        obtain ⟨k₁, d, r₁, hQ⟩ := h₁
        exact put_val (q.keeps k₁) hx r₁ fun s' fr q' => ⟨(Frm.of_keeps k₁).trans .refl fr, ow, _, q', .refl, hQ⟩
      | true =>
        rw [hw] at h
        dsimp only at h
        cases he : emptyL v with
        | true =>
          rw [he] at h
          obtain ⟨p', rfl⟩ := emptyL_inv he
          refine wpAny_List_spliced (Calls.spliced_nil ⟨Nat.zero_le _, ?_⟩)
          have kp : Keeps s { s with heap := s.heap.push { cls := .type "list", data := .seq ([] : List Value).toArray } } := ⟨_, _, rfl, Grow.push _ _⟩
          refine put_own (sl := .lst []) q kp (fresh_none _) ⟨_, Heap.get?_push_size _ rfl⟩ hx (fun s' z off hz hv _ => ?_) fun s' ow' fr q' x => ⟨fr, ow', _, q', x, h⟩
          refine ⟨_, #[], hv, by simp, off.list hz ⟨_, Heap.get?_push_size _ rfl⟩, .nil⟩
        | false =>
          rw [he] at h
          dsimp only at h
          cases hd : emptyD v with
          | true =>
            rw [hd] at h
            obtain ⟨p', rfl⟩ := emptyD_inv hd
            refine wpAny_Dict_empty ?_
            have kp : Keeps s { s with heap := s.heap.push { cls := .type "dict", data := .dict #[] } } := ⟨_, _, rfl, Grow.push _ _⟩
            refine put_own (sl := .dct []) q kp (fresh_none _) ⟨_, Heap.get?_push_size _ rfl⟩ hx (fun s' z off hz hv _ => ?_) fun s' ow' fr q' x => ⟨fr, ow', _, q', x, h⟩
            exact ⟨_, hv, by simp, off.dict hz ⟨not_sys q, [], Heap.DictOf.new _, rfl, fun p hp => by cases hp⟩⟩
          | false =>
            rw [hd] at h
            dsimp only at h
            split at h
            · rename_i f e pp hcv
              have hv : v = .Call f [e] [] pp := by
                cases v <;> dsimp only [callOf?] at hcv <;> first | cases hcv | skip
                rfl
              subst hv
              split at h
              · rename_i g hg
                have hf : ∃ np, f = .Name g np := by
                  cases f <;> dsimp only [nameOf?] at hg <;> first | cases hg | skip
                  exact ⟨_, rfl⟩
                obtain ⟨np, rfl⟩ := hf
                split at h
                · rename_i hgl
                  obtain rfl := eq_of_beq hgl
                  split at h
                  · rename_i hk hs
                    refine wpAny_Call_NameR (blt_ok q hk (by decide) PyProof.Rows.Boot.«list» ?_ (by decide) (by decide))
                    refine call_type1 hs (wpAny_mono (H env kd X ow σ s e _ A E ra q h) (fun u s₁ h₁ => ?_) fun _ _ x => x)
                    obtain ⟨k₁, d, r₁, h₁⟩ := h₁
                    cases d <;> dsimp only at h₁ <;> first | exact h₁.elim | skip
                    obtain ⟨l, vs, rfl, hl, ⟨o, ho, hc, nn, hdd⟩, rl⟩ := r₁.list_inv
                    have hlen := rl.length
                    simp only [Array.length_toList] at hlen
                    refine call_list_seq l (.inl rfl) ho hc hdd (fun h' c' hg' hn => ?_) (by rw [hlen]; exact size_le h₁.1)
                    have k₂ : Keeps s₁ { s₁ with heap := h' } := ⟨h', s₁.toks, rfl, hg'⟩
                    refine put_own (sl := .lst _) (q.keeps k₁) k₂ (fresh_none _) ⟨_, hn⟩ hx (fun s' z off hz hv tr => ?_) fun s' ow' fr q' x => ⟨(Frm.of_keeps k₁).trans .refl fr, ow', _, q', (Frm.of_keeps k₁ (env := env)).trans' (ow := ow) .refl x, h₁.2⟩
                    exact ⟨_, vs, hv, by simp, off.list hz ⟨_, hn⟩, (tr _ _ _ rl).sub oo_cons⟩
                  · exact h.elim
                · exact h.elim
              · exact h.elim
            · exact h.elim
end
section
variable {cx : Cx} {k n : Nat} {own : List Str} {env : Env} {kd : Kd} {X : List Addr} {ow ow' ow'' : List (Str × Addr)} {σ : Sg} {s s' s'' : Shared} {A : Around} {E : Value → Shared → Prop}
theorem iadd_list {a b : Addr} {vs ws : Array Value} {Q : Value → Shared → Prop} (ha : s.heap.PlainList a vs) (hb : s.heap.IsList b ws) (h1 : vs.size ≤ 1000000) (h2 : ws.size ≤ 1000000)
    (hQ : ∀ h', h'.PlainList a (vs ++ ws) → Heap.SameBut a s.heap h' → Q (.ref a) { s with heap := h' }) : wpAny (model cx.prog cx.w) A (inplaceOp .Add (.ref a) (.ref b)) Q E s := by
  unfold inplaceOp
  refine wpAny_holding ?_
  have hfi : fillsInplaceSlot (.type "list") "add" (Operator.Add == .Add) = pure false := by
    unfold fillsInplaceSlot
    show (typeLookup (.type "list") (dunderI "add") >>= fun fi => pure (fi.isSome && !isSeqSlot fi)) = pure false
    rw [PySem.F.slot_list_iadd.lookup]
    show (pure (!isSeqSlot (some (.builtin "list.__iadd__"))) : Sem Bool) = pure false
    rw [show isSeqSlot (some (.builtin "list.__iadd__")) = true by decide +kernel]; rfl
  refine wpAny_bind (wpAny_typeOf ha.isList.typeIs (wpAny_bind (wpAny_of_eq hfi ?_)))
  show wpAny _ A (if false = true then _ else _) Q E s
  rw [if_neg Bool.false_ne_true]
  refine wpAny_bind (wpAny_binaryOp1_none (nm := "add") ha.isList.typeIs hb.typeIs noFill_list_add ?_)
  refine wpAny_bind (wpAny_of_eq (PySem.seqSlot_of PySem.F.slot_list_iadd.lookup (by decide +kernel)) ?_)
  refine wpAny_bind (wpAny_rule ?_)
  obtain ⟨na, ea⟩ := id ha
  obtain ⟨ob, eb, cb, nb, db⟩ := id hb
  have hm : ∃ n', Obj.mapSeq (· ++ ws) { cls := .type "list", data := .seq vs na } = { cls := .type "list", data := .seq (vs ++ ws) n' } := by
    simp [Obj.mapSeq]
  obtain ⟨n', hm⟩ := hm
  refine wpAny_call_entry PySem.F.slot_list_iadd ha.isList.typeIs PySem.F.entry_list_iadd ?_ (PySem.F.args_list_iadd_2 _ _)
  show wpAny _ A.in1 (Builtin.List.listExtendWith (.ref a) (.ref b) (.ref a)) _ _ s
  unfold Builtin.List.listExtendWith
  refine wpAny_bind (wpAny_typeOf hb.typeIs ?_)
  have h3 : (Builtin.List.listSameRef (.ref a) (.ref b) || Value.type "list" == Value.type "list" || Value.type "list" == Value.type "tuple") = true := by simp
  simp only [h3, if_true]
  refine wpAny_bind ?_
  unfold Builtin.List.listItems
  refine wpAny_bind (wpAny_seqItems eb db (wpAny_pure ?_))
  refine wpAny_bind ?_
  refine wpAny_bind (wpAny_seqItems ea rfl (wpAny_pure ?_))
  have h4 : Builtin.List.listTooLong (vs.size + ws.size) = false := by
    unfold Builtin.List.listTooLong
    rw [sizeLine_eq]
    exact decide_eq_false (by omega)
  rw [h4, Bool.and_false]
  show wpAny _ A.in1 (updateSeq a (· ++ ws) >>= fun _ => ret (.ref a)) _ _ s
  refine wpAny_bind (wpAny_updateSeq ea rfl ?_ (size_le h1) (by rw [sizeLine_eq, Array.size_append]; omega))
  refine wpAny_pure ⟨_, rfl, hQ _ ⟨n', by rw [Heap.get?_update_self _ ea (by rw [hm]; rfl), hm]⟩ (Heap.SameBut.update ..)⟩
theorem fits_of {k : Int} (h0 : 0 ≤ k) (h : k < 2 ^ 62) : Builtin.List.listFitsIndex k = true := by
  unfold Builtin.List.listFitsIndex; simp; omega
theorem setPlain {l : Addr} {items : Array Value} {k : Int} {t : Tok} {v : Value} {Q : Unit → Shared → Prop} (hl : s.heap.PlainList l items)
    (h0 : 0 ≤ k) (hfit : k < 2 ^ 62) (hn : k < items.size)
    (hQ : ∀ h', h'.PlainList l (items.setIfInBounds k.toNat v) → Heap.SameBut l s.heap h' → Q () { s with heap := h' }) :
    wpAny (model cx.prog cx.w) A (setItem (.ref l) (.int k t) v) Q E s := by
  obtain ⟨n, ho⟩ := id hl
  have hT := hl.isList.typeIs
  unfold setItem
  refine wpAny_holding ?_
  refine wpAny_bind (wpAny_sequenceKey hT (by decide) ?_)
  refine wpAny_bind (wpAny_callSpecial?_slot (name := Str.ofString "__setitem__") hT PySem.slot_list_setitem
    (wpAny_call_entry PySem.slot_list_setitem hT PySem.entry_list_setitem ?_ (PySem.args_list_setitem _ _ _)))
  show wpAny _ _ (Builtin.List.listSubscript? (.int k t) >>= _) _ _ s
  refine wpAny_bind (wpAny_listSubscript_int (fits_of h0 hfit) ?_)
  obtain ⟨j, rfl⟩ := Int.eq_ofNat_of_zero_le h0
  have hj : j < items.size := by omega
  show wpAny _ _ ((seqItemAt l j >>= fun r => pure (r.map (j, ·))) >>= _) _ _ s
  refine wpAny_bind (wpAny_bind (wpAny_seqItemAt ho rfl (wpAny_pure ?_)))
  rw [Array.getElem?_eq_getElem hj]
  show wpAny _ _ (setSeqItemAt l j v >>= _) _ _ s
  have hm : Obj.mapSeq (·.setIfInBounds j v) { cls := .type "list", data := .seq items n } = { cls := .type "list", data := .seq (items.setIfInBounds j v) n } := by
    simp [Obj.mapSeq]
  refine wpAny_bind (wpAny_setSeqItemAt ho rfl ?_)
  have hfin : (s.heap.update l (Obj.mapSeq (·.setIfInBounds j v))).PlainList l (items.setIfInBounds j v) := ⟨n, by
    rw [Heap.get?_update_self _ ho (by rw [hm]; rfl), hm]⟩
  exact wpAny_bind (wpAny_pure (wpAny_pure ⟨.none, rfl, wpAny_pure (hQ _ hfin (Heap.SameBut.update ..))⟩))
theorem ow_ref {x : Str} {ds : List PyData} (q : St cx env kd X ow σ s) (hx : σ.lookup x = some (.lst ds)) : ∃ a vs, VarAt env s.heap x (.ref a) ∧ ow.lookup x = some a ∧ a ∈ OO X ow ∧ s.heap.PlainList a vs ∧ RpAll s.heap (OO X ow) vs.toList ds := by
  obtain ⟨a, vs, h1, h2, h3, h4⟩ := q.vars x _ hx
  exact ⟨a, vs, h1, h2, List.mem_append_right _ (List.mem_map.mpr ⟨_, lookup_own h2, rfl⟩), h3, h4⟩
theorem var_mut {x y : Str} {a : Addr} {w : Value} {h' : Heap} (q : St cx env kd X ow σ s) (hxa : ow.lookup x = some a) (hs : Heap.SameBut a s.heap h') (hv : VarAt env s.heap y w) : VarAt env h' y w := by
  obtain ⟨hB, hX, hE, hL, hC⟩ := q.own _ (lookup_own hxa)
  obtain ⟨h1, h2, h3⟩ := hv
  refine ⟨h1, h2, ?_⟩
  rcases h3 with ⟨h3, m, hm, e⟩ | ⟨h3, c, hcc, ho, e1, e2⟩
  · exact .inl ⟨h3, m, hm.sameBut hs (Ne.symm hL), e⟩
  · exact .inr ⟨h3, c, hcc, ho, (hs.2 c (hC y c hcc)).trans e1, e2⟩
theorem setW_ok (hS : SortOk cx) (ra : RA A k) (q : St cx env kd X ow σ s) {o i v : Expr} {sp p : Pos} {Q : PF} (h : setW (evW cx k n) kd o i v σ Q) :
    wpAny (model cx.prog cx.w) A (exec (.Assign [.Subscript o i sp] v p) env) (Post cx env kd X ow s Q) E s := by
  have H := (evtr_ok (cx := cx) (k := k) hS n).1
  unfold setW at h
  cases ho : othComp v with
  | true => rw [ho] at h; exact h.elim
  | false =>
    rw [ho] at h
    dsimp only at h
    cases hn : nameOf? o with
    | none => rw [hn] at h; exact h.elim
    | some x =>
      have hf : ∃ np, o = .Name x np := by
        cases o <;> dsimp only [nameOf?] at hn <;> first | cases hn | skip
        exact ⟨_, rfl⟩
      obtain ⟨np, rfl⟩ := hf
      rw [hn] at h
      dsimp only at h
      refine wpAny_Assign_Subscript (wpAny_mono (H env kd X ow σ s v _ A E ra q h) (fun u s₁ h₁ => ?_) fun _ _ x => x) (swaps_plain ho)
      obtain ⟨k₁, d, r₁, h₁⟩ := h₁
      have q₁ := q.keeps k₁
      cases hx : σ.lookup x with
      | none => rw [hx] at h₁; exact h₁.elim
      | some sl =>
        rw [hx] at h₁
        cases sl <;> dsimp only at h₁ <;> first | exact h₁.elim | skip
        · rename_i ds
          obtain ⟨a, vs, hv, hlk, haO, il, rl⟩ := ow_ref q₁ hx
          refine nameVar_ok q₁.ek hv (wpAny_mono (H env kd X ow σ s₁ i _ A E ra q₁ h₁) (fun j s₂ h₂ => ?_) fun _ _ x => x)
          obtain ⟨k₂, dj, r₂, h₂⟩ := h₂
          cases dj <;> dsimp only at h₂ <;> first | exact h₂.elim | skip
          rename_i kk
          obtain ⟨t, rfl⟩ := r₂.int_inv
          have g₂ := keeps_grow k₂
          have hlen := rl.length
          simp only [Array.length_toList] at hlen
          refine setPlain (plain_grow g₂ il) h₂.1 (by have := h₂.2.1; have := h₂.2.2.1; omega) (by rw [hlen]; exact h₂.2.1) fun h' il' hs => ?_
          obtain ⟨q', fr⟩ := (q₁.keeps k₂).mutate (tk := s₂.toks) hlk hs (let ⟨_, e⟩ := il'; ⟨_, e⟩)
          refine ⟨((Frm.of_keeps k₁).trans .refl (Frm.of_keeps k₂)).trans .refl fr, ow, _, (q'.slot (sl := .lst (ds.set kk.toNat d)) ⟨a, _, ?_, hlk, il', ?_⟩).up, .refl, h₂.2.2.2⟩
          · exact var_mut (q₁.keeps k₂) hlk hs (varAt_grow g₂ hv)
          · rw [Array.toList_setIfInBounds]
            exact ((rl.grow g₂).set (r₁.grow g₂) _).change (fun b o _ _ hb e _ => (hs.2 b fun z => hb (z ▸ haO)).trans e) fun _ _ _ _ n _ _ => n
        · rename_i kvs
          obtain ⟨a, hv, hlk, hsm, l, hdo, rfl, hints⟩ := q₁.vars x _ hx
          refine nameVar_ok q₁.ek hv (wpAny_mono (H env kd X ow σ s₁ i _ A E ra q₁ h₁) (fun j s₂ h₂ => ?_) fun _ _ x => x)
          obtain ⟨k₂, dj, r₂, h₂⟩ := h₂
          cases d <;> cases dj <;> dsimp only at h₂ <;> first | exact h₂.elim | skip
          rename_i w kk
          obtain ⟨t, rfl⟩ := r₂.int_inv
          obtain ⟨t', rfl⟩ := r₁.int_inv
          have g₂ := keeps_grow k₂
          refine wpAny_setItem_pairs (knd := intKind cx.prog cx.w) (intKind_is _ _ _ _) (dictOf_grow g₂ hdo) (fun h' hd' hs => ?_) (by have := h₂.1; unfold kvOf at this; rw [List.length_map] at this; exact size_le this)
          obtain ⟨q', fr⟩ := (q₁.keeps k₂).mutate (tk := s₂.toks + 1) hlk hs (let ⟨o, _, _, e, _⟩ := hd'; ⟨o, e⟩)
          refine ⟨((Frm.of_keeps k₁).trans .refl (Frm.of_keeps k₂)).trans .refl fr, ow, _, (q'.slot (sl := .dct (putKV (kvOf l) kk w)) ⟨a, ?_, hlk, hsm, _, hd', kvStored.symm, kvStored_ints hints⟩).up, .refl, h₂.2⟩
          exact var_mut (q₁.keeps k₂) hlk hs (varAt_grow g₂ hv)
theorem augW_ok (hS : SortOk cx) (ra : RA A k) (q : St cx env kd X ow σ s) {x : Str} {op : Operator} {v : Expr} {sp p : Pos} {Q : PF} (h : augW (evW cx k n) kd x op v σ Q) :
    wpAny (model cx.prog cx.w) A (exec (.AugAssign (.Name x sp) op v p) env) (Post cx env kd X ow s Q) E s := by
  have H := (evtr_ok (cx := cx) (k := k) hS n).1
  unfold augW at h
  split at h
  · rename_i hst
    cases hx : σ.lookup x with
    | none => rw [hx] at h; exact h.elim
    | some sl =>
      rw [hx] at h
      cases sl <;> (try dsimp only at h) <;> first | exact h.elim | skip
      · rename_i d0
        cases d0 <;> (try dsimp only at h) <;> first | exact h.elim | skip
        rename_i a
        obtain ⟨u, hv, ru⟩ := q.vars x _ hx
        obtain ⟨t, rfl⟩ := ru.int_inv
        refine wpAny_AugAssign_Name (load_ok q.ek hv (wpAny_mono (H env kd X ow σ s v _ A E ra q h) (fun w s₁ h₁ => ?_) fun _ _ x => x))
        obtain ⟨k₁, d, r₁, h₁⟩ := h₁
        cases d <;> (try dsimp only at h₁) <;> first | exact h₁.elim | skip
        obtain ⟨t', rfl⟩ := r₁.int_inv
        have k₂ := keeps_trans k₁ (toks1 s₁)
        refine wpAny_iadd_int (put_val (q.keeps k₂) hst (.int _ _) fun s' fr q' => ⟨(Frm.of_keeps k₂).trans .refl fr, ow, _, q', .refl, h₁⟩)
      · rename_i ds
        obtain ⟨a, vs, hv, hlk, haO, il, rl⟩ := ow_ref q hx
        refine wpAny_AugAssign_Name (load_ok q.ek hv (wpAny_mono (H env kd X ow σ s v _ A E ra q h) (fun w s₁ h₁ => ?_) fun _ _ x => x))
        obtain ⟨k₁, d, r₁, h₁⟩ := h₁
        cases d <;> dsimp only at h₁ <;> first | exact h₁.elim | skip
        rename_i es
        obtain ⟨b, ws, rfl, hb, jl, rw'⟩ := r₁.list_inv
        have g₁ := keeps_grow k₁
        have hl1 := rl.length
        have hl2 := rw'.length
        simp only [Array.length_toList] at hl1 hl2
        refine iadd_list (plain_grow g₁ il) jl (by omega) (by omega) fun h' il' hs => ?_
        obtain ⟨q', fr⟩ := (q.keeps k₁).mutate (tk := s₁.toks) hlk hs (let ⟨_, e⟩ := il'; ⟨_, e⟩)
        refine store_ok q' hst fun s' z fr' q'' hv' off hz => ?_
        have q3 := q''.slot (sl := .lst (ds ++ es)) ⟨a, _, hv', hlk, off.list (hz _ (lookup_own hlk)) il', off.rpAll (by
          rw [Array.toList_append]
          exact ((rl.grow g₁).append rw').change (fun b o _ _ hb e _ => (hs.2 b fun z => hb (z ▸ haO)).trans e) fun _ _ _ _ n _ _ => n)⟩
        refine ⟨((Frm.of_keeps k₁).trans .refl fr).trans .refl fr', _, _, (q3.thaw).sub ?_, fun p hp => .inl (List.mem_filter.mp hp).1, h₁.2.2⟩
        intro y sl e
        right
        rw [lookup_upd] at e
        rw [List.lookup_cons] at e ⊢
        cases hyx : y == x with
        | true => rw [hyx] at e; exact e
        | false => rw [hyx] at e; simp only; rw [List.lookup_cons, hyx]; exact e
  · exact h.elim
theorem exprW_ok (hS : SortOk cx) (ra : RA A k) (q : St cx env kd X ow σ s) {e : Expr} {p : Pos} {Q : PF} (h : exprW (evW cx k n) kd e σ Q) :
    wpAny (model cx.prog cx.w) A (exec (.Expr e p) env) (Post cx env kd X ow s Q) E s := by
  have H := (evtr_ok (cx := cx) (k := k) hS n).1
  unfold exprW at h
  split at h
  · rename_i f a pos hc
    have hv : e = .Call f [a] [] pos := by
      cases e <;> dsimp only [callOf?] at hc <;> first | cases hc | skip
      rfl
    subst hv
    split at h
    · rename_i o m ap hat
      have hf : f = .Attribute o m ap := by
        cases f <;> dsimp only [attrOf?] at hat <;> first | cases hat | skip
        rfl
      subst hf
      split at h
      · rename_i x hn
        have hf : ∃ np, o = .Name x np := by
          cases o <;> dsimp only [nameOf?] at hn <;> first | cases hn | skip
          exact ⟨_, rfl⟩
        obtain ⟨np, rfl⟩ := hf
        split at h
        · rename_i hm
          obtain ⟨hm1, hm2⟩ := Bool.and_eq_true_iff.mp hm
          obtain rfl := eq_of_beq hm1
          split at h
          · rename_i ds hx hs
            obtain ⟨a', vs, hv, hlk, haO, il, rl⟩ := ow_ref q hx
            have hin : interactive env = false := by unfold interactive; rw [q.ek.kind]; rfl
            refine wpAny_Expr ?_ hin rfl
            refine wpAny_Call_method1_late rfl hm2 (one_star hs) (nameVar_ok q.ek hv ?_)
            refine ⟨"list", "list.append", PySem.F.plainAttrs_list, PySem.F.slot_list_append, PySem.F.type_list_append, il.isList.typeIs, ?_, ?_⟩
            · intro b e
              cases e
              obtain ⟨n', e⟩ := il
              exact ⟨_, e, rfl⟩
            refine Calls.callWith_builtin rfl (Calls.evalArgs_plain (Calls.spliced_cons (wpAny_mono (H env kd X ow σ s a _ A E ra q h) (fun u s₁ h₁ => ?_) fun _ _ e => e)))
            obtain ⟨k₁, d, r₁, h₁⟩ := h₁
            have g₁ := keeps_grow k₁
            have hlen := rl.length
            simp only [Array.length_toList] at hlen
            refine Calls.spliced_nil (wpAny_list_append_plain (plain_grow g₁ il) (fun h' il' hs => ?_) (size_le (by have := h₁.1; omega)))
            obtain ⟨q', fr⟩ := (q.keeps k₁).mutate (tk := s₁.toks) hlk hs (let ⟨_, e⟩ := il'; ⟨_, e⟩)
            refine ⟨(Frm.of_keeps k₁).trans .refl fr, ow, _, (q'.slot (sl := .lst (ds ++ [d])) ⟨a', _, var_mut (q.keeps k₁) hlk hs (varAt_grow g₁ hv), hlk, il', ?_⟩).up, .refl, h₁.2⟩
            rw [Array.toList_push]
            exact ((rl.grow g₁).append (.one r₁)).change (fun b o _ _ hb e _ => (hs.2 b fun z => hb (z ▸ haO)).trans e) fun _ _ _ _ n _ _ => n
          · exact h.elim
        · exact h.elim
      · exact h.elim
    · exact h.elim
  · exact h.elim
end
section
variable {cx : Cx} {k n : Nat} {own : List Str} {env : Env} {kd : Kd} {X : List Addr} {ow ow' ow'' : List (Str × Addr)} {σ τ : Sg} {s s' s'' : Shared} {A : Around} {E : Value → Shared → Prop}
structure Mv (z : Addr) (h h' : Heap) : Prop where
  same : ∀ b o, b ≠ z → h.get? b = some o → h'.get? b = some o
  nseq : ∀ o, h.get? z = some o → ∀ vs n, o.data ≠ .seq vs n
theorem Mv.rp {z : Addr} {h h' : Heap} (c : Mv z h h') {O : List Addr} {v : Value} {d : PyData} (r : Rp h O v d) : Rp h' O v d :=
  r.change (fun a o vs n _ e ed => c.same a o (fun x => c.nseq o (x ▸ e) vs n ed) e) fun _ _ _ _ n _ _ => n
theorem Mv.rpAll {z : Addr} {h h' : Heap} (c : Mv z h h') {O : List Addr} {v : List Value} {d : List PyData} (r : RpAll h O v d) : RpAll h' O v d :=
  r.change (fun a o vs n _ e ed => c.same a o (fun x => c.nseq o (x ▸ e) vs n ed) e) fun _ _ _ _ n _ _ => n
theorem St.move (q : St cx env kd X ow σ s) {C : Addr} {h' : Heap} {tk : Nat} (hs : Mv C s.heap h') (hE : C ∈ X → ∃ o, h'.get? C = some o) (hB : cx.hB.get? C = none) (hL : C ≠ env.locals) (hc : ∀ y c, env.cells.lookup y = some c → c ≠ C) (ho : ∀ p ∈ ow, p.2 ≠ C) :
    St cx env kd X ow σ { s with heap := h', toks := tk } := by
  have ns : ∀ a m, a ≠ C → s.heap.Ns a m → h'.Ns a m := fun a m ha hm => hm.at' fun o e => hs.same a o ha e
  have vars : ∀ y w, VarAt env s.heap y w → VarAt env h' y w := fun y w ⟨h1, h2, h3⟩ => by
    refine ⟨h1, h2, ?_⟩
    rcases h3 with ⟨h3, m, hm, e⟩ | ⟨h3, c, hcc, ho, e1, e2⟩
    · exact .inl ⟨h3, m, ns _ m (Ne.symm hL) hm, e⟩
    · exact .inr ⟨h3, c, hcc, ho, hs.same c _ (hc y c hcc) e1, e2⟩
  refine ⟨q.ek, fun b o e => hs.same b o (fun z => by rw [z, hB] at e; cases e) (q.base b o e), q.loc.imp fun m hm => ns _ m (Ne.symm hL) hm, q.locB, q.celK, fun y c hy => ⟨?_, (q.cel y c hy).2⟩, q.celN,
    fun b hb => ?_, fun p hp => ?_, q.ownN, fun y sl hy => ?_⟩
  · obtain ⟨⟨w, o, e1, d⟩, _⟩ := q.cel y c hy
    exact ⟨w, o, hs.same c o (hc y c hy) e1, d⟩
  · obtain ⟨o, e⟩ := q.old b hb
    by_cases hbC : b = C
    · rw [hbC] at hb ⊢; exact hE hb
    · exact ⟨o, hs.same b o hbC e⟩
  · obtain ⟨a', b, ⟨o, e⟩, d⟩ := q.own p hp
    exact ⟨a', b, ⟨o, hs.same _ o (ho p hp) e⟩, d⟩
  · have := q.vars y sl hy
    cases sl with
    | val d => obtain ⟨w, a', b⟩ := this; exact ⟨w, vars y w a', hs.rp b⟩
    | lst ds => obtain ⟨b, vs, h1, h2, ⟨j, h3⟩, h4⟩ := this; exact ⟨b, vs, vars y _ h1, h2, ⟨j, hs.same b _ (ho _ (lookup_own h2)) h3⟩, hs.rpAll h4⟩
    | dct kvs => obtain ⟨b, h1, h2, h3, l, ⟨o, es, ep, e, h4⟩, h5⟩ := this; exact ⟨b, vars y _ h1, h2, h3, l, ⟨o, es, ep, hs.same b o (ho _ (lookup_own h2)) e, h4⟩, h5⟩
    | dead => trivial
theorem St.lessX {I : Addr} (q : St cx env kd (I :: X) ow σ s) : St cx env kd X ow σ s := by
  have hsub : ∀ z ∈ OO X ow, z ∈ OO (I :: X) ow := fun z h => List.mem_cons_of_mem _ h
  refine ⟨q.ek, q.base, q.loc, q.locB, q.celK, q.cel, q.celN, fun a ha => q.old a (List.mem_cons_of_mem _ ha), fun p hp => ?_, q.ownN, fun y sl hy => ?_⟩
  · obtain ⟨a, b, c⟩ := q.own p hp
    exact ⟨a, fun h => b (List.mem_cons_of_mem _ h), c⟩
  · have := q.vars y sl hy
    cases sl with
    | val d => obtain ⟨w, a', b⟩ := this; exact ⟨w, a', b.sub hsub⟩
    | lst ds => obtain ⟨b, vs, h1, h2, h3, h4⟩ := this; exact ⟨b, vs, h1, h2, h3, h4.sub hsub⟩
    | dct kvs => exact this
    | dead => trivial
theorem rp_frm (q : St cx env kd X ow σ s) (fr : Frm env ow s s') (x : OwnExt s ow ow') {I : Addr} (hI : s.heap.get? I = none) {v : Value} {d : PyData} (r : Rp s.heap (OO X ow) v d) : Rp s'.heap (OO (I :: X) ow') v d := by
  refine r.change (fun a o vs n ha e ed => fr.2.2 a o e (fun z => ?_) (fun y c hy z => ?_) fun p hp z => ha (List.mem_append_right _ (List.mem_map.mpr ⟨p, hp, z.symm⟩))) fun a o vs n ha e ed hm => ?_
  · obtain ⟨m, o', es, ep, e', ed', _⟩ := q.loc
    rw [← z, e] at e'; cases e'; rw [ed] at ed'; cases ed'
  · obtain ⟨⟨w, o', e', ed'⟩, _⟩ := q.cel y c hy
    rw [← z, e] at e'; cases e'; rw [ed] at ed'; cases ed'
  · rcases List.mem_append.mp hm with hm | hm
    · rcases List.mem_cons.mp hm with rfl | hm
      · rw [hI] at e; cases e
      · exact ha (List.mem_append_left _ hm)
    · obtain ⟨p, hp, rfl⟩ := List.mem_map.mp hm
      rcases x p hp with h | h
      · exact ha (List.mem_append_right _ (List.mem_map.mpr ⟨p, h, rfl⟩))
      · rw [h] at e; cases e
theorem rpAll_frm0 (q : St cx env kd X ow σ s) (fr : Frm env ow s s') {vs : List Value} {ds : List PyData} (r : RpAll s.heap (OO X ow) vs ds) : RpAll s'.heap (OO X ow) vs ds := by
  refine r.change (fun a o vs n ha e ed => fr.2.2 a o e (fun z => ?_) (fun y c hy z => ?_) fun p hp z => ha (List.mem_append_right _ (List.mem_map.mpr ⟨p, hp, z.symm⟩))) fun a o vs n ha e ed hm => ha hm
  · obtain ⟨m, o', es, ep, e', ed', _⟩ := q.loc
    rw [← z, e] at e'; cases e'; rw [ed] at ed'; cases ed'
  · obtain ⟨⟨w, o', e', ed'⟩, _⟩ := q.cel y c hy
    rw [← z, e] at e'; cases e'; rw [ed] at ed'; cases ed'
theorem nameOf_inv {t : Expr} {x : Str} (h : nameOf? t = some x) : ∃ p, t = .Name x p := by
  cases t <;> dsimp only [nameOf?] at h <;> first | cases h | skip
  exact ⟨_, rfl⟩
theorem bindAll_shape : ∀ (ts : List Expr) (ds : List PyData) (σ : Sg) (K : Sg → Prop), bindAll kd ts ds σ K →
    (assignEach ts env).length = ts.length ∧ ts.length = ds.length ∧ (assignEach ts env).findIdx? (·.1) = none
  | [], [], _, _, _ => ⟨rfl, rfl, rfl⟩
  | [], _ :: _, _, _, h => h.elim
  | _ :: _, [], _, _, h => h.elim
  | t :: ts, d :: ds, σ, K, h => by
    unfold bindAll at h
    cases ht : nameOf? t with
    | none => rw [ht] at h; exact h.elim
    | some x =>
      rw [ht] at h
      dsimp only at h
      obtain ⟨p, rfl⟩ := nameOf_inv ht
      cases hst : storable kd x with
      | false => rw [hst] at h; exact h.elim
      | true =>
        rw [hst] at h
        obtain ⟨h1, h2, h3⟩ := bindAll_shape ts ds _ K h
        refine ⟨by show (assignEach ts env).length + 1 = ts.length + 1; rw [h1], by simp [h2], ?_⟩
        show List.findIdx? (·.1) ((false, assign (.Name x p) env) :: assignEach ts env) = none
        rw [List.findIdx?_cons, h3]; rfl
theorem bindAll_ok : ∀ (ts : List Expr) (ds : List PyData) (vs : List Value) (σ : Sg) (s : Shared) (K : Sg → Prop), St cx env kd X ow σ s → RpAll s.heap (OO X ow) vs ds → bindAll kd ts ds σ K →
    wpAny (model cx.prog cx.w) A (assignInOrder ((assignEach ts env).map (·.2)) vs) (fun _ s' => Frm env ow s s' ∧ ∃ τ, St cx env kd X ow τ s' ∧ K τ) E s
  | [], [], vs, σ, s, K, q, r, h => by
    cases r
    exact wpAny_pure ⟨.of_keeps (keeps_refl s), σ, q, h⟩
  | [], _ :: _, vs, σ, s, K, q, r, h => h.elim
  | _ :: _, [], vs, σ, s, K, q, r, h => h.elim
  | t :: ts, d :: ds, vs, σ, s, K, q, r, h => by
    unfold bindAll at h
    cases ht : nameOf? t with
    | none => rw [ht] at h; exact h.elim
    | some x =>
      rw [ht] at h
      dsimp only at h
      obtain ⟨p, rfl⟩ := nameOf_inv ht
      cases hst : storable kd x with
      | false => rw [hst] at h; exact h.elim
      | true =>
        rw [hst] at h
        dsimp only at h
        cases r with
        | cons rv rvs =>
          rename_i v vs'
          show wpAny _ A (do holding vs' (assign (.Name x p) env v); assignInOrder ((assignEach ts env).map (·.2)) vs') _ E s
          refine wpAny_bind (wpAny_holding (wpAny_assign_Name (put_val q hst rv fun s' fr q' => ?_)))
          refine wpAny_mono (bindAll_ok ts ds vs' _ s' K q' (rpAll_frm0 q fr rvs) h) (fun _ s'' h'' => ⟨fr.trans .refl h''.1, h''.2⟩) fun _ _ x => x
theorem bindT_ok (hh : A.handled = none) {t : Expr} {d : PyData} {v : Value} {K : Sg → Prop} (q : St cx env kd X ow σ s) (r : Rp s.heap (OO X ow) v d) (h : bindT kd t d σ K) :
    wpAny (model cx.prog cx.w) A (assign t env v) (fun _ s' => Frm env ow s s' ∧ ∃ τ, St cx env kd X ow τ s' ∧ K τ) E s := by
  unfold bindT at h
  split at h
  · rename_i ts ht
    have hf : ∃ a b, t = .Tuple ts a b := by
      cases t <;> dsimp only [tupOf?] at ht <;> first | cases ht | skip
      exact ⟨_, _, rfl⟩
    obtain ⟨a, b, rfl⟩ := hf
    cases d <;> dsimp only at h <;> first | exact h.elim | skip
    rename_i ds
    obtain ⟨l, vs, rfl, hl, ⟨o, ho, hc, hd⟩, rl⟩ := r.tuple_inv
    obtain ⟨h1, h2, h3⟩ := bindAll_shape (env := env) ts ds σ K h
    have hlen := rl.length
    simp only [Array.length_toList] at hlen
    refine wpAny_assign_Tuple hh ⟨o, ho, hc, hd⟩ (by rw [h1, h2, hlen]) h3 fun h' he => ?_
    have kp : Keeps s { s with heap := h' } := ⟨h', s.toks, rfl, fun b o e => he b o (fun z => by rw [z, fresh_none] at e; cases e) e⟩
    exact wpAny_mono (bindAll_ok ts ds vs.toList σ _ K (q.keeps kp) (rl.grow (keeps_grow kp)) h) (fun _ s'' h'' => ⟨(Frm.of_keeps kp).trans .refl h''.1, h''.2⟩) fun _ _ x => x
  · unfold bindAll at h
    cases ht : nameOf? t with
    | none => rw [ht] at h; exact h.elim
    | some x =>
      rw [ht] at h
      dsimp only at h
      obtain ⟨p, rfl⟩ := nameOf_inv ht
      cases hst : storable kd x with
      | false => rw [hst] at h; exact h.elim
      | true =>
        rw [hst] at h
        exact wpAny_assign_Name (put_val q hst r fun s' fr q' => ⟨fr, _, q', h⟩)
theorem for_ok {bl : BlF} (hS : SortOk cx) (HB : SndB cx k bl) (ra : RA A k) (q : St cx env kd X ow σ s) {t it : Expr} {b : List Stmt} {p : Pos} {Q : PF} (h : forW (evW cx k n) bl kd t it b σ Q) :
    wpAny (model cx.prog cx.w) A (exec (.For t it b [] p) env) (Post cx env kd X ow s Q) E s := by
  have H := (evtr_ok (cx := cx) (k := k) hS n).1
  unfold forW at h
  split at h
  · exact h.elim
  · rename_i hown
    refine wpAny_For (wpAny_mono (iter_ok H ra q h) (fun xv s₁ h₁ => ?_) fun _ _ x => x) (folded_ok h)
    obtain ⟨k₁, items, ⟨Iv, hI0, hI1, hI2⟩, hlen, hiter⟩ := h₁
    have q₁ := q.keeps k₁
    refine hiter _ _ fun I fp P W s₂ k₂ hI hI' WK hW0 hWI hfp hP => ?_
    have g₂ := keeps_grow k₂
    have ne1 : ∀ b o, s₁.heap.get? b = some o → b ≠ I := fun b o e z => by rw [z, hI] at e; cases e
    have hIB : cx.hB.get? I = none := none_back q₁.base hI
    have hIL : I ≠ env.locals := fun z => by obtain ⟨m, o, es, ep, e, _⟩ := q₁.loc; exact ne1 _ _ e z.symm
    have hIc : ∀ y c, env.cells.lookup y = some c → c ≠ I := fun y c hy => by obtain ⟨⟨w, o, e, _⟩, _⟩ := q₁.cel y c hy; exact ne1 _ _ e
    have hIX : I ∉ X := fun hm => by obtain ⟨o, e⟩ := q₁.old _ hm; exact ne1 _ _ e rfl
    refine codeAny_forLoop_any (fun m s' => ∃ i ow' τ, i ≤ items.length ∧ m = items.length + 1 - i ∧ W i s'.heap ∧ Frm env ow s₁ s' ∧ OwnExt s₁ ow ow' ∧ St cx env kd (I :: X) ow' τ s' ∧ Iv i τ) ?_ (items.length + 1) ⟨0, ow, σ, Nat.zero_le _, rfl, hW0, .of_keeps k₂, .refl, ?_, hI0⟩
    · rintro m s' ⟨i, ow', τ, hi, rfl, hWi, fr, ox, q', hIv⟩
      by_cases hlt : i < items.length
      · refine WK.item i _ _ _ hlt hWi fun v h₂ tk₂ hPv hW₂ hk₂ => ?_
        obtain ⟨d, hd⟩ : ∃ d, items[i]? = some d := ⟨items[i], by simp [hlt]⟩
        obtain ⟨oI, hoI, hNO⟩ := hWI (i + 1) h₂ hW₂
        refine letGo_ok hoI hNO ?_
        obtain ⟨oI', hoI', nn, vv, hc', hd', _⟩ := hWI i s'.heap hWi
        have mv : Mv I s'.heap h₂ := ⟨fun b o hb e => hk₂ b o (by simpa using hb) e, fun o e vs n hd => by rw [hoI'] at e; cases e; rw [hd] at hd'; cases hd'⟩
        have hIo : ∀ p ∈ ow', p.2 ≠ I := fun p hp z => (q'.own p hp).2.1 (by rw [z]; exact List.mem_cons_self)
        have q3 := q'.move (tk := tk₂) mv (fun _ => ⟨_, hoI⟩) hIB hIL hIc hIo
        have fr3 : Frm env ow s₁ { s' with heap := h₂, toks := tk₂ } := by
          obtain ⟨⟨h, tk, rfl⟩, f1, f2⟩ := fr
          exact ⟨⟨h₂, tk₂, rfl⟩, fun b e => by
            obtain ⟨o0, e0⟩ := e
            obtain ⟨o, e'⟩ := f1 b ⟨o0, e0⟩
            exact ⟨o, mv.same b o (ne1 b o0 e0) e'⟩, fun b o e n1 n2 n3 => mv.same b o (ne1 b o e) (f2 b o e n1 n2 n3)⟩
        have rv : Rp h₂ (OO (I :: X) ow') v d := rp_frm q₁ fr3 ox hI (hP i v d hPv hd)
        have hb := hI1 i d τ hd hIv
        refine wpAny_mono (bindT_ok ra.hd q3 rv hb) (fun _ s₄ h₄ => ?_) fun _ _ x => x
        obtain ⟨fr4, τ', q4, hbl⟩ := h₄
        have hW : ∀ s5, Frm env ow' { s' with heap := h₂, toks := tk₂ } s5 → W (i + 1) s5.heap := fun s5 f5 => by
          refine WK.frame _ _ _ hW₂ fun a ha o e => f5.2.2 a o e ?_ ?_ ?_
          · rcases hfp a ha with rfl | ⟨⟨o1, e1⟩, h2⟩
            · exact hIL
            · obtain ⟨_, o2, vs2, n2, e2, d2⟩ := h2 hown
              intro z
              obtain ⟨m, o', es, ep, e', ed', _⟩ := q₁.loc
              rw [← z, e2] at e'; cases e'; rw [d2] at ed'; cases ed'
          · intro y c hy z
            rcases hfp a ha with rfl | ⟨⟨o1, e1⟩, h2⟩
            · exact hIc y c hy z.symm
            · obtain ⟨_, o2, vs2, n2, e2, d2⟩ := h2 hown
              obtain ⟨⟨w, o', e', ed'⟩, _⟩ := q₁.cel y c hy
              rw [← z, e2] at e'; cases e'; rw [d2] at ed'; cases ed'
          · intro p hp z
            rcases hfp a ha with rfl | ⟨⟨o1, e1⟩, h2⟩
            · exact hIo p hp z.symm
            · obtain ⟨hO, _⟩ := h2 hown
              rcases ox p hp with h | h
              · exact hO (List.mem_append_right _ (List.mem_map.mpr ⟨p, h, z.symm⟩))
              · rw [← z, e1] at h; cases h
        have go : ∀ s5 ow5 υ, Frm env ow' s₄ s5 → St cx env kd (I :: X) ow5 υ s5 → OwnExt s₄ ow' ow5 → (∃ υ', Sub υ' υ ∧ Iv (i + 1) υ') →
            ∃ m, m < items.length + 1 - i ∧ ∃ i ow' τ, i ≤ items.length ∧ m = items.length + 1 - i ∧ W i s5.heap ∧ Frm env ow s₁ s5 ∧ OwnExt s₁ ow ow' ∧ St cx env kd (I :: X) ow' τ s5 ∧ Iv i τ := by
          rintro s5 ow5 υ f5 q5 x5 ⟨υ', hs, hv⟩
          have f45 := fr4.trans .refl f5
          exact ⟨items.length + 1 - (i + 1), by omega, i + 1, ow5, υ', hlt, rfl, hW s5 f45, fr3.trans ox f45, fr3.trans' ox (fr4.trans' .refl x5), q5.sub hs, hv⟩
        have fin : ∀ s5 ow5 υ, Frm env ow' s₄ s5 → St cx env kd (I :: X) ow5 υ s5 → OwnExt s₄ ow' ow5 → Q .next υ → Post cx env kd X ow s Q .next s5 := fun s5 ow5 υ f5 q5 x5 hq =>
          ⟨(Frm.of_keeps k₁).trans .refl (fr3.trans ox (fr4.trans .refl f5)), ow5, υ, q5.lessX, (Frm.of_keeps k₁ (env := env)).trans' (ow := ow) .refl (fr3.trans' ox (fr4.trans' .refl x5)), hq⟩
        refine wpAny_mono (HB env kd (I :: X) ow' τ' s₄ b _ A _ ra q4 hbl) (fun f s5 h5 => ?_) fun _ _ x => x
        obtain ⟨f5, h5⟩ := h5
        cases f with
        | next => obtain ⟨ow5, υ, q5, x5, hv⟩ := h5; exact go s5 ow5 υ f5 q5 x5 hv
        | cont => obtain ⟨ow5, υ, q5, x5, hv⟩ := h5; exact go s5 ow5 υ f5 q5 x5 hv
        | brk => obtain ⟨ow5, υ, q5, x5, hv⟩ := h5; exact fin s5 ow5 υ f5 q5 x5 hv
        | ret v => obtain ⟨d, r, hv⟩ := h5; exact ⟨(Frm.of_keeps k₁).trans .refl (fr3.trans ox (fr4.trans .refl f5)), d, r.sub fun z hz => List.mem_cons_of_mem _ hz, hv⟩
      · obtain rfl : i = items.length := Nat.le_antisymm hi (Nat.not_lt.mp hlt)
        refine WK.done _ _ _ hWi fun h₂ tk₂ hk₂ => wpAny_execs_nil ?_
        obtain ⟨oI', hoI', nn, vv, hc', hd', _⟩ := hWI items.length s'.heap hWi
        have f' : Frm env ow s₁ { s' with heap := h₂, toks := tk₂ } := by
          obtain ⟨⟨h, tk, rfl⟩, f1, f2⟩ := fr
          exact ⟨⟨h₂, tk₂, rfl⟩, fun b e => by
            obtain ⟨o0, e0⟩ := e
            obtain ⟨o, e'⟩ := f1 b ⟨o0, e0⟩
            exact ⟨o, hk₂ b o (by simpa using ne1 b o0 e0) e'⟩, fun b o e n1 n2 n3 => hk₂ b o (by simpa using ne1 b o e) (f2 b o e n1 n2 n3)⟩
        have hIo : ∀ p ∈ ow', p.2 ≠ I := fun p hp z => (q'.own p hp).2.1 (by rw [z]; exact List.mem_cons_self)
        have mv : Mv I s'.heap h₂ := ⟨fun b o hb e => hk₂ b o (by simpa using hb) e, fun o e vs n hd => by rw [hoI'] at e; cases e; rw [hd] at hd'; cases hd'⟩
        exact ⟨(Frm.of_keeps k₁).trans .refl f', ow', τ, q'.lessX.move (tk := tk₂) mv (fun h => absurd h hIX) hIB hIL hIc hIo, (Frm.of_keeps k₁ (env := env)).trans' (ow := ow) .refl ox, hI2 τ hIv⟩
    · have := q₁.addX (N := [I]) k₂ (fun D hD => by rw [List.mem_singleton.mp hD]; exact hI) (fun D hD => by rw [List.mem_singleton.mp hD]; exact ⟨_, hI'.choose_spec.1⟩)
      exact this
end
section
variable {cx : Cx} {k n : Nat} {own : List Str} {env : Env} {kd : Kd} {X : List Addr} {ow ow' ow'' : List (Str × Addr)} {σ τ : Sg} {s s' s'' : Shared} {A : Around} {E : Value → Shared → Prop}
theorem while_ok {bl : BlF} (hS : SortOk cx) (HB : SndB cx k bl) (ra : RA A k) (q : St cx env kd X ow σ s) {t : Expr} {b : List Stmt} {p : Pos} {Q : PF} (h : whileW (trW cx k n) bl kd t b σ Q) :
    wpAny (model cx.prog cx.w) A (exec (.While t b [] p) env) (Post cx env kd X ow s Q) E s := by
  have HT := (evtr_ok (cx := cx) (k := k) hS n).2
  obtain ⟨Iv, μ, hI0, hI⟩ := h
  refine wpAny_While (codeAny_whileLoop (fun m s' => ∃ ow' τ, m = μ τ ∧ Frm env ow s s' ∧ OwnExt s ow ow' ∧ St cx env kd X ow' τ s' ∧ Iv τ) ?_ (μ σ) ⟨ow, σ, rfl, .of_keeps (keeps_refl s), .refl, q, hI0⟩)
  rintro m s' ⟨ow', τ, rfl, fr, ox, q', hIv⟩
  refine wpAny_mono (HT env kd X ow' τ s' t _ A _ ra q' (hI τ hIv)) (fun c s₂ h₂ => ?_) fun _ _ x => x
  obtain ⟨k₂, h₂⟩ := h₂
  have fr2 := fr.trans ox (Frm.of_keeps (ow := ow') k₂)
  have ox2 : OwnExt s ow ow' := ox
  have q2 := q'.keeps k₂
  cases c with
  | false => exact wpAny_execs_nil ⟨fr2, ow', τ, q2, ox, h₂⟩
  | true =>
    refine wpAny_mono (HB env kd X ow' τ s₂ b _ A _ ra q2 h₂) (fun f s₃ h₃ => ?_) fun _ _ x => x
    obtain ⟨f3, h₃⟩ := h₃
    have fr3 := fr2.trans ox f3
    cases f with
    | next => obtain ⟨ow5, υ, q5, x5, υ', hs, hv, hm⟩ := h₃; exact ⟨μ υ', hm, ow5, υ', rfl, fr3, fr2.trans' ox x5, q5.sub hs, hv⟩
    | cont => obtain ⟨ow5, υ, q5, x5, υ', hs, hv, hm⟩ := h₃; exact ⟨μ υ', hm, ow5, υ', rfl, fr3, fr2.trans' ox x5, q5.sub hs, hv⟩
    | brk => obtain ⟨ow5, υ, q5, x5, hv⟩ := h₃; exact ⟨fr3, ow5, υ, q5, fr2.trans' ox x5, hv⟩
    | ret v => obtain ⟨d, r, hv⟩ := h₃; exact ⟨fr3, d, r, hv⟩
theorem exStep_ok {bl : BlF} (hS : SortOk cx) (HB : SndB cx k bl) : SndX cx k (exStep (evW cx k n) (trW cx k n) own bl) := by
  intro env kd X ow σ s st Q A E ra q h
  have H := (evtr_ok (cx := cx) (k := k) hS n).1
  have HT := (evtr_ok (cx := cx) (k := k) hS n).2
  cases st <;> dsimp only [exStep] at h <;> first | exact h.elim | skip
  case Assign ts v p =>
    match ts, h with
    | [], h => exact h.elim
    | _ :: _ :: _, h => exact h.elim
    | [t], h =>
      dsimp only at h
      cases hn : nameOf? t with
      | some x =>
        rw [hn] at h
        dsimp only at h
        obtain ⟨tp, rfl⟩ := nameOf_inv hn
        cases hst : storable kd x with
        | false => rw [hst] at h; exact h.elim
        | true => rw [hst] at h; exact assign_ok hS ra q hst h
      | none =>
        rw [hn] at h
        dsimp only at h
        cases hs : subOf? t with
        | none =>
          rw [hs] at h
          dsimp only at h
          split at h
          · rename_i ts oi ht hv
            obtain ⟨o, i⟩ := oi
            have hf : ∃ a b, t = .Tuple ts a b := by
              cases t <;> dsimp only [tupOf?] at ht <;> first | cases ht | skip
              exact ⟨_, _, rfl⟩
            have hf2 : ∃ p, v = .Subscript o i p := by
              cases v <;> dsimp only [subOf?] at hv <;> first | cases hv | skip
              exact ⟨_, rfl⟩
            obtain ⟨a, b, rfl⟩ := hf
            obtain ⟨vp, rfl⟩ := hf2
            refine PyProof.Rows.Assign_Tuple (wpAny_mono (H env kd X ow σ s _ _ A E ra q h) (fun u s₁ h₁ => ?_) fun _ _ x => x)
            obtain ⟨k₁, d, r₁, h₁⟩ := h₁
            exact wpAny_mono (bindT_ok ra.hd (q.keeps k₁) r₁ h₁) (fun _ s' h' => ⟨(Frm.of_keeps k₁).trans .refl h'.1, ow, let ⟨τ, q', hq⟩ := h'.2; ⟨τ, q', .refl, hq⟩⟩) fun _ _ x => x
          · exact h.elim
        | some oi =>
          obtain ⟨o, i⟩ := oi
          rw [hs] at h
          have hf : ∃ p, t = .Subscript o i p := by
            cases t <;> dsimp only [subOf?] at hs <;> first | cases hs | skip
            exact ⟨_, rfl⟩
          obtain ⟨sp, rfl⟩ := hf
          exact setW_ok hS ra q h
  case AugAssign t op v p =>
    cases hn : nameOf? t with
    | none => rw [hn] at h; exact h.elim
    | some x =>
      rw [hn] at h
      obtain ⟨tp, rfl⟩ := nameOf_inv hn
      exact augW_ok hS ra q h
  case Expr e p => exact exprW_ok hS ra q h
  case If t b o p =>
    refine wpAny_If (wpAny_mono (HT env kd X ow σ s t _ A E ra q h) (fun c s₂ h₂ => ?_) fun _ _ x => x)
    obtain ⟨k₂, h₂⟩ := h₂
    cases c with
    | true => exact wpAny_mono (HB env kd X ow σ s₂ b Q A E ra (q.keeps k₂) h₂) (fun f s₃ p => post_lift (.of_keeps k₂) .refl p) fun _ _ x => x
    | false => exact wpAny_mono (HB env kd X ow σ s₂ o Q A E ra (q.keeps k₂) h₂) (fun f s₃ p => post_lift (.of_keeps k₂) .refl p) fun _ _ x => x
  case While t b o p =>
    cases o with
    | nil => exact while_ok hS HB ra q h
    | cons _ _ => exact h.elim
  case For t it b o p =>
    cases o with
    | nil => exact for_ok hS HB ra q h
    | cons _ _ => exact h.elim
  case Return v p =>
    cases v with
    | none => exact h.elim
    | some e =>
      refine wpAny_Return_some (wpAny_mono (H env kd X [] (frz σ) s e _ A E ra q.frz h) (fun u s₂ h₂ => ?_) fun _ _ x => x)
      obtain ⟨k₂, d, r, hq⟩ := h₂
      exact ⟨.of_keeps k₂, d, r.sub fun z hz => List.mem_append_left _ hz, hq⟩
  case Continue p => exact wpAny_Continue ⟨.of_keeps (keeps_refl s), ow, σ, q, .refl, h⟩
theorem exW_ok (hS : SortOk cx) : ∀ m, SndX cx k (exW cx k n own m)
  | 0 => fun _ _ _ _ _ _ _ _ _ _ _ _ h => h.elim
  | m + 1 => exStep_ok hS (blStep_ok (exW_ok hS m))
end
theorem bindL_skip {kf : Str → Option NameKind} {x : Str} : ∀ {xs : List Str} {vs : List Value} {m : Str → Option Value}, x ∉ xs → bindL kf (xs.zip vs) m x = m x
  | [], _, _, _ => rfl
  | _ :: _, [], _, _ => rfl
  | y :: xs, v :: vs, m, h => by
    have h1 : x ≠ y := fun e => h (e ▸ List.mem_cons_self)
    have h2 : x ∉ xs := fun e => h (List.mem_cons_of_mem _ e)
    show bindL kf (xs.zip vs) _ x = m x
    rw [bindL_skip h2]
    split
    · simp [h1]
    · rfl
theorem bind_vars {h : Heap} {O : List Addr} {kf : Str → Option NameKind} {x : Str} {sl : Slot} : ∀ {xs : List Str} {vs : List Value} {ds : List PyData} {m : Str → Option Value}, (∀ y ∈ xs, kf y = some .local) → xs.Nodup → RpAll h O vs ds →
    (xs.zip (ds.map Slot.val)).lookup x = some sl → x ∈ xs ∧ ∃ d v, sl = .val d ∧ Rp h O v d ∧ bindL kf (xs.zip vs) m x = some v
  | [], vs, ds, m, _, _, _, hl => by simp at hl
  | y :: xs, vs, [], m, _, _, _, hl => by simp at hl
  | y :: xs, vs, d :: ds, m, hk, hn, r, hl => by
    cases r with
    | cons rv rs =>
      rename_i v vs
      simp only [List.map_cons, List.zip_cons_cons, List.lookup_cons] at hl
      simp only [List.nodup_cons] at hn
      cases hxy : x == y with
      | true =>
        obtain rfl := eq_of_beq hxy
        rw [hxy] at hl
        cases hl
        refine ⟨List.mem_cons_self, d, v, rfl, rv, ?_⟩
        show bindL kf (xs.zip vs) _ x = some v
        rw [bindL_skip hn.1, if_pos (hk x List.mem_cons_self)]
        simp
      | false =>
        rw [hxy] at hl
        obtain ⟨h1, h2⟩ := bind_vars (m := if kf y = some .local then fun z => if z = y then some v else m z else m) (fun z hz => hk z (List.mem_cons_of_mem _ hz)) hn.2 rs hl
        exact ⟨List.mem_cons_of_mem _ h1, h2⟩
theorem cells_acc {x : Str} : ∀ {names : List (Str × NameKind)} {n : Nat} {acc : List (Str × Addr)}, (∃ c, acc.lookup x = some c) → ∃ c, (cellsFrom n names acc).lookup x = some c
  | [], _, _, h => h
  | (y, kd) :: r, n, acc, h => by
    unfold cellsFrom
    split
    · refine cells_acc ?_
      rw [List.lookup_cons]
      cases x == y with
      | true => exact ⟨_, rfl⟩
      | false => exact h
    · exact cells_acc h
theorem cells_has {x : Str} : ∀ {names : List (Str × NameKind)} {n : Nat} {acc : List (Str × Addr)}, names.lookup x = some .cell → ∃ c, (cellsFrom n names acc).lookup x = some c
  | [], _, _, h => by simp at h
  | (y, kd) :: r, n, acc, h => by
    rw [List.lookup_cons] at h
    unfold cellsFrom
    cases hxy : x == y with
    | true =>
      rw [hxy] at h
      cases h
      rw [if_pos (by decide)]
      refine cells_acc ?_
      rw [List.lookup_cons, hxy]
      exact ⟨_, rfl⟩
    | false =>
      rw [hxy] at h
      split
      · exact cells_has h
      · exact cells_has h
def kdS (sc : Scope) : Kd := fun y => sc.names.lookup y
def fnOk (sc : Scope) (xs : List Str) : Bool := sc.kind == .function && !sc.isCoroutine && !sc.isGenerator && xs.all fun x => sc.names.lookup x == some .local && !(x == ("__debug__" : Str)) && !(x == ("__classdict__" : Str))
theorem fn_ok2 {cx : Cx} (hS : SortOk cx) {d : DefRec} {own : List Str} {k n m : Nat} {xs : List Str} {ds : List PyData} {r : PyData} (hd : d ∈ recsOf cx.p)
    (hbind : ∀ (pm code doc : Value) (vs : List Value), vs.length = xs.length → bindArgs (Calls.docDef d.name d.params d.body d.scope pm code doc) ⟨vs, []⟩ = pure (xs.zip vs))
    (hlen : xs.length = ds.length) (hok : fnOk d.scope xs = true) (hnd : xs.Nodup)
    {σ : Sg} (hσ : Sub σ (xs.zip (ds.map Slot.val))) (h : blStep (exW cx k n own m) (kdS d.scope) d.body σ fun f _ => match f with | .ret e => e = r | _ => False) : CallsTo cx (k + 1) d.name ds r := by
  obtain ⟨a, o, pm, code, doc, hg, ho, hdat, hcr⟩ := cx.top.fn d hd
  refine ⟨a, o, _, hg, ho, hdat, fun A s E Q X vs ra hB hX hr hQ => ?_⟩
  unfold fnOk at hok
  simp only [Bool.and_eq_true, beq_iff_eq, Bool.not_eq_true', List.all_eq_true] at hok
  obtain ⟨⟨⟨hk, hco⟩, hgen⟩, hxs⟩ := hok
  have hl := hr.length
  have hxk : ∀ y ∈ xs, d.scope.names.lookup y = some .local := fun y hy => (hxs y hy).1.1
  refine wpAny_call (codeAny_call_cells (fd := Calls.docDef d.name d.params d.body d.scope pm code doc) (by have := ra.dp; omega) (hB _ _ ho) hdat (cx.top.nolimit.keeps hB) (hcr.keeps hB) rfl (hbind pm code doc vs (by omega)) rfl
    (fun x hx => .inl (hxk x.1 (by obtain ⟨x1, x2⟩ := x; exact (List.of_mem_zip hx).1))) (fun s₁ x => ?_) hco hgen hk)
  have hsz : s.heap.objs.size = (callEnvC (Calls.docDef d.name d.params d.body d.scope pm code doc) s.heap.objs.size a).locals := rfl
  have hnone : ∀ b, s.heap.objs.size ≤ b → s.heap.get? b = none := fun b hb => by
    cases e : s.heap.get? b with
    | none => rfl
    | some o => exact absurd (Heap.lt_size e) (Nat.not_lt.mpr hb)
  have q : St cx (callEnvC (Calls.docDef d.name d.params d.body d.scope pm code doc) s.heap.objs.size a) (kdS d.scope) X [] (xs.zip (ds.map Slot.val)) s₁ := by
    refine ⟨⟨hk, rfl, rfl, fun y => rfl⟩, hB.trans x.toInCall.keep, ⟨_, x.toInCall.ns⟩, none_back hB (hnone _ (Nat.le_refl _)), fun y hy => cells_has hy, fun y c hy => ?_, fun y z c hy hz => ?_, fun b hb => ?_, fun p hp => (by cases hp), List.Pairwise.nil, fun y sl hy => ?_⟩
    · have h1 := x.above y c (mem_of_lookup hy)
      exact ⟨⟨_, x.cell y c hy⟩, none_back hB (hnone c (Nat.le_of_lt h1)), Nat.ne_of_gt h1⟩
    · exact name_of_addr x.apart (mem_of_lookup hy) (mem_of_lookup hz)
    · obtain ⟨o, e⟩ := hX b hb
      exact ⟨o, x.toInCall.keep b o e⟩
    · obtain ⟨h1, d', v, rfl, rv, hm⟩ := bind_vars (kf := (callEnvC (Calls.docDef d.name d.params d.body d.scope pm code doc) s.heap.objs.size a).kindOf) (m := fun _ => none) hxk hnd hr hy
      refine ⟨v, ⟨(hxs y h1).1.2, (hxs y h1).2, .inl ⟨hxk y h1, _, x.toInCall.ns, hm⟩⟩, ?_⟩
      rw [List.map_nil, List.append_nil]
      exact rv.grow x.toInCall.keep
  refine wpAny_mono (blStep_ok (exW_ok hS m) _ _ X [] _ s₁ d.body _ _ _ (ra.deeper _) (q.sub hσ) h) (fun f s' p => ?_) fun _ _ e => e
  obtain ⟨fr, p⟩ := p
  cases f with
  | next => obtain ⟨_, _, _, _, h⟩ := p; exact h.elim
  | cont => obtain ⟨_, _, _, _, h⟩ := p; exact h.elim
  | brk => obtain ⟨_, _, _, _, h⟩ := p; exact h.elim
  | ret v =>
    obtain ⟨e, rv, he⟩ := p
    have he' : e = r := he
    subst he'
    refine hQ v s' ?_ rv
    obtain ⟨h₁, t₁, e₁⟩ := x.toInCall.same
    obtain ⟨⟨h₂, t₂, e₂⟩, _, f2⟩ := fr
    refine ⟨h₂, t₂, by rw [e₂, e₁], fun b o e => ?_⟩
    have hb := Heap.lt_size e
    have := f2 b o (x.toInCall.keep b o e) (Nat.ne_of_lt hb) (fun y c hy => Nat.ne_of_lt (Nat.lt_trans hb (x.above y c (mem_of_lookup hy)))) fun p hp => by cases hp
    rw [e₂] at this
    exact this
theorem CallsTo.le {cx : Cx} {j k : Nat} {f : Str} {ds : List PyData} {d : PyData} (h : CallsTo cx j f ds d) (hjk : j ≤ k) : CallsTo cx k f ds d :=
  let ⟨fa, o, fd, a, b, c, g⟩ := h; ⟨fa, o, fd, a, b, c, fun A s E Q X vs ra => g A s E Q X vs (ra.le hjk)⟩
theorem CallsTo.isFn {cx : Cx} {j : Nat} {f : Str} {ds : List PyData} {d : PyData} (h : CallsTo cx j f ds d) : IsFn cx f := let ⟨fa, o, fd, a, b, c, _⟩ := h; ⟨fa, o, fd, a, b, c⟩
theorem isFn_of {cx : Cx} {d : DefRec} (hd : d ∈ recsOf cx.p) : IsFn cx d.name := let ⟨a, o, _, _, _, h1, h2, h3, _⟩ := cx.top.fn d hd; ⟨a, o, _, h1, h2, h3⟩
theorem qcJ (a b : String) : (Str.ofString a = Str.ofString b) = (a = b) := by
  refine propext ⟨fun h => ?_, fun h => by rw [h]⟩
  rw [Str.ofString_eq_toList, Str.ofString_eq_toList] at h
  have h1 : a.toList.map Char.toNat = b.toList.map Char.toNat := by
    have := congrArg (fun x => x.cps.toList) h
    simpa using this
  have h2 : a.toList = b.toList := (List.map_inj_right (fun x y e => Char.ext (UInt32.toNat_inj.mp e))).mp h1
  exact String.toList_inj.mp h2
theorem qcI (a b : String) : (Str.ofString a == Str.ofString b) = (a == b) := by
  rw [Bool.eq_iff_iff, beq_iff_eq, beq_iff_eq, qcJ]
def recAt (p : Program) (i : Nat) : Option DefRec := match p.main.body[i]? with
  | some (.FunctionDef name a b _ _ _ sc _ _ pos) => some ⟨name, a, b, sc, pos⟩
  | _ => none
def isDef (s : Stmt) : Bool := match s with
  | .FunctionDef _ _ _ [] none [] _ none _ _ => true
  | _ => false
theorem mem_recs {p : Program} {i : Nat} {d : DefRec} (h : recAt p i = some d) (h2 : p.theDef d.name = some (d.params, d.body, d.scope)) (h3 : d.params.defaults = []) (h4 : kwLiteralsOf? d.params.kwonlyargs d.params.kw_defaults = some []) : d ∈ recsOf p := by
  unfold recAt at h
  split at h
  · rename_i hb
    cases h
    unfold recsOf
    refine List.mem_filterMap.mpr ⟨_, List.mem_of_getElem? hb, ?_⟩
    dsimp only at h2 h3 h4 ⊢
    rw [h2]
    dsimp only
    rw [h3, h4]
  · cases h
structure EvB (cx : Cx) (k n : Nat) (kd : Kd) (σ : Sg) (e : Expr) (Q : PyData → Prop) : Prop where
  out : evW cx k n kd σ e Q
structure TrB (cx : Cx) (k n : Nat) (kd : Kd) (σ : Sg) (e : Expr) (Q : Bool → Prop) : Prop where
  out : trW cx k n kd σ e Q
structure ExB (cx : Cx) (k n : Nat) (own : List Str) (m : Nat) (kd : Kd) (st : Stmt) (σ : Sg) (Q : PF) : Prop where
  out : exW cx k n own m kd st σ Q
theorem EvB_def (cx : Cx) (k n : Nat) : EvB cx k n = evW cx k n := by
  funext kd σ e Q; exact propext ⟨fun h => h.out, fun h => ⟨h⟩⟩
theorem TrB_def (cx : Cx) (k n : Nat) : TrB cx k n = trW cx k n := by
  funext kd σ e Q; exact propext ⟨fun h => h.out, fun h => ⟨h⟩⟩
theorem ExB_def (cx : Cx) (k n : Nat) (own : List Str) (m : Nat) : ExB cx k n own m = exW cx k n own m := by
  funext kd σ e Q; exact propext ⟨fun h => h.out, fun h => ⟨h⟩⟩
theorem qaa (cx : Cx) (k n : Nat) (kd : Kd) (σ : Sg) (e : Expr) (Q : PyData → Prop) : EvB cx k (n + 1) kd σ e Q = evStep cx k (EvB cx k n) (TrB cx k n) kd σ e Q := by
  rw [EvB_def, EvB_def, TrB_def]; rfl
theorem qac (cx : Cx) (k n : Nat) (kd : Kd) (σ : Sg) (e : Expr) (Q : Bool → Prop) : TrB cx k (n + 1) kd σ e Q = trStep (EvB cx k n) (TrB cx k n) kd σ e Q := by
  rw [TrB_def, EvB_def, TrB_def]; rfl
theorem qab (cx : Cx) (k n : Nat) (own : List Str) (m : Nat) (kd : Kd) (st : Stmt) (σ : Sg) (Q : PF) : ExB cx k n own (m + 1) kd st σ Q = exStep (EvB cx k n) (TrB cx k n) own (blStep (ExB cx k n own m)) kd st σ Q := by
  rw [ExB_def, EvB_def, TrB_def, ExB_def]; rfl
structure Tag {α : Type} (x : α) : Type where mk ::
structure useC (cx : Cx) (k : Nat) (g : Str) (ds : List PyData) (Q : PyData → Prop) (t : Tag Q) : Prop where
  out : ∃ d, CallsTo cx k g ds d ∧ Q d
theorem useC_of {cx : Cx} {k : Nat} {g : Str} {ds : List PyData} {Q : PyData → Prop} {t : Tag Q} {d : PyData} (h : CallsTo cx k g ds d) (hq : Q d) : useC cx k g ds Q t := ⟨d, h, hq⟩
def isBlt (g : Str) : Bool := g == "len" || g == "int" || g == "list" || g == "sorted" || g == "__debug__"
def userW (cx : Cx) (k : Nat) (ev : EvF) (kd : Kd) (σ : Sg) (g : Str) (args : List Expr) (Q : PyData → Prop) : Prop := match kd g with
  | some .globalImplicit => IsFn cx g ∧ evs (ev kd σ) args fun ds => useC cx k g ds Q ⟨⟩
  | _ => False
theorem qaN (cx : Cx) (k : Nat) (ev : EvF) (kd : Kd) (σ : Sg) (g : Str) (args : List Expr) (Q : PyData → Prop) (h : isBlt g = false) : callW cx k ev kd σ g args Q = userW cx k ev kd σ g args Q := by
  unfold isBlt at h
  simp only [Bool.or_eq_false_iff] at h
  obtain ⟨⟨⟨⟨h1, h2⟩, h3⟩, h4⟩, h5⟩ := h
  have e : ∀ ds, useC cx k g ds Q ⟨⟩ = (∃ d, CallsTo cx k g ds d ∧ Q d) := fun ds => propext ⟨fun h => h.out, fun h => ⟨h⟩⟩
  unfold callW userW
  simp only [e]
  rw [h1, h2, h3, h4, h5]
  cases kd g with
  | none => rfl
  | some nk => cases nk <;> first | rfl | simp
structure forH (ev : EvF) (bl : BlF) (kd : Kd) (t it : Expr) (b : List Stmt) (σ : Sg) (Q : PF) (tag : Tag (bl, t, it, b, Q)) : Prop where
  out : forW ev bl kd t it b σ Q
theorem forW_h (ev : EvF) (bl : BlF) (kd : Kd) (t it : Expr) (b : List Stmt) (σ : Sg) (Q : PF) : forW ev bl kd t it b σ Q = forH ev bl kd t it b σ Q ⟨⟩ := propext ⟨fun h => ⟨h⟩, fun h => h.out⟩
structure whileH (tr : TrF) (bl : BlF) (kd : Kd) (t : Expr) (b : List Stmt) (σ : Sg) (Q : PF) (tag : Tag (bl, t, b, Q)) : Prop where
  out : whileW tr bl kd t b σ Q
theorem whileW_h (tr : TrF) (bl : BlF) (kd : Kd) (t : Expr) (b : List Stmt) (σ : Sg) (Q : PF) : whileW tr bl kd t b σ Q = whileH tr bl kd t b σ Q ⟨⟩ := propext ⟨fun h => ⟨h⟩, fun h => h.out⟩
structure compH (ev : EvF) (tr : TrF) (kd : Kd) (σ : Sg) (elt : Expr) (gens : List Comprehension) (scope : Scope) (Q : List PyData → Prop) (tag : Tag (ev, tr, elt, gens, Q)) : Prop where
  out : compW ev tr kd σ elt gens scope Q
theorem qaZ (ev : EvF) (tr : TrF) (kd : Kd) (σ : Sg) (elt : Expr) (gens : List Comprehension) (scope : Scope) (Q : List PyData → Prop) : compW ev tr kd σ elt gens scope Q = compH ev tr kd σ elt gens scope Q ⟨⟩ := propext ⟨fun h => ⟨h⟩, fun h => h.out⟩
structure useS (d : PyData) (Q : PyData → Prop) (t : Tag Q) : Prop where
  out : ∃ ps : List (Int × Int), d = .list (ps.map pairD) ∧ ps.length < 64 ∧ Q (.list ((sortP ps).map pairD))
structure useG (cx : Cx) (x : Str) (Q : PyData → Prop) (t : Tag Q) : Prop where
  out : ∃ i, GInt cx x i ∧ Q (.int i)
theorem useG_of {cx : Cx} {x : Str} {Q : PyData → Prop} {t : Tag Q} {i : Int} (h : GInt cx x i) (hq : Q (.int i)) : useG cx x Q t := ⟨i, h, hq⟩
def nameV (cx : Cx) (kd : Kd) (x : Str) (Q : PyData → Prop) (o : Option Slot) : Prop := match o with
  | some (.val d) => Q d
  | some _ => False
  | none => match kd x with
    | some .globalImplicit => useG cx x Q ⟨⟩
    | _ => False
theorem nameW_h (cx : Cx) (kd : Kd) (σ : Sg) (x : Str) (Q : PyData → Prop) : nameW cx kd σ x Q = nameV cx kd x Q (σ.lookup x) := by
  have e : useG cx x Q ⟨⟩ = (∃ i, GInt cx x i ∧ Q (.int i)) := propext ⟨fun h => h.out, fun h => ⟨h⟩⟩
  unfold nameW nameV
  rw [e]
  all_goals (cases σ.lookup x with
    | some sl => cases sl <;> rfl
    | none => cases kd x with
      | none => rfl
      | some nk => cases nk <;> rfl)
theorem qbU (cx : Cx) (kd : Kd) (x : Str) (Q : PyData → Prop) (d : PyData) : nameV cx kd x Q (some (.val d)) = Q d := rfl
structure iteB (c : Bool) (P Q : Prop) (t : Tag (P, Q)) : Prop where
  out : (match c with | true => P | false => Q)
theorem qbG {P Q : Prop} {t : Tag (P, Q)} : iteB true P Q t = P := propext ⟨fun h => h.out, fun h => ⟨h⟩⟩
theorem qbF {P Q : Prop} {t : Tag (P, Q)} : iteB false P Q t = Q := propext ⟨fun h => h.out, fun h => ⟨h⟩⟩
theorem iteB_of {c : Bool} {P Q : Prop} {t : Tag (P, Q)} (h1 : c = true → P) (h2 : c = false → Q) : iteB c P Q t := by
  cases c with
  | true => exact ⟨h1 rfl⟩
  | false => exact ⟨h2 rfl⟩
theorem iteB_eq (c : Bool) (P Q : Prop) : (match c with | true => P | false => Q) = iteB c P Q ⟨⟩ := propext ⟨fun h => ⟨h⟩, fun h => h.out⟩
theorem qaK (cx : Cx) (k : Nat) (ev : EvF) (kd : Kd) (σ : Sg) (args : List Expr) (Q : PyData → Prop) : callW cx k ev kd σ "len" args Q = (match kd "len" with
    | some .globalImplicit => (match args with
      | [e] => (match ownE σ e with
        | some (.lst ds) => ds.length ≤ 1000000 ∧ Q (.int ds.length)
        | some _ => False
        | none => (match isSt e with | true => False | false => ev kd σ e fun d => (match d with | .list ds => ds.length ≤ 1000000 ∧ Q (.int ds.length) | _ => False)))
      | _ => False)
    | _ => False) := by
  unfold callW
  cases kd "len" with
  | none => rfl
  | some nk => cases nk <;> first | rfl | (simp only [beq_self_eq_true, if_true]; rfl)
theorem qaJ (cx : Cx) (k : Nat) (ev : EvF) (kd : Kd) (σ : Sg) (args : List Expr) (Q : PyData → Prop) : callW cx k ev kd σ "int" args Q = (match kd "int" with
    | some .globalImplicit => (match args with
      | [e] => (match isSt e with | true => False | false => ev kd σ e fun d => (match d with | .int i => Q (.int i) | _ => False))
      | _ => False)
    | _ => False) := by
  unfold callW
  have h : ¬ ((("int" : Str) == ("len" : Str)) = true) := by rw [qcI]; decide
  cases kd "int" with
  | none => rfl
  | some nk => cases nk <;> first | rfl | (simp only [if_neg h, beq_self_eq_true, if_true]; rfl)
theorem qaL (cx : Cx) (k : Nat) (ev : EvF) (kd : Kd) (σ : Sg) (args : List Expr) (Q : PyData → Prop) : callW cx k ev kd σ "list" args Q = (match kd "list" with
    | some .globalImplicit => (match args with
      | [e] => (match isSt e with | true => False | false => ev kd σ e fun d => (match d with | .list ds => ds.length ≤ 1000000 ∧ Q (.list ds) | _ => False))
      | _ => False)
    | _ => False) := by
  unfold callW
  have h : ¬ ((("list" : Str) == ("len" : Str)) = true) := by rw [qcI]; decide
  have h2 : ¬ ((("list" : Str) == ("int" : Str)) = true) := by rw [qcI]; decide
  cases kd "list" with
  | none => rfl
  | some nk => cases nk <;> first | rfl | (simp only [if_neg h, if_neg h2, beq_self_eq_true, if_true]; rfl)
theorem qaM (cx : Cx) (k : Nat) (ev : EvF) (kd : Kd) (σ : Sg) (args : List Expr) (Q : PyData → Prop) : callW cx k ev kd σ "sorted" args Q = (match kd "sorted" with
    | some .globalImplicit => (match args with
      | [e] => (match isSt e with | true => False | false => ev kd σ e fun d => useS d Q ⟨⟩)
      | _ => False)
    | _ => False) := by
  have e : ∀ d, useS d Q ⟨⟩ = (∃ ps : List (Int × Int), d = .list (ps.map pairD) ∧ ps.length < 64 ∧ Q (.list ((sortP ps).map pairD))) := fun ds => propext ⟨fun h => h.out, fun h => ⟨h⟩⟩
  unfold callW
  simp only [e]
  have h : ¬ ((("sorted" : Str) == ("len" : Str)) = true) := by rw [qcI]; decide
  have h2 : ¬ ((("sorted" : Str) == ("int" : Str)) = true) := by rw [qcI]; decide
  have h3 : ¬ ((("sorted" : Str) == ("list" : Str)) = true) := by rw [qcI]; decide
  cases kd "sorted" with
  | none => rfl
  | some nk => cases nk <;> first | rfl | (simp only [if_neg h, if_neg h2, if_neg h3, beq_self_eq_true, if_true]; rfl)
def seqK (ex : ExF) (kd : Kd) (rest : List Stmt) (Q : PF) : PF := fun f τ => match f with
    | .next => blStep ex kd rest τ Q
    | .cont => Q .cont τ
    | .brk => Q .brk τ
    | .ret d => Q (.ret d) τ
def endK (r : PyData) : PF := fun f _ => match f with
  | .ret e => e = r
  | _ => False
def subW (ev : EvF) (kd : Kd) (σ : Sg) (v i : Expr) (Q : PyData → Prop) (o : Option Slot) : Prop := match o with
    | some (.lst ds) => (match sliceOf? i with | none => ev kd σ i fun j => itemW (.list ds) j Q | some _ => False)
    | some (.dct kvs) => (match sliceOf? i with | none => ev kd σ i fun j => (match j with | .int kk => ∃ x, getKV kvs kk = some x ∧ Q (.int x) | _ => False) | some _ => False)
    | _ => (match sliceOf? i with
      | some (lo, hi, none) => ev kd σ v fun a => optW (ev kd σ) lo fun l => optW (ev kd σ) hi fun h => sliceW a l h Q
      | some _ => False
      | none => ev kd σ v fun a => ev kd σ i fun j => itemW a j Q)
def ownOf : Option Slot → Option Slot
  | some (.lst ds) => some (.lst ds)
  | some (.dct kvs) => some (.dct kvs)
  | _ => none
section
variable (cx : Cx) (k : Nat) (own : List Str) (ev : EvF) (tr : TrF) (bl : BlF) (ex : ExF) (kd : Kd) (σ τ : Sg) (Q : PyData → Prop) (B : Bool → Prop) (P : PF)
theorem qaG (st : Stmt) (rest : List Stmt) : blStep ex kd (st :: rest) σ P = ex kd st σ (seqK ex kd rest P) := rfl
theorem qaH : blStep ex kd [] σ P = P .next σ := rfl
theorem qcp (rest : List Stmt) : seqK ex kd rest P .next τ = blStep ex kd rest τ P := rfl
theorem qco (rest : List Stmt) : seqK ex kd rest P .cont τ = P .cont τ := rfl
theorem qcn (rest : List Stmt) : seqK ex kd rest P .brk τ = P .brk τ := rfl
theorem qcq (rest : List Stmt) (d : PyData) : seqK ex kd rest P (.ret d) τ = P (.ret d) τ := rfl
theorem qa4 (r d : PyData) : endK r (.ret d) τ = (d = r) := rfl
theorem qba (c : Const) (u : Nat) (p : Pos) : evStep cx k ev tr kd σ (.Constant c u p) Q = cstW c Q := rfl
theorem qbe (x : Str) (p : Pos) : evStep cx k ev tr kd σ (.Name x p) Q = nameV cx kd x Q (σ.lookup x) := nameW_h cx kd σ x Q
theorem qa6 (l r : Expr) (op : Operator) (p : Pos) : evStep cx k ev tr kd σ (.BinOp l op r p) Q = ev kd σ l fun a => ev kd σ r fun b => binW op a b Q := rfl
theorem qbi (x : Expr) (op : UnaryOp) (p : Pos) : evStep cx k ev tr kd σ (.UnaryOp op x p) Q = ev kd σ x fun a => unW op a Q := rfl
theorem qa5 (x y : Expr) (p : Pos) : evStep cx k ev tr kd σ (.BoolOp .And [x, y] p) Q = ev kd σ x fun a => truthW a fun t => iteB t (ev kd σ y Q) (Q a) ⟨⟩ := by
  show (ev kd σ x fun a => truthW a fun t => _) = _
  congr 1; funext a; congr 1; funext t; rw [← iteB_eq]; all_goals (cases t <;> rfl)
theorem qbf (x y : Expr) (p : Pos) : evStep cx k ev tr kd σ (.BoolOp .Or [x, y] p) Q = ev kd σ x fun a => truthW a fun t => iteB t (Q a) (ev kd σ y Q) ⟨⟩ := by
  show (ev kd σ x fun a => truthW a fun t => _) = _
  congr 1; funext a; congr 1; funext t; rw [← iteB_eq]; all_goals (cases t <;> rfl)
theorem qbb (t b o : Expr) (p : Pos) : evStep cx k ev tr kd σ (.IfExp t b o p) Q = tr kd σ t fun c => iteB c (ev kd σ b Q) (ev kd σ o Q) ⟨⟩ := by
  show (tr kd σ t fun c => _) = _
  congr 1; funext c; rw [← iteB_eq]; all_goals (cases c <;> rfl)
theorem qa9 (l r : Expr) (op : CmpOp) (p : Pos) : evStep cx k ev tr kd σ (.Compare l [op] [r] p) Q = (match behindInMarks op r with
      | true => False
      | false => ev kd σ l fun a => ev kd σ r fun b => cmpW op a b fun c => Q (.bool c)) := rfl
theorem qbh (es : List Expr) (u : Nat) (p : Pos) : evStep cx k ev tr kd σ (.Tuple es u p) Q = (match Nat.ble es.length 100 with | true => evs (ev kd σ) es fun ds => Q (.tuple ds) | false => False) := rfl
theorem qbd (es : List Expr) (p : Pos) : evStep cx k ev tr kd σ (.List es p) Q = (match Nat.ble es.length 100 with | true => evs (ev kd σ) es fun ds => Q (.list ds) | false => False) := rfl
theorem qbg (v i : Expr) (p : Pos) : evStep cx k ev tr kd σ (.Subscript v i p) Q = subW ev kd σ v i Q (ownE σ v) := rfl
theorem qcL (v i : Expr) (ds : List PyData) : subW ev kd σ v i Q (some (.lst ds)) = (match sliceOf? i with | none => ev kd σ i fun j => itemW (.list ds) j Q | some _ => False) := rfl
theorem qcK (v i : Expr) (kvs : List (Int × Int)) : subW ev kd σ v i Q (some (.dct kvs)) = (match sliceOf? i with | none => ev kd σ i fun j => (match j with | .int kk => ∃ x, getKV kvs kk = some x ∧ Q (.int x) | _ => False) | some _ => False) := rfl
theorem qcM (v i : Expr) : subW ev kd σ v i Q none = (match sliceOf? i with
      | some (lo, hi, none) => ev kd σ v fun a => optW (ev kd σ) lo fun l => optW (ev kd σ) hi fun h => sliceW a l h Q
      | some _ => False
      | none => ev kd σ v fun a => ev kd σ i fun j => itemW a j Q) := rfl
theorem qb4 (x : Str) (p : Pos) : ownE σ (.Name x p) = ownOf (σ.lookup x) := by
  show (match σ.lookup x with | some (.lst ds) => some (Slot.lst ds) | some (.dct kvs) => some (Slot.dct kvs) | _ => none) = _
  cases σ.lookup x with
  | none => rfl
  | some sl => cases sl <;> rfl
theorem qa8 (x : Str) (q p : Pos) (args : List Expr) : evStep cx k ev tr kd σ (.Call (.Name x q) args [] p) Q = callW cx k ev kd σ x args Q := rfl
theorem qa7 (o : Expr) (m : Str) (ap p : Pos) (args : List Expr) : evStep cx k ev tr kd σ (.Call (.Attribute o m ap) args [] p) Q = methW ev kd σ o m ap p args Q := rfl
theorem qbc (elt : Expr) (gens : List Comprehension) (sc : Scope) (p : Pos) : evStep cx k ev tr kd σ (.ListComp elt gens sc p) Q = compW ev tr kd σ elt gens sc fun ds => Q (.list ds) := rfl
theorem qcT (x : Expr) (p : Pos) : trStep ev tr kd σ (.UnaryOp .Not x p) B = tr kd σ x fun b => B (!b) := rfl
theorem qcP (op : BoolOp) (vs : List Expr) (p : Pos) : trStep ev tr kd σ (.BoolOp op vs p) B = allW (tr kd σ) op vs B := rfl
theorem qcR (l : Expr) (ops : List CmpOp) (rs : List Expr) (p : Pos) : trStep ev tr kd σ (.Compare l ops rs p) B = (match lastMarks ops rs with
    | true => False
    | false => ev kd σ l fun a => chW (ev kd σ) a ops rs B) := rfl
theorem qcS (x : Str) (p : Pos) : trStep ev tr kd σ (.Name x p) B = ev kd σ (.Name x p) fun d => truthW d B := rfl
theorem qcQ (f : Expr) (args : List Expr) (kws : List Keyword) (p : Pos) : trStep ev tr kd σ (.Call f args kws p) B = ev kd σ (.Call f args kws p) fun d => truthW d B := rfl
theorem qbl (x : Str) (tp p : Pos) (v : Expr) : exStep ev tr own bl kd (.Assign [.Name x tp] v p) σ P = iteB (storable kd x) (assignW ev tr own kd x tp v σ P) False ⟨⟩ := by
  rw [← iteB_eq]; rfl
theorem qbt (es : List Expr) (c : Nat) (o i : Expr) (tp sp p : Pos) : exStep ev tr own bl kd (.Assign [.Tuple es c tp] (.Subscript o i sp) p) σ P = ev kd σ (.Subscript o i sp) fun d => bindT kd (.Tuple es c tp) d σ fun τ => P .next τ := rfl
theorem qbs (o i v : Expr) (tp p : Pos) : exStep ev tr own bl kd (.Assign [.Subscript o i tp] v p) σ P = setW ev kd o i v σ P := rfl
theorem qbm (x : Str) (op : Operator) (tp p : Pos) (v : Expr) : exStep ev tr own bl kd (.AugAssign (.Name x tp) op v p) σ P = augW ev kd x op v σ P := rfl
theorem qbo (e : Expr) (p : Pos) : exStep ev tr own bl kd (.Expr e p) σ P = exprW ev kd e σ P := rfl
theorem qbq (t : Expr) (b o : List Stmt) (p : Pos) : exStep ev tr own bl kd (.If t b o p) σ P = tr kd σ t fun c => iteB c (bl kd b σ P) (bl kd o σ P) ⟨⟩ := by
  show (tr kd σ t fun c => _) = _
  congr 1; funext c; rw [← iteB_eq]; all_goals (cases c <;> rfl)
theorem qbu (t : Expr) (b : List Stmt) (p : Pos) : exStep ev tr own bl kd (.While t b [] p) σ P = whileH tr bl kd t b σ P ⟨⟩ := whileW_h tr bl kd t b σ P
theorem qbp (t it : Expr) (b : List Stmt) (p : Pos) : exStep ev tr own bl kd (.For t it b [] p) σ P = forH ev bl kd t it b σ P ⟨⟩ := forW_h ev bl kd t it b σ P
theorem qbr (e : Expr) (p : Pos) : exStep ev tr own bl kd (.Return (some e) p) σ P = ev kd (frz σ) e fun d => P (.ret d) [] := rfl
theorem qbn (p : Pos) : exStep ev tr own bl kd (.Continue p) σ P = P .cont σ := rfl
end
theorem qbW (ev : Expr → (PyData → Prop) → Prop) (Q : PyData → Prop) : optW ev none Q = Q .none := rfl
theorem qbX (ev : Expr → (PyData → Prop) → Prop) (e : Expr) (Q : PyData → Prop) : optW ev (some e) Q = ev e Q := rfl
theorem qaf (tr : Expr → (Bool → Prop) → Prop) (op : BoolOp) (B : Bool → Prop) : allW tr op [] B = B (op == .And) := rfl
theorem qae (tr : Expr → (Bool → Prop) → Prop) (e : Expr) (es : List Expr) (B : Bool → Prop) : allW tr .And (e :: es) B = tr e fun b => iteB b (allW tr .And es B) (B false) ⟨⟩ := by
  show (tr e fun b => _) = _
  congr 1; funext b; rw [← iteB_eq]; all_goals (cases b <;> rfl)
theorem qag (tr : Expr → (Bool → Prop) → Prop) (e : Expr) (es : List Expr) (B : Bool → Prop) : allW tr .Or (e :: es) B = tr e fun b => iteB b (B true) (allW tr .Or es B) ⟨⟩ := by
  show (tr e fun b => _) = _
  congr 1; funext b; rw [← iteB_eq]; all_goals (cases b <;> rfl)
theorem qaP (ev : Expr → (PyData → Prop) → Prop) (a : PyData) (op : CmpOp) (r : Expr) (B : Bool → Prop) : chW ev a [op] [r] B = ev r fun b => cmpW op a b B := rfl
theorem qaO (ev : Expr → (PyData → Prop) → Prop) (a : PyData) (op op' : CmpOp) (ops : List CmpOp) (r r' : Expr) (rs : List Expr) (B : Bool → Prop) :
    chW ev a (op :: op' :: ops) (r :: r' :: rs) B = ev r fun b => cmpW op a b fun c => iteB c (chW ev b (op' :: ops) (r' :: rs) B) (B false) ⟨⟩ := by
  show (ev r fun b => cmpW op a b fun c => _) = _
  congr 1; funext b; congr 1; funext c; rw [← iteB_eq]; all_goals (cases c <;> rfl)
theorem qbV : (BoolOp.Or == BoolOp.And) = false := rfl
theorem op_aa : (BoolOp.And == BoolOp.And) = true := rfl
theorem qbk (ev : Expr → (PyData → Prop) → Prop) (Q : List PyData → Prop) : evs ev [] Q = Q [] := rfl
theorem qbj (ev : Expr → (PyData → Prop) → Prop) (e : Expr) (es : List Expr) (Q : List PyData → Prop) : evs ev (e :: es) Q = (match isSt e with
    | true => False
    | false => ev e fun d => evs ev es fun ds => Q (d :: ds)) := rfl
theorem qaF (kd : Kd) (σ : Sg) (K : Sg → Prop) : bindAll kd [] [] σ K = K σ := rfl
def updK (x : Str) (s : Slot) (σ : Sg) (K : Sg → Prop) : Prop := K (upd x s σ)
theorem qaE (kd : Kd) (x : Str) (p : Pos) (ts : List Expr) (d : PyData) (ds : List PyData) (σ : Sg) (K : Sg → Prop) (h : storable kd x = true) : bindAll kd (.Name x p :: ts) (d :: ds) σ K = updK x (.val d) σ fun τ => bindAll kd ts ds τ K := by
  show (match storable kd x with | true => bindAll kd ts ds (upd x (.val d) σ) K | false => False) = _
  rw [h]; rfl
theorem qcN (tr : Expr → (Bool → Prop) → Prop) (Q : Bool → Prop) : tests tr [] Q = Q true := rfl
theorem qcO (tr : Expr → (Bool → Prop) → Prop) (c : Expr) (Q : Bool → Prop) : tests tr [c] Q = tr c Q := rfl
def Z : List Str → List Slot → Sg
  | [], _ => []
  | x :: tb, [] => (x, .dead) :: Z tb []
  | x :: tb, v :: vs => (x, v) :: Z tb vs
def gD : List Slot → Nat → Slot
  | [], _ => .dead
  | v :: _, 0 => v
  | _ :: vs, i + 1 => gD vs i
def sD : List Slot → Nat → Slot → List Slot
  | [], 0, s => [s]
  | [], i + 1, s => .dead :: sD [] i s
  | _ :: vs, 0, s => s :: vs
  | v :: vs, i + 1, s => v :: sD vs i s
theorem Z_look : ∀ {tb : List Str} {i : Nat} {x : Str} {vs : List Slot}, tb[i]? = some x → (tb.take i).contains x = false → (Z tb vs).lookup x = some (gD vs i)
  | [], _, _, _, h, _ => by simp at h
  | y :: tb, 0, x, vs, h, _ => by
    cases h
    cases vs <;> simp [Z, gD]
  | y :: tb, i + 1, x, vs, h, hn => by
    simp only [List.take_succ_cons, List.contains_cons, Bool.or_eq_false_iff] at hn
    have ih := fun vs => Z_look (tb := tb) (i := i) (x := x) (vs := vs) (by simpa using h) hn.2
    cases vs with
    | nil => simp only [Z, List.lookup_cons, hn.1, ih]; rfl
    | cons v vs => simp only [Z, List.lookup_cons, hn.1, ih]; rfl
theorem qbB (v : Slot) (vs : List Slot) : gD (v :: vs) 0 = v := rfl
theorem qbA (v : Slot) (vs : List Slot) (i : Nat) : gD (v :: vs) (i + 1) = gD vs i := rfl
theorem qbz (i : Nat) : gD [] i = .dead := by cases i <;> rfl
theorem sD_nz (s : Slot) : sD [] 0 s = [s] := rfl
theorem sD_ns (s : Slot) (i : Nat) : sD [] (i + 1) s = .dead :: sD [] i s := rfl
theorem sD_z (v s : Slot) (vs : List Slot) : sD (v :: vs) 0 s = s :: vs := rfl
theorem sD_s (v s : Slot) (vs : List Slot) (i : Nat) : sD (v :: vs) (i + 1) s = v :: sD vs i s := rfl
theorem Z_none : ∀ {tb : List Str} {x : Str} {vs : List Slot}, tb.contains x = false → (Z tb vs).lookup x = none
  | [], _, _, _ => rfl
  | y :: tb, x, vs, h => by
    simp only [List.contains_cons, Bool.or_eq_false_iff] at h
    have ih := fun vs => Z_none (tb := tb) (x := x) (vs := vs) h.2
    cases vs with
    | nil => simp only [Z, List.lookup_cons, h.1, ih]
    | cons v vs => simp only [Z, List.lookup_cons, h.1, ih]
theorem Z_upd {s : Slot} : ∀ {tb : List Str} {i : Nat} {x : Str} {vs : List Slot}, tb[i]? = some x → (tb.take i).contains x = false → upd x s (Z tb vs) = Z tb (sD vs i s)
  | [], _, _, _, h, _ => by simp at h
  | y :: tb, 0, x, vs, h, _ => by
    cases h
    cases vs <;> simp [Z, sD, upd]
  | y :: tb, i + 1, x, vs, h, hn => by
    simp only [List.take_succ_cons, List.contains_cons, Bool.or_eq_false_iff] at hn
    have ih := fun vs => Z_upd (s := s) (tb := tb) (i := i) (x := x) (vs := vs) (by simpa using h) hn.2
    cases vs with
    | nil => simp only [Z, upd, hn.1, ih, sD]
    | cons v vs => simp only [Z, upd, hn.1, ih, sD]
def sdK : List Slot → Nat → Slot → (List Slot → Prop) → Prop
  | [], 0, s, K => K [s]
  | [], i + 1, s, K => sdK [] i s fun r => K (.dead :: r)
  | _ :: vs, 0, s, K => K (s :: vs)
  | v :: vs, i + 1, s, K => sdK vs i s fun r => K (v :: r)
theorem qck (s : Slot) (K : List Slot → Prop) : sdK [] 0 s K = K [s] := rfl
theorem qcj (s : Slot) (i : Nat) (K : List Slot → Prop) : sdK [] (i + 1) s K = sdK [] i s fun r => K (.dead :: r) := rfl
theorem qcm (v s : Slot) (vs : List Slot) (K : List Slot → Prop) : sdK (v :: vs) 0 s K = K (s :: vs) := rfl
theorem qcl (v s : Slot) (vs : List Slot) (i : Nat) (K : List Slot → Prop) : sdK (v :: vs) (i + 1) s K = sdK vs i s fun r => K (v :: r) := rfl
theorem sdK_eq {s : Slot} : ∀ {vs : List Slot} {i : Nat} {K : List Slot → Prop}, sdK vs i s K = K (sD vs i s)
  | [], 0, _ => rfl
  | [], i + 1, K => sdK_eq (vs := []) (i := i)
  | _ :: _, 0, _ => rfl
  | _ :: vs, i + 1, _ => sdK_eq (vs := vs) (i := i)
theorem Z_updK {s : Slot} {tb : List Str} {i : Nat} {x : Str} {vs : List Slot} {K : Sg → Prop} (h : tb[i]? = some x) (hn : (tb.take i).contains x = false) : updK x s (Z tb vs) K = sdK vs i s fun r => K (Z tb r) := by
  unfold updK
  rw [Z_upd h hn, sdK_eq]
def SubV : List Slot → List Slot → Prop
  | [], _ => True
  | a :: as, [] => a = .dead ∧ SubV as []
  | a :: as, b :: bs => (a = .dead ∨ a = b) ∧ SubV as bs
theorem subV_n {bs : List Slot} : SubV [] bs := by cases bs <;> trivial
theorem subV_d {as bs : List Slot} {b : Slot} (h : SubV as bs) : SubV (.dead :: as) (b :: bs) := ⟨.inl rfl, h⟩
theorem subV_e {as bs : List Slot} {a : Slot} (h : SubV as bs) : SubV (a :: as) (a :: bs) := ⟨.inr rfl, h⟩
theorem subV_q {as bs : List Slot} {a b : Slot} (e : a = b) (h : SubV as bs) : SubV (a :: as) (b :: bs) := ⟨.inr e, h⟩
theorem sub_Z : ∀ {tb : List Str} {as bs : List Slot}, SubV as bs → Sub (Z tb as) (Z tb bs)
  | [], _, _, _ => fun x sl e => by cases e
  | y :: tb, [], bs, _ => fun x sl e => by
    have ih : ∀ bs, Sub (Z tb []) (Z tb bs) := fun bs => sub_Z (subV_n)
    cases bs with
    | nil => exact .inr e
    | cons b bs =>
      simp only [Z, List.lookup_cons] at e ⊢
      cases hxy : x == y with
      | true => rw [hxy] at e; left; cases e; rfl
      | false => rw [hxy] at e; exact ih bs x sl e
  | y :: tb, a :: as, [], h => fun x sl e => by
    have ih := sub_Z (tb := tb) h.2
    simp only [Z, List.lookup_cons] at e ⊢
    cases hxy : x == y with
    | true => rw [hxy] at e; left; cases e; exact h.1
    | false => rw [hxy] at e; exact ih x sl e
  | y :: tb, a :: as, b :: bs, h => fun x sl e => by
    have ih := sub_Z (tb := tb) h.2
    simp only [Z, List.lookup_cons] at e ⊢
    cases hxy : x == y with
    | true =>
      rw [hxy] at e
      cases e
      rcases h.1 with h | h
      · exact .inl h
      · exact .inr (by rw [h])
    | false => rw [hxy] at e; exact ih x sl e
theorem sub_zip : ∀ {xs ys : List Str} {vs : List Slot}, vs.length = xs.length → Sub (Z (xs ++ ys) vs) (xs.zip vs)
  | [], ys, [], _ => fun x sl e => by
    left
    induction ys with
    | nil => cases e
    | cons y ys ih =>
      simp only [List.nil_append, Z, List.lookup_cons] at e
      cases hxy : x == y with
      | true => rw [hxy] at e; cases e; rfl
      | false => rw [hxy] at e; exact ih e
  | y :: xs, ys, v :: vs, h => fun x sl e => by
    have ih := sub_zip (xs := xs) (ys := ys) (vs := vs) (by simpa using h)
    simp only [List.cons_append, Z, List.lookup_cons, List.zip_cons_cons] at e ⊢
    cases hxy : x == y with
    | true => rw [hxy] at e; exact .inr e
    | false => rw [hxy] at e; exact ih x sl e
theorem qby {x : Str} : ∀ {σ : Sg}, (frz σ).lookup x = (σ.lookup x).map frzS
  | [] => rfl
  | (y, s) :: r => by
    simp only [frz, List.map_cons, List.lookup_cons]
    cases x == y with
    | true => rfl
    | false => exact qby (σ := r)
def kdOf (p : Program) (i : Nat) : Kd := match recAt p i with
  | some d => kdS d.scope
  | none => fun _ => none
theorem fn_at2 {cx : Cx} (hS : SortOk cx) {p : Program} (hp : cx.p = p) (i : Nat) {d : DefRec} (hd : recAt p i = some d) (h2 : p.theDef d.name = some (d.params, d.body, d.scope)) (h3 : d.params.defaults = [])
    (h4 : kwLiteralsOf? d.params.kwonlyargs d.params.kw_defaults = some []) {own : List Str} {k n m : Nat} {xs : List Str} {ds : List PyData} {r : PyData}
    (hbind : ∀ (pm code doc : Value) (vs : List Value), vs.length = xs.length → bindArgs (Calls.docDef d.name d.params d.body d.scope pm code doc) ⟨vs, []⟩ = pure (xs.zip vs))
    (hlen : xs.length = ds.length) (hok : fnOk d.scope xs = true) (hnd : xs.Nodup) {tb ys : List Str} (htb : tb = xs ++ ys)
    (h : blStep (ExB cx k n own m) (kdOf p i) d.body (Z tb (ds.map Slot.val)) (endK r)) : CallsTo cx (k + 1) d.name ds r := by
  have hk : kdOf p i = kdS d.scope := by unfold kdOf; rw [hd]
  rw [hk, ExB_def] at h
  refine fn_ok2 hS (hp ▸ mem_recs hd h2 h3 h4) hbind hlen hok hnd (σ := Z tb (ds.map Slot.val)) ?_ h
  rw [htb]
  exact sub_zip (by rw [List.length_map, hlen])
theorem qbH {d : PyData} {ds : List PyData} {Q : PyData → Prop} : itemW (.tuple (d :: ds)) (.int 0) Q = Q d := by
  unfold itemW; simp
theorem qbI {d e : PyData} {ds : List PyData} {Q : PyData → Prop} : itemW (.tuple (d :: e :: ds)) (.int 1) Q = Q e := by
  unfold itemW; simp
theorem qbJ {d e f : PyData} {ds : List PyData} {Q : PyData → Prop} : itemW (.tuple (d :: e :: f :: ds)) (.int 2) Q = Q f := by
  unfold itemW; simp
theorem qbK {d e f g : PyData} {ds : List PyData} {Q : PyData → Prop} : itemW (.tuple (d :: e :: f :: g :: ds)) (.int 3) Q = Q g := by
  unfold itemW; simp
theorem qaI (a b : Nat) : Nat.ble a b = decide (a ≤ b) := by
  rw [Bool.eq_iff_iff, decide_eq_true_eq, Nat.ble_eq]
inductive Op where
  | add | sub | mul | ior | xor | addi | lsli | andi | mov | movi | geth | ldr | ldb | str | stb
  deriving DecidableEq
def Op.nm : Op → String
  | .add => "ADD" | .sub => "SUB" | .mul => "MUL" | .ior => "IOR" | .xor => "XOR" | .addi => "ADDI" | .lsli => "LSLI" | .andi => "ANDI"
  | .mov => "MOV" | .movi => "MOVI" | .geth => "GETH" | .ldr => "LDR" | .ldb => "LDB" | .str => "STR" | .stb => "STB"
def Op.isLd : Op → Bool
  | .ldr => true | .ldb => true | _ => false
def Op.isSt : Op → Bool
  | .str => true | .stb => true | _ => false
def Op.isMem (o : Op) : Bool := o.isLd || o.isSt
def Op.base : Op → String
  | .add => "ADD" | .sub => "SUB" | .mul => "MUL" | .ior => "IOR" | .xor => "XOR" | .addi => "ADD" | .lsli => "LSL" | .andi => "AND" | _ => ""
structure Row where
  op : Op
  a : Int
  b : Int
  c : Int
def rowD (r : Row) : PyData := .tuple [.str (Str.ofString r.op.nm), .int r.a, .int r.b, .int r.c]
theorem qcf {r : Row} {Q : PyData → Prop} : itemW (rowD r) (.int 0) Q = Q (.str (Str.ofString r.op.nm)) := qbH
theorem qcg {r : Row} {Q : PyData → Prop} : itemW (rowD r) (.int 1) Q = Q (.int r.a) := qbI
theorem qch {r : Row} {Q : PyData → Prop} : itemW (rowD r) (.int 2) Q = Q (.int r.b) := qbJ
theorem qci {r : Row} {Q : PyData → Prop} : itemW (rowD r) (.int 3) Q = Q (.int r.c) := qbK
theorem one_small' : (Int.natAbs 1 < 18446744073709551616) = True := by simp
theorem one_small : ((1 : Int).natAbs < 2 ^ 64) = True := by simp
theorem strOk_of (a : String) : PyData.strOk (Str.ofString a) = true := by
  unfold PyData.strOk
  rw [Str.ofString_eq_toList]
  rw [Array.all_eq_true']
  intro x hx
  simp only [List.mem_toArray, List.mem_map] at hx
  obtain ⟨c, _, rfl⟩ := hx
  have := c.valid
  simp only [decide_eq_true_eq]
  rcases this with h | h
  · have : c.toNat < 0xd800 := h
    omega
  · exact h.2
theorem inOk_sn {x : String} : inOk (.str (Str.ofString x)) [] = True := by
  unfold inOk
  simp [PyData.canLayAll0, PyData.canLay0, PyData.depth, strOk_of]
theorem inOk_sc {x y : String} {ds : List PyData} : inOk (.str (Str.ofString x)) (.str (Str.ofString y) :: ds) = inOk (.str (Str.ofString x)) ds := by
  unfold inOk
  simp [PyData.canLayAll0, PyData.canLay0, PyData.depth, strOk_of]
theorem gint_of {cx : Cx} {x : Str} {i : Int} (hx : (x == ("__debug__" : Str)) = false) (h : valOf cx.p x = some (.int i)) : GInt cx x i := by
  obtain ⟨v, hv, hr⟩ := cx.top.const x _ h
  refine ⟨hx, ?_⟩
  have := hr cx.hB
  cases this
  exact ⟨_, hv⟩
def plainE : Expr → Bool
  | .SetComp .. => false
  | .DictComp .. => false
  | .ListComp .. => false
  | _ => true
structure swapK (c : Bool) (P : Prop) (t : Tag P) : Prop where
  out : c = true ∧ P
theorem swapK_of {c : Bool} {P : Prop} {t : Tag P} (h : c = true) (p : P) : swapK c P t := ⟨h, p⟩
def setV (ev : EvF) (kd : Kd) (x : Str) (i : Expr) (σ : Sg) (Q : PF) (d : PyData) (o : Option Slot) : Prop := match o with
      | some (.lst ds) => ev kd σ i fun j => (match j with
        | .int kk => 0 ≤ kk ∧ kk < (ds.length : Int) ∧ ds.length ≤ 1000000 ∧ Q .next (upd x (.lst (ds.set kk.toNat d)) σ)
        | _ => False)
      | some (.dct kvs) => ev kd σ i fun j => (match d, j with
        | .int w, .int kk => kvs.length ≤ 1000000 ∧ Q .next (upd x (.dct (putKV kvs kk w)) σ)
        | _, _ => False)
      | _ => False
def augV (ev : EvF) (kd : Kd) (x : Str) (v : Expr) (σ : Sg) (Q : PF) (o : Option Slot) : Prop := match o with
    | some (.val (.int a)) => ev kd σ v fun d => (match d with | .int b => Q .next (upd x (.val (.int (a + b))) σ) | _ => False)
    | some (.lst ds) => ev kd σ v fun d => (match d with | .list es => ds.length ≤ 1000000 ∧ es.length ≤ 1000000 ∧ Q .next (upd x (.val (.list (ds ++ es))) σ) | _ => False)
    | _ => False
def appV (ev : EvF) (kd : Kd) (x : Str) (a : Expr) (σ : Sg) (Q : PF) (o : Option Slot) : Prop := match o, isSt a with
        | some (.lst ds), false => ev kd σ a fun d => ds.length ≤ 1000000 ∧ Q .next (upd x (.lst (ds ++ [d])) σ)
        | _, _ => False
def getV (ev : EvF) (kd : Kd) (σ : Sg) (e f : Expr) (Q : PyData → Prop) (o : Option Slot) : Prop := match o with
    | some (.dct kvs) => (match isSt e, isSt f with
      | false, false => ev kd σ e fun a => ev kd σ f fun b => (match a, b with | .int i, .int j => Q (.int ((getKV kvs i).getD j)) | _, _ => False)
      | _, _ => False)
    | _ => False
def itV (ev : EvF) (kd : Kd) (σ : Sg) (x : Str) (p : Pos) (K : List PyData → Prop) (o : Option Slot) : Prop := match o with
  | some (.dct kvs) => kvs.length ≤ 1000000 ∧ K (kvs.map fun p => .int p.1)
  | some _ => False
  | none => ev kd σ (.Name x p) fun d => (match d with | .list ds => ds.length ≤ 1000000 ∧ K ds | _ => False)
section
variable (cx : Cx) (k : Nat) (own : List Str) (ev : EvF) (tr : TrF) (bl : BlF) (ex : ExF) (kd : Kd) (σ τ : Sg) (Q : PyData → Prop) (B : Bool → Prop) (P : PF) (K : List PyData → Prop)
theorem qa1 (i : Int) : cstW (.int i) Q = Q (.int i) := rfl
theorem qa3 (x : Str) : cstW (.str x) Q = Q (.str x) := rfl
theorem qa0 (b : Bool) : cstW (.bool b) Q = Q (.bool b) := rfl
theorem qa2 : cstW .none Q = Q .none := rfl
theorem qar (x y : Int) : binW .Add (.int x) (.int y) Q = Q (.int (x + y)) := rfl
theorem qaA (x y : Int) : binW .Sub (.int x) (.int y) Q = Q (.int (x - y)) := rfl
theorem qaw (x y : Int) : binW .Mult (.int x) (.int y) Q = (x.natAbs < 2 ^ 64 ∧ y.natAbs < 2 ^ 64 ∧ Q (.int (x * y))) := rfl
theorem qav (x y : Int) : binW .Mod (.int x) (.int y) Q = (y ≠ 0 ∧ Q (.int (x.fmod y))) := rfl
theorem qau (x y : Int) : binW .FloorDiv (.int x) (.int y) Q = (y ≠ 0 ∧ y.natAbs < 1073741824 ∧ Q (.int (x.fdiv y))) := rfl
theorem qay (x y : Int) : binW .LShift (.int x) (.int y) Q = (0 ≤ y ∧ y ≤ 1000000 ∧ x.natAbs < 2 ^ 64 ∧ Q (.int (x * 2 ^ y.toNat))) := rfl
theorem qaz (x y : Int) : binW .RShift (.int x) (.int y) Q = (0 ≤ y ∧ Q (.int (x.fdiv (2 ^ y.toNat)))) := rfl
theorem qas (x y : Int) : binW .BitAnd (.int x) (.int y) Q = Q (.int (Builtin.bitAnd x y)) := rfl
theorem qax (x y : Int) : binW .BitOr (.int x) (.int y) Q = Q (.int (Builtin.bitOr x y)) := rfl
theorem qaB (x y : Int) : binW .BitXor (.int x) (.int y) Q = Q (.int (Builtin.bitXor x y)) := rfl
theorem qat (x y : List PyData) : binW .Add (.list x) (.list y) Q = (x.length + y.length ≤ 1000000 ∧ Q (.list (x ++ y))) := rfl
theorem qcV (i : Int) : unW .USub (.int i) Q = Q (.int (-i)) := rfl
theorem qcU (b : Bool) : truthW (.bool b) B = B b := rfl
theorem qaQ (x y : Int) : cmpW .Eq (.int x) (.int y) B = B (x == y) := rfl
theorem qaR (x y : Str) : cmpW .Eq (.str x) (.str y) B = B (x == y) := rfl
theorem qaW (x y : Int) : cmpW .NotEq (.int x) (.int y) B = B (x != y) := rfl
theorem qaX (x y : Str) : cmpW .NotEq (.str x) (.str y) B = B (x != y) := rfl
theorem qaV (x y : Int) : cmpW .Lt (.int x) (.int y) B = B (decide (x < y)) := rfl
theorem qaU (x y : Int) : cmpW .LtE (.int x) (.int y) B = B (decide (x ≤ y)) := rfl
theorem qaS (a : PyData) (ds : List PyData) : cmpW .In a (.list ds) B = (inOk a ds ∧ B (ds.any fun y => y.eqv a)) := rfl
theorem qaT (a : PyData) (ds : List PyData) : cmpW .In a (.tuple ds) B = (inOk a ds ∧ B (ds.any fun y => y.eqv a)) := rfl
theorem qcF (x : Str) (p : Pos) : isSt (.Name x p) = false := id rfl
theorem qcC (c : Const) (u : Nat) (p : Pos) : isSt (.Constant c u p) = false := id rfl
theorem qcz (l r : Expr) (op : Operator) (p : Pos) : isSt (.BinOp l op r p) = false := id rfl
theorem qcG (l r : Expr) (p : Pos) : isSt (.Subscript l r p) = false := id rfl
theorem qcA (f : Expr) (a : List Expr) (kw : List Keyword) (p : Pos) : isSt (.Call f a kw p) = false := id rfl
theorem qcD (a b c : Expr) (p : Pos) : isSt (.IfExp a b c p) = false := id rfl
theorem qcE (e : Expr) (g : List Comprehension) (s : Scope) (p : Pos) : isSt (.ListComp e g s p) = false := id rfl
theorem qcH (e : List Expr) (u : Nat) (p : Pos) : isSt (.Tuple e u p) = false := id rfl
theorem qcB (l : Expr) (ops : List CmpOp) (rs : List Expr) (p : Pos) : isSt (.Compare l ops rs p) = false := id rfl
theorem qb5 (l r : Expr) (p : Pos) : ownE σ (.Subscript l r p) = none := rfl
theorem qb3 (l : List Expr) (p : Pos) : ownE σ (.List l p) = none := rfl
theorem qb2 (f : Expr) (a : List Expr) (kw : List Keyword) (p : Pos) : ownE σ (.Call f a kw p) = none := rfl
theorem qb1 (d : PyData) : ownOf (some (.val d)) = none := rfl
theorem qbZ (d : List PyData) : ownOf (some (.lst d)) = some (.lst d) := rfl
theorem qbY (d : List (Int × Int)) : ownOf (some (.dct d)) = some (.dct d) := rfl
theorem qb0 : ownOf none = none := rfl
theorem qcx (a b c : Option Expr) (p : Pos) : sliceOf? (.Slice a b c p) = some (a, b, c) := rfl
theorem qcv (c : Const) (u : Nat) (p : Pos) : sliceOf? (.Constant c u p) = none := rfl
theorem qcw (x : Str) (p : Pos) : sliceOf? (.Name x p) = none := rfl
theorem qcu (l r : Expr) (op : Operator) (p : Pos) : sliceOf? (.BinOp l op r p) = none := rfl
theorem qcy (op : UnaryOp) (x : Expr) (p : Pos) : sliceOf? (.UnaryOp op x p) = none := rfl
theorem qb9 (c : Const) (u : Nat) (p : Pos) : plainE (.Constant c u p) = true := id rfl
theorem qcb (x : Str) (p : Pos) : plainE (.Name x p) = true := id rfl
theorem qb6 (l r : Expr) (op : Operator) (p : Pos) : plainE (.BinOp l op r p) = true := id rfl
theorem qce (op : UnaryOp) (x : Expr) (p : Pos) : plainE (.UnaryOp op x p) = true := id rfl
theorem qcc (l r : Expr) (p : Pos) : plainE (.Subscript l r p) = true := id rfl
theorem qb8 (f : Expr) (a : List Expr) (kw : List Keyword) (p : Pos) : plainE (.Call f a kw p) = true := id rfl
theorem qca (a b c : Expr) (p : Pos) : plainE (.IfExp a b c p) = true := id rfl
theorem qcd (e : List Expr) (u : Nat) (p : Pos) : plainE (.Tuple e u p) = true := id rfl
theorem qb7 (op : BoolOp) (e : List Expr) (p : Pos) : plainE (.BoolOp op e p) = true := id rfl
theorem qaY (x : Str) : ([] : List Str).contains x = false := id rfl
theorem qan (x : Str) (tp : Pos) (v : Expr) (h : plainE v = true) (ho : own.contains x = false) : assignW ev tr own kd x tp v σ P = ev kd σ v fun d => updK x (.val d) σ (P .next) := by
  unfold assignW
  rw [ho]
  cases v <;> first | rfl | cases h
theorem qai (x : Str) (tp cp : Pos) (elt : Expr) (gens : List Comprehension) (scope : Scope) (ho : own.contains x = false) : assignW ev tr own kd x tp (.ListComp elt gens scope cp) σ P = swapK (swapOk kd x tp cp scope) (compH ev tr kd σ elt gens scope (fun ds => updK x (.val (.list ds)) σ (P .next)) ⟨⟩) ⟨⟩ := by
  rw [← qaZ]
  refine propext ⟨fun h => ?_, fun h => ?_⟩
  · unfold assignW at h
    rw [ho] at h
    dsimp only [compOf?] at h
    cases hs : swapOk kd x tp cp scope with
    | true => rw [hs] at h; exact ⟨rfl, h⟩
    | false => rw [hs] at h; exact h.elim
  · unfold assignW
    rw [ho]
    dsimp only [compOf?]
    rw [h.out.1]
    exact h.out.2
theorem qaj (x : Str) (tp cp : Pos) (elt : Expr) (gens : List Comprehension) (scope : Scope) (ho : own.contains x = true) : assignW ev tr own kd x tp (.ListComp elt gens scope cp) σ P = swapK (swapOk kd x tp cp scope) (compH ev tr kd σ elt gens scope (fun ds => updK x (.lst ds) σ (P .next)) ⟨⟩) ⟨⟩ := by
  rw [← qaZ]
  refine propext ⟨fun h => ?_, fun h => ?_⟩
  · unfold assignW at h
    rw [ho] at h
    dsimp only [compOf?] at h
    cases hs : swapOk kd x tp cp scope with
    | true => rw [hs] at h; exact ⟨rfl, h⟩
    | false => rw [hs] at h; exact h.elim
  · unfold assignW
    rw [ho]
    dsimp only [compOf?]
    rw [h.out.1]
    exact h.out.2
theorem qam (x : Str) (tp p : Pos) (ho : own.contains x = true) : assignW ev tr own kd x tp (.List [] p) σ P = updK x (.lst []) σ (P .next) := by
  unfold assignW; rw [ho]; rfl
theorem qak (x : Str) (tp p : Pos) (ho : own.contains x = true) : assignW ev tr own kd x tp (.Dict [] [] p) σ P = updK x (.dct []) σ (P .next) := by
  unfold assignW; rw [ho]; rfl
theorem qal (x : Str) (tp p q : Pos) (e : Expr) (ho : own.contains x = true) : assignW ev tr own kd x tp (.Call (.Name "list" q) [e] [] p) σ P = (match kd "list", isSt e with
                  | some .globalImplicit, false => ev kd σ e fun d => (match d with | .list ds => ds.length ≤ 1000000 ∧ updK x (.lst ds) σ (P .next) | _ => False)
                  | _, _ => False) := by
  unfold assignW; rw [ho]
  dsimp only [compOf?, othComp, emptyL, emptyD, callOf?, nameOf?]
  rw [if_pos (by rw [beq_self_eq_true])]
  cases kd "list" with
  | none => rfl
  | some nk => cases nk <;> first | rfl | (cases isSt e <;> rfl)
theorem qct (x : Str) (q : Pos) (i v : Expr) (h : plainE v = true) : setW ev kd (.Name x q) i v σ P = ev kd σ v fun d => setV ev kd x i σ P d (σ.lookup x) := by
  have e : othComp v = false := by cases v <;> first | rfl | cases h
  unfold setW
  rw [e]
  refine congrArg (ev kd σ v) (funext fun d => ?_)
  unfold setV
  cases σ.lookup x with
  | none => rfl
  | some sl => cases sl <;> rfl
theorem qcs (x : Str) (i : Expr) (d : PyData) (ds : List PyData) : setV ev kd x i σ P d (some (.lst ds)) = ev kd σ i fun j => (match j with
        | .int kk => 0 ≤ kk ∧ kk < (ds.length : Int) ∧ ds.length ≤ 1000000 ∧ updK x (.lst (ds.set kk.toNat d)) σ (P .next)
        | _ => False) := rfl
theorem qcr (x : Str) (i : Expr) (w : Int) (kvs : List (Int × Int)) : setV ev kd x i σ P (.int w) (some (.dct kvs)) = ev kd σ i fun j => (match j with
        | .int kk => kvs.length ≤ 1000000 ∧ updK x (.dct (putKV kvs kk w)) σ (P .next)
        | _ => False) := by
  show (ev kd σ i fun j => _) = _
  congr 1; funext j; cases j <;> rfl
theorem qaq (x : Str) (v : Expr) (h : storable kd x = true) : augW ev kd x .Add v σ P = augV ev kd x v σ P (σ.lookup x) := by
  unfold augW augV
  rw [h]
  all_goals (cases σ.lookup x with
    | none => rfl
    | some sl => cases sl with
      | val d => cases d <;> rfl
      | _ => rfl)
theorem qao (x : Str) (v : Expr) (a : Int) : augV ev kd x v σ P (some (.val (.int a))) = ev kd σ v fun d => (match d with | .int b => updK x (.val (.int (a + b))) σ (P .next) | _ => False) := rfl
theorem qap (x : Str) (v : Expr) (ds : List PyData) : augV ev kd x v σ P (some (.lst ds)) = ev kd σ v fun d => (match d with | .list es => ds.length ≤ 1000000 ∧ es.length ≤ 1000000 ∧ updK x (.val (.list (ds ++ es))) σ (P .next) | _ => False) := rfl
theorem qbv (x : Str) (q : Pos) (l a1 a2 a4 p2 p3 p4 : Nat) (a : Expr) : exprW ev kd (.Call (.Attribute (.Name x q) "append" ⟨a1, a2, l, a4⟩) [a] [] ⟨l, p2, p3, p4⟩) σ P = appV ev kd x a σ P (σ.lookup x) := by
  unfold exprW appV
  dsimp only [callOf?, attrOf?, nameOf?]
  rw [if_pos (by rw [beq_self_eq_true, beq_self_eq_true]; rfl)]
  all_goals (cases σ.lookup x with
    | none => rfl
    | some sl => cases sl <;> first | rfl | (cases isSt a <;> rfl))
theorem qah (x : Str) (a : Expr) (ds : List PyData) : appV ev kd x a σ P (some (.lst ds)) = (match isSt a with | true => False | false => ev kd σ a fun d => ds.length ≤ 1000000 ∧ updK x (.lst (ds ++ [d])) σ (P .next)) := by
  unfold appV
  cases isSt a <;> rfl
theorem qbS (x : Str) (q : Pos) (l a1 a2 a4 p2 p3 p4 : Nat) (e f : Expr) : methW ev kd σ (.Name x q) "get" ⟨a1, a2, l, a4⟩ ⟨l, p2, p3, p4⟩ [e, f] Q = getV ev kd σ e f Q (ownOf (σ.lookup x)) := by
  unfold methW getV
  rw [if_pos (by rw [beq_self_eq_true, beq_self_eq_true]; rfl), qb4]
  cases ownOf (σ.lookup x) with
  | none => rfl
  | some sl => cases sl <;> rfl
theorem qbC (e f : Expr) (kvs : List (Int × Int)) : getV ev kd σ e f Q (some (.dct kvs)) = (match isSt e, isSt f with
      | false, false => ev kd σ e fun a => ev kd σ f fun b => (match a, b with | .int i, .int j => Q (.int ((getKV kvs i).getD j)) | _, _ => False)
      | _, _ => False) := rfl
theorem qaD (ts : List Expr) (c : Nat) (p : Pos) (ds : List PyData) (H : Sg → Prop) : bindT kd (.Tuple ts c p) (.tuple ds) σ H = bindAll kd ts ds σ H := rfl
theorem qaC (x : Str) (p : Pos) (d : PyData) (H : Sg → Prop) (h : storable kd x = true) : bindT kd (.Name x p) d σ H = updK x (.val d) σ H := by
  show (match storable kd x with | true => H (upd x (.val d) σ) | false => False) = _
  rw [h]; rfl
theorem qbx (d : PyData) : frzS (.val d) = .val d := rfl
theorem qbw (d : List PyData) : frzS (.lst d) = .val (.list d) := rfl
theorem qcW (g : Str) (args : List Expr) (h : kd g = some .globalImplicit) : userW cx k ev kd σ g args Q = (IsFn cx g ∧ evs (ev kd σ) args fun ds => useC cx k g ds Q ⟨⟩) := by
  unfold userW; rw [h]
theorem qbT (x : Str) (h : kd x = some .globalImplicit) : nameV cx kd x Q none = useG cx x Q ⟨⟩ := by
  unfold nameV; rw [h]
theorem qbM (q p : Pos) (e : Expr) (h : kd "range" = some .globalImplicit) (hs : isSt e = false) : iterW (ev kd σ) kd σ (.Call (.Name "range" q) [e] [] p) K = ev kd σ e fun d => (match d with | .int n => -1000000 ≤ n ∧ n ≤ 1000000 ∧ K (intsUp 0 n) | _ => False) := by
  unfold iterW
  dsimp only [qb2, rangeOf?, nameOf?]
  rw [if_pos (by rw [beq_self_eq_true])]
  dsimp only
  rw [h, hs]
  all_goals rfl
theorem qbN (q p : Pos) (e f : Expr) (h : kd "range" = some .globalImplicit) (hs : isSt e = false) (hf : isSt f = false) : iterW (ev kd σ) kd σ (.Call (.Name "range" q) [e, f] [] p) K = ev kd σ e fun c => ev kd σ f fun d => (match c, d with | .int a, .int b => -1000000 ≤ a ∧ a ≤ 1000000 ∧ b ≤ 1000000 ∧ -1000000 ≤ b ∧ K (intsUp a b) | _, _ => False) := by
  unfold iterW
  dsimp only [qb2, rangeOf?, nameOf?]
  rw [if_pos (by rw [beq_self_eq_true])]
  dsimp only
  rw [h, hs, hf]
  all_goals rfl
theorem qbL (x : Str) (p : Pos) : iterW (ev kd σ) kd σ (.Name x p) K = itV ev kd σ x p K (ownOf (σ.lookup x)) := by
  unfold iterW itV
  rw [qb4]
  cases ownOf (σ.lookup x) with
  | none => rfl
  | some sl => cases sl <;> rfl
theorem qbD (x : Str) (p : Pos) (kvs : List (Int × Int)) : itV ev kd σ x p K (some (.dct kvs)) = (kvs.length ≤ 1000000 ∧ K (kvs.map fun p => .int p.1)) := rfl
theorem qbE (x : Str) (p : Pos) : itV ev kd σ x p K none = ev kd σ (.Name x p) fun d => (match d with | .list ds => ds.length ≤ 1000000 ∧ K ds | _ => False) := rfl
theorem qbO (l r : Expr) (p : Pos) : iterW (ev kd σ) kd σ (.Subscript l r p) K = ev kd σ (.Subscript l r p) fun d => (match d with | .list ds => ds.length ≤ 1000000 ∧ K ds | _ => False) := rfl
end
def Sm (n : Nat) (d : PyData) : Prop := d.canLay0 = true ∧ d.depth ≤ n
def SmAll (n : Nat) (ds : List PyData) : Prop := PyData.canLayAll0 ds = true ∧ PyData.depthAll ds ≤ n
theorem smAll_cons {n : Nat} {d : PyData} {ds : List PyData} (h : Sm n d) (h' : SmAll n ds) : SmAll n (d :: ds) := by
  refine ⟨?_, ?_⟩
  · rw [PyData.canLayAll0, h.1, h'.1]; rfl
  · rw [PyData.depthAll]; exact Nat.max_le.mpr ⟨h.2, h'.2⟩
theorem smAll_nil {n : Nat} : SmAll n [] := ⟨by rw [PyData.canLayAll0], by rw [PyData.depthAll]; exact Nat.zero_le _⟩
theorem smAll_map {α : Type} {n : Nat} {f : α → PyData} : ∀ (l : List α), (∀ a ∈ l, Sm n (f a)) → SmAll n (l.map f)
  | [], _ => smAll_nil
  | a :: l, h => smAll_cons (h a List.mem_cons_self) (smAll_map l fun b hb => h b (List.mem_cons_of_mem _ hb))
theorem Sm.int {n : Nat} (i : Int) : Sm n (.int i) := ⟨by rw [PyData.canLay0], by rw [PyData.depth]; exact Nat.zero_le _⟩
theorem Sm.none {n : Nat} : Sm n .none := ⟨by rw [PyData.canLay0], by rw [PyData.depth]; exact Nat.zero_le _⟩
theorem Sm.str {n : Nat} (x : String) : Sm n (.str (Str.ofString x)) := ⟨by rw [PyData.canLay0]; exact strOk_of x, by rw [PyData.depth]; exact Nat.zero_le _⟩
theorem Sm.tup {n : Nat} {ds : List PyData} (h : SmAll n ds) : Sm (n + 1) (.tuple ds) := ⟨by rw [PyData.canLay0]; exact h.1, by rw [PyData.depth]; exact Nat.add_le_add_right h.2 1⟩
theorem Sm.list {n : Nat} {ds : List PyData} (h : SmAll n ds) : Sm (n + 1) (.list ds) := ⟨by rw [PyData.canLay0]; exact h.1, by rw [PyData.depth]; exact Nat.add_le_add_right h.2 1⟩
theorem Sm.le {m n : Nat} {d : PyData} (h : Sm m d) (hmn : m ≤ n) : Sm n d := ⟨h.1, Nat.le_trans h.2 hmn⟩
theorem sm_pair (p : Int × Int) : Sm 1 (pairD p) := .tup (smAll_cons (.int _) (smAll_cons (.int _) smAll_nil))
def LastOk (d : PyData) : Prop := d = .none ∨ ∃ (s : String) (i : Int), d = .tuple [.str (Str.ofString s), .int i]
theorem sm_last {d : PyData} (h : LastOk d) : Sm 1 d := by
  rcases h with rfl | ⟨s, i, rfl⟩
  · exact .none
  · exact .tup (smAll_cons (.str _) (smAll_cons (.int _) smAll_nil))
def compound : PyData → Bool
  | .int _ => false
  | .str _ => false
  | _ => true
theorem ne_same {d : PyData} {Q : Bool → Prop} (h : Sm 64 d) (hd : compound d = true) : cmpW .NotEq d d Q = Q false := by
  have hs : SeqAt.shaped d = true := by unfold SeqAt.shaped; rw [h.1, Bool.true_and]; exact decide_eq_true h.2
  have he := SeqAt.eqv_refl d h.1
  cases d with
  | int i => cases hd
  | str x => cases hd
  | _ => simp only [cmpW, hs, he, Bool.not_true, true_and]
theorem ne_pairs {ps : List (Int × Int)} {Q : Bool → Prop} : cmpW .NotEq (.list (ps.map pairD)) (.list (ps.map pairD)) Q = Q false :=
  ne_same ((Sm.list (n := 1) (smAll_map _ fun a _ => sm_pair a)).le (by decide)) rfl
theorem ne_nil {Q : Bool → Prop} : cmpW .NotEq (.list []) (.list []) Q = Q false := ne_pairs (ps := [])
theorem eqv_pair (p q : Int × Int) : PyData.eqv (pairD p) (pairD q) = decide (p = q) := by
  obtain ⟨a, b⟩ := p
  obtain ⟨c, d⟩ := q
  unfold pairD
  simp only [PyData.eqv, PyData.eqvAll, Bool.and_true]
  rw [Bool.eq_iff_iff]
  simp
theorem notin_pairs {p : Int × Int} {ps : List (Int × Int)} {Q : Bool → Prop} : cmpW .NotIn (.tuple [.int p.1, .int p.2]) (.list (ps.map pairD)) Q = Q (!decide (p ∈ ps)) := by
  have h1 : inOk (pairD p) (ps.map pairD) := ⟨(smAll_map (n := 1) _ fun a _ => sm_pair a).1, (sm_pair p).1, Nat.le_trans (sm_pair p).2 (by decide)⟩
  have h2 : ((ps.map pairD).any fun y => y.eqv (pairD p)) = decide (p ∈ ps) := by
    rw [Bool.eq_iff_iff, List.any_map, List.any_eq_true, decide_eq_true_eq]
    constructor
    · rintro ⟨q, hq, he⟩
      simp only [Function.comp, eqv_pair, decide_eq_true_eq] at he
      exact he ▸ hq
    · intro hq
      exact ⟨p, hq, by simp only [Function.comp, eqv_pair, decide_true]⟩
  have h3 : PyData.tuple [.int p.1, .int p.2] = pairD p := rfl
  rw [h3]
  show (inOk (pairD p) (ps.map pairD) ∧ Q (!((ps.map pairD).any fun y => y.eqv (pairD p)))) = _
  rw [h2]
  exact propext ⟨fun h => h.2, fun h => ⟨h1, h⟩⟩
theorem notin2 {a b : Int} {ps : List (Int × Int)} {Q : Bool → Prop} : cmpW .NotIn (.tuple [.int a, .int b]) (.list (ps.map pairD)) Q = Q (!decide ((a, b) ∈ ps)) := notin_pairs (p := (a, b))
theorem eq_int {a b : Int} {Q : Bool → Prop} : cmpW .Eq (.int a) (.int b) Q = Q (a == b) := rfl
theorem in_st {o : Op} {Q : Bool → Prop} : cmpW .In (.str (Str.ofString o.nm)) (.list [.str (Str.ofString "STR"), .str (Str.ofString "STB")]) Q = Q o.isSt := by
  have h1 : inOk (.str (Str.ofString o.nm)) [.str (Str.ofString "STR"), .str (Str.ofString "STB")] :=
    ⟨(smAll_cons (n := 0) (.str _) (smAll_cons (.str _) smAll_nil)).1, (Sm.str (n := 0) _).1, Nat.le_trans (Sm.str (n := 0) _).2 (by decide)⟩
  have h2 : ([PyData.str (Str.ofString "STR"), .str (Str.ofString "STB")].any fun y => y.eqv (.str (Str.ofString o.nm))) = o.isSt := by
    simp only [List.any_cons, List.any_nil, PyData.eqv, qcI]
    cases o <;> decide
  show (inOk _ _ ∧ Q _) = _
  rw [h2]
  exact propext ⟨fun h => h.2, fun h => ⟨h1, h⟩⟩
theorem notin_st {o : Op} {Q : Bool → Prop} : cmpW .NotIn (.str (Str.ofString o.nm)) (.list [.str (Str.ofString "STR"), .str (Str.ofString "STB")]) Q = Q (!o.isSt) := by
  have h := in_st (o := o) (Q := fun b => Q (!b))
  exact h
theorem strs_in {x : String} {l : List String} : (inOk (.str (Str.ofString x)) (l.map fun s => PyData.str (Str.ofString s))) ∧ ((l.map fun s => PyData.str (Str.ofString s)).any fun y => y.eqv (.str (Str.ofString x))) = l.contains x := by
  refine ⟨⟨(smAll_map (n := 0) _ fun a _ => .str a).1, (Sm.str (n := 0) _).1, Nat.le_trans (Sm.str (n := 0) _).2 (by decide)⟩, ?_⟩
  rw [Bool.eq_iff_iff, List.any_map, List.any_eq_true, List.contains_iff_mem]
  constructor
  · rintro ⟨q, hq, he⟩
    simp only [Function.comp, PyData.eqv, qcI, beq_iff_eq] at he
    exact he ▸ hq
  · intro hq
    exact ⟨x, hq, by simp [Function.comp, PyData.eqv]⟩
theorem in_strs {x : String} {l : List String} {B : Bool → Prop} : cmpW .In (.str (Str.ofString x)) (.tuple (l.map fun s => PyData.str (Str.ofString s))) B = B (l.contains x) := by
  show (inOk _ _ ∧ B _) = _
  rw [strs_in.2]
  exact propext ⟨fun h => h.2, fun h => ⟨strs_in.1, h⟩⟩
def calcs : List String := ["LSL", "ASR", "ROR", "AND", "ANN", "IOR", "XOR", "ADD", "SUB", "MUL", "DIV"]
def Op.isReg (o : Op) : Bool := calcs.contains o.nm
def Op.last : Op → String
  | .add => "D" | .sub => "B" | .mul => "L" | .ior => "R" | .xor => "R" | .addi => "I" | .lsli => "I" | .andi => "I"
  | .mov => "V" | .movi => "I" | .geth => "H" | .ldr => "R" | .ldb => "B" | .str => "R" | .stb => "B"
def Op.init : Op → String
  | .add => "AD" | .sub => "SU" | .mul => "MU" | .ior => "IO" | .xor => "XO" | .addi => "ADD" | .lsli => "LSL" | .andi => "AND"
  | .mov => "MO" | .movi => "MOV" | .geth => "GET" | .ldr => "LD" | .ldb => "LD" | .str => "ST" | .stb => "ST"
def Op.lastI (o : Op) : Bool := o.last == "I"
theorem in_mem {o : Op} {B : Bool → Prop} : cmpW .In (.str (Str.ofString o.nm)) (.tuple [.str (Str.ofString "LDR"), .str (Str.ofString "LDB"), .str (Str.ofString "STR"), .str (Str.ofString "STB")]) B = B o.isMem :=
  (in_strs (l := ["LDR", "LDB", "STR", "STB"])).trans (congrArg B (by cases o <;> decide))
theorem in_ctl {o : Op} {B : Bool → Prop} : cmpW .In (.str (Str.ofString o.nm)) (.tuple [.str (Str.ofString "B"), .str (Str.ofString "BL"), .str (Str.ofString "BR"), .str (Str.ofString "BLR"), .str (Str.ofString "TRAP")]) B = B false :=
  (in_strs (l := ["B", "BL", "BR", "BLR", "TRAP"])).trans (congrArg B (by cases o <;> decide))
theorem in_w4 {o : Op} {B : Bool → Prop} : cmpW .In (.str (Str.ofString o.nm)) (.tuple [.str (Str.ofString "LDR"), .str (Str.ofString "STR")]) B = B (decide (o = .ldr ∨ o = .str)) :=
  (in_strs (l := ["LDR", "STR"])).trans (congrArg B (by cases o <;> decide))
theorem in_md {o : Op} {B : Bool → Prop} : cmpW .In (.str (Str.ofString o.base)) (.tuple [.str (Str.ofString "MUL"), .str (Str.ofString "DIV")]) B = B (decide (o = .mul)) :=
  (in_strs (l := ["MUL", "DIV"])).trans (congrArg B (by cases o <;> decide))
theorem in_calc {o : Op} {B : Bool → Prop} : cmpW .In (.str (Str.ofString o.nm)) (.tuple (calcs.map fun s => PyData.str (Str.ofString s))) B = B o.isReg := in_strs
theorem in_calc2 {o : Op} {B : Bool → Prop} : cmpW .In (.str (Str.ofString o.init)) (.tuple (calcs.map fun s => PyData.str (Str.ofString s))) B = B (calcs.contains o.init) := in_strs
theorem in_ld {o : Op} {B : Bool → Prop} : cmpW .In (.str (Str.ofString o.nm)) (.list [.str (Str.ofString "LDR"), .str (Str.ofString "LDB")]) B = B o.isLd := by
  have h1 := (strs_in (x := o.nm) (l := ["LDR", "LDB"]))
  show (inOk _ _ ∧ B _) = _
  have e : ["LDR", "LDB"].contains o.nm = o.isLd := by cases o <;> decide
  rw [← e, ← h1.2]
  exact propext ⟨fun h => h.2, fun h => ⟨h1.1, h⟩⟩
theorem eq_op {o q : Op} {B : Bool → Prop} : cmpW .Eq (.str (Str.ofString o.nm)) (.str (Str.ofString q.nm)) B = B (decide (o = q)) := by
  show B (Str.ofString o.nm == Str.ofString q.nm) = _
  rw [qcI]
  refine congrArg B ?_
  cases o <;> cases q <;> decide
theorem eq_LDR {o : Op} {B : Bool → Prop} : cmpW .Eq (.str (Str.ofString o.nm)) (.str (Str.ofString "LDR")) B = B (decide (o = .ldr)) := eq_op (q := .ldr)
theorem eq_LDB {o : Op} {B : Bool → Prop} : cmpW .Eq (.str (Str.ofString o.nm)) (.str (Str.ofString "LDB")) B = B (decide (o = .ldb)) := eq_op (q := .ldb)
theorem eq_STR {o : Op} {B : Bool → Prop} : cmpW .Eq (.str (Str.ofString o.nm)) (.str (Str.ofString "STR")) B = B (decide (o = .str)) := eq_op (q := .str)
theorem eq_STB {o : Op} {B : Bool → Prop} : cmpW .Eq (.str (Str.ofString o.nm)) (.str (Str.ofString "STB")) B = B (decide (o = .stb)) := eq_op (q := .stb)
theorem eq_MOV {o : Op} {B : Bool → Prop} : cmpW .Eq (.str (Str.ofString o.nm)) (.str (Str.ofString "MOV")) B = B (decide (o = .mov)) := eq_op (q := .mov)
theorem eq_MOVI {o : Op} {B : Bool → Prop} : cmpW .Eq (.str (Str.ofString o.nm)) (.str (Str.ofString "MOVI")) B = B (decide (o = .movi)) := eq_op (q := .movi)
theorem eq_GETH {o : Op} {B : Bool → Prop} : cmpW .Eq (.str (Str.ofString o.nm)) (.str (Str.ofString "GETH")) B = B (decide (o = .geth)) := eq_op (q := .geth)
theorem eq_lastI {o : Op} {B : Bool → Prop} : cmpW .Eq (.str (Str.ofString o.last)) (.str (Str.ofString "I")) B = B o.lastI := by
  show B (Str.ofString o.last == Str.ofString "I") = _
  rw [qcI]; rfl
theorem sl_of {x y : Str} {l h : PyData} {lo hi : Option Int} {Q : PyData → Prop} (hl : partOf l = some lo) (hh : partOf h = some hi) (e : strCut x lo hi = y) (hy : decide (y.length ≤ 1000) = true) : sliceW (.str x) l h Q = Q (.str y) := by
  unfold sliceW
  rw [hl, hh]
  simp only [e]
  simp [of_decide_eq_true hy]
theorem sl_last {o : Op} {Q : PyData → Prop} : sliceW (.str (Str.ofString o.nm)) (.int (-1)) .none Q = Q (.str (Str.ofString o.last)) := by
  cases o <;> exact sl_of rfl rfl (by decide +kernel) (by decide +kernel)
theorem sl_init {o : Op} {Q : PyData → Prop} : sliceW (.str (Str.ofString o.nm)) .none (.int (-1)) Q = Q (.str (Str.ofString o.init)) := by
  cases o <;> exact sl_of rfl rfl (by decide +kernel) (by decide +kernel)
theorem itm_of {x y : Str} {k : Int} {Q : PyData → Prop} (h1 : fitsSsize k = true) (h2 : (Txt.charAt x k).isSome = true) (h3 : Txt.item x k = y) : itemW (.str x) (.int k) Q = Q (.str y) := by
  unfold itemW
  simp [h1, h2, h3]
theorem it_last {o : Op} {Q : PyData → Prop} : itemW (.str (Str.ofString o.nm)) (.int (-1)) Q = Q (.str (Str.ofString o.last)) := by
  cases o <;> exact itm_of (by decide +kernel) (by decide +kernel) (by decide +kernel)
def loopK (Q : PF) (I : Sg → Prop) : PF := fun f υ => match f with
        | .next => ∃ υ', Sub υ' υ ∧ I υ'
        | .cont => ∃ υ', Sub υ' υ ∧ I υ'
        | .brk => Q .next υ
        | .ret d => Q (.ret d) υ
theorem qbQ (Q : PF) (I : Sg → Prop) (υ : Sg) : loopK Q I .next υ = (∃ υ', Sub υ' υ ∧ I υ') := rfl
theorem qbP (Q : PF) (I : Sg → Prop) (υ : Sg) : loopK Q I .cont υ = (∃ υ', Sub υ' υ ∧ I υ') := rfl
theorem qbR (Q : PF) (I : Sg → Prop) (υ : Sg) (d : PyData) : loopK Q I (.ret d) υ = Q (.ret d) υ := rfl
theorem forH_of {ev : EvF} {bl : BlF} {kd : Kd} {t it : Expr} {b : List Stmt} {σ : Sg} {Q : PF} {tag : Tag (bl, t, it, b, Q)} {items : List PyData} (ho : ownE σ it = none) (hi : ∀ K : List PyData → Prop, K items → iterW (ev kd σ) kd σ it K)
    (I : Nat → Sg → Prop) (h0 : I 0 σ)
    (h1 : ∀ i d τ, items[i]? = some d → I i τ → bindT kd t d τ fun τ' => bl kd b τ' (loopK Q (I (i + 1)))) (h2 : ∀ τ, I items.length τ → Q .next τ) : forH ev bl kd t it b σ Q tag := by
  refine ⟨?_⟩
  unfold forW
  rw [ho]
  exact hi _ ⟨I, h0, h1, h2⟩
theorem whileH_of {tr : TrF} {bl : BlF} {kd : Kd} {t : Expr} {b : List Stmt} {σ : Sg} {Q : PF} {tag : Tag (bl, t, b, Q)} (I : Sg → Prop) (μ : Sg → Nat) (h0 : I σ)
    (h : ∀ τ, I τ → tr kd τ t fun c => iteB c (bl kd b τ (loopK Q fun υ' => I υ' ∧ μ υ' < μ τ)) (Q .next τ) ⟨⟩) : whileH tr bl kd t b σ Q tag := by
  refine ⟨I, μ, h0, fun τ hτ => ?_⟩
  have e : (fun c => iteB c (bl kd b τ (loopK Q fun υ' => I υ' ∧ μ υ' < μ τ)) (Q .next τ) ⟨⟩) = fun c => (match c with | true => bl kd b τ (loopK Q fun υ' => I υ' ∧ μ υ' < μ τ) | false => Q .next τ) := funext fun c => (iteB_eq c _ _).symm
  have h' := h τ hτ
  rw [e] at h'
  exact h'
theorem compV {ev : EvF} {tr : TrF} {kd : Kd} {σ σc : Sg} {elt : Expr} {x : Str} {xp : Pos} {iter : Expr} {ifs : List Expr} {scope : Scope} {Q : List PyData → Prop} {tag : Tag (ev, tr, elt, [(⟨.Name x xp, iter, ifs, 0⟩ : Comprehension)], Q)} {α : Type} {items : List α} (dd : α → PyData) (f : PyData → Option PyData) (out : List PyData)
    (hx : compOk kd scope x = true) (hc : capt σ scope = σc) (hi : ∀ K : List PyData → Prop, K (items.map dd) → iterW (ev kd σ) kd σ iter K)
    (h1 : ∀ a ∈ items, tests (tr (kdC kd scope.names) ((x, .val (dd a)) :: σc)) ifs fun b => iteB b (ev (kdC kd scope.names) ((x, .val (dd a)) :: σc) elt fun y => f (dd a) = some y) (f (dd a) = none) ⟨⟩) (ho : (items.map dd).filterMap f = out) (hQ : Q out) : compH ev tr kd σ elt [⟨.Name x xp, iter, ifs, 0⟩] scope Q tag := by
  refine ⟨?_⟩
  unfold compW
  simp only [nameOf?, hx]
  refine hi _ ⟨f, fun d hd => ?_, by rw [ho]; exact hQ⟩
  obtain ⟨a, ha, rfl⟩ := List.mem_map.mp hd
  rw [hc]
  have h' := h1 a ha
  simp only [← iteB_eq] at h'
  exact h'
theorem own_none {σ : Sg} {it : Expr} (h : nameOf? it = none) : ownE σ it = none := by unfold ownE; rw [h]
theorem nb1 : (NameKind.local == NameKind.free) = false := rfl
theorem nb2 : (NameKind.globalImplicit == NameKind.free) = false := rfl
theorem nb3 : (NameKind.free == NameKind.free) = true := rfl
theorem nb4 : (some NameKind.cell == some NameKind.cell) = true := rfl
theorem st_mem {o : Op} (h : o.isSt = true) : o.isMem = true := by unfold Op.isMem; rw [h, Bool.or_true]
theorem ld_mem {o : Op} (h : o.isLd = true) : o.isMem = true := by unfold Op.isMem; rw [h]; rfl
theorem st_ld {o : Op} (h : o.isSt = true) : o.isLd = false := by cases o <;> simp [Op.isSt] at h <;> rfl
theorem ld_st {o : Op} (h : o.isLd = true) : o.isSt = false := by cases o <;> simp [Op.isLd] at h <;> rfl
def vwBody (l : List Stmt) : List Stmt := (l.drop 1).take 18 ++ l.drop 20
def vw : Program := { PySem.Challenge.pw_pb0319_01 with main := { PySem.Challenge.pw_pb0319_01.main with body := vwBody PySem.Challenge.pw_pb0319_01.main.body } }
theorem ubcalculations : isBlt (Str.ofString "calculations") = false := by kernel_rfl
theorem ubis_memory : isBlt (Str.ofString "is_memory") = false := by kernel_rfl
theorem ubis_load : isBlt (Str.ofString "is_load") = false := by kernel_rfl
theorem ubis_store : isBlt (Str.ofString "is_store") = false := by kernel_rfl
theorem ubis_control : isBlt (Str.ofString "is_control") = false := by kernel_rfl
theorem ubbase_name : isBlt (Str.ofString "base_name") = false := by kernel_rfl
theorem ubread_set : isBlt (Str.ofString "read_set") = false := by kernel_rfl
theorem ubwrite_set : isBlt (Str.ofString "write_set") = false := by kernel_rfl
theorem ubbytes_of : isBlt (Str.ofString "bytes_of") = false := by kernel_rfl
theorem ubapart : isBlt (Str.ofString "apart") = false := by kernel_rfl
theorem ubis_changed : isBlt (Str.ofString "is_changed") = false := by kernel_rfl
theorem ubmeet_in_memory : isBlt (Str.ofString "meet_in_memory") = false := by kernel_rfl
theorem ubmeet_in_registers : isBlt (Str.ofString "meet_in_registers") = false := by kernel_rfl
theorem ublast_setter : isBlt (Str.ofString "last_setter") = false := by kernel_rfl
theorem ubmust_keep : isBlt (Str.ofString "must_keep") = false := by kernel_rfl
theorem uborder_pairs : isBlt (Str.ofString "order_pairs") = false := by kernel_rfl
theorem ubQlawQseeds : isBlt (Str.ofString "_law_seeds") = false := by kernel_rfl
theorem ubQlawQrow : isBlt (Str.ofString "_law_row") = false := by kernel_rfl
theorem ubQlawQstepped : isBlt (Str.ofString "_law_stepped") = false := by kernel_rfl
theorem ublaw : isBlt (Str.ofString "law") = false := by kernel_rfl
def qad := And.intro ubcalculations (And.intro ubis_memory (And.intro ubis_load (And.intro ubis_store (And.intro ubis_control (And.intro ubbase_name (And.intro ubread_set (And.intro ubwrite_set (And.intro ubbytes_of (And.intro ubapart (And.intro ubis_changed (And.intro ubmeet_in_memory (And.intro ubmeet_in_registers (And.intro ublast_setter (And.intro ubmust_keep (And.intro uborder_pairs (And.intro ubQlawQseeds (And.intro ubQlawQrow (And.intro ubQlawQstepped (ublaw)))))))))))))))))))
def tb2 : List Str := []
def N2 := True.intro
def tb3 : List Str := [Str.ofString "row"]
theorem z3row {vs : List Slot} : List.lookup (Str.ofString "row") (Z tb3 vs) = some (gD vs 0) := Z_look (by kernel_rfl) (by kernel_rfl)
theorem u3row {vs : List Slot} {s : Slot} {K : Sg → Prop} : updK (Str.ofString "row") s (Z tb3 vs) K = sdK vs 0 s fun r => K (Z tb3 r) := Z_updK (by kernel_rfl) (by kernel_rfl)
theorem s3row : storable (kdOf vw 3) (Str.ofString "row") = true := by kernel_rfl
def U3 := @u3row
def N3 := And.intro @z3row (s3row)
def tb4 : List Str := [Str.ofString "row"]
theorem z4row {vs : List Slot} : List.lookup (Str.ofString "row") (Z tb4 vs) = some (gD vs 0) := Z_look (by kernel_rfl) (by kernel_rfl)
theorem u4row {vs : List Slot} {s : Slot} {K : Sg → Prop} : updK (Str.ofString "row") s (Z tb4 vs) K = sdK vs 0 s fun r => K (Z tb4 r) := Z_updK (by kernel_rfl) (by kernel_rfl)
theorem s4row : storable (kdOf vw 4) (Str.ofString "row") = true := by kernel_rfl
def U4 := @u4row
def N4 := And.intro @z4row (s4row)
def tb5 : List Str := [Str.ofString "row"]
theorem z5row {vs : List Slot} : List.lookup (Str.ofString "row") (Z tb5 vs) = some (gD vs 0) := Z_look (by kernel_rfl) (by kernel_rfl)
theorem u5row {vs : List Slot} {s : Slot} {K : Sg → Prop} : updK (Str.ofString "row") s (Z tb5 vs) K = sdK vs 0 s fun r => K (Z tb5 r) := Z_updK (by kernel_rfl) (by kernel_rfl)
theorem s5row : storable (kdOf vw 5) (Str.ofString "row") = true := by kernel_rfl
def U5 := @u5row
def N5 := And.intro @z5row (s5row)
def tb6 : List Str := [Str.ofString "row"]
theorem z6row {vs : List Slot} : List.lookup (Str.ofString "row") (Z tb6 vs) = some (gD vs 0) := Z_look (by kernel_rfl) (by kernel_rfl)
theorem u6row {vs : List Slot} {s : Slot} {K : Sg → Prop} : updK (Str.ofString "row") s (Z tb6 vs) K = sdK vs 0 s fun r => K (Z tb6 r) := Z_updK (by kernel_rfl) (by kernel_rfl)
theorem s6row : storable (kdOf vw 6) (Str.ofString "row") = true := by kernel_rfl
def U6 := @u6row
def N6 := And.intro @z6row (s6row)
def tb7 : List Str := [Str.ofString "row", Str.ofString "name"]
theorem z7row {vs : List Slot} : List.lookup (Str.ofString "row") (Z tb7 vs) = some (gD vs 0) := Z_look (by kernel_rfl) (by kernel_rfl)
theorem u7row {vs : List Slot} {s : Slot} {K : Sg → Prop} : updK (Str.ofString "row") s (Z tb7 vs) K = sdK vs 0 s fun r => K (Z tb7 r) := Z_updK (by kernel_rfl) (by kernel_rfl)
theorem s7row : storable (kdOf vw 7) (Str.ofString "row") = true := by kernel_rfl
theorem z7name {vs : List Slot} : List.lookup (Str.ofString "name") (Z tb7 vs) = some (gD vs 1) := Z_look (by kernel_rfl) (by kernel_rfl)
theorem u7name {vs : List Slot} {s : Slot} {K : Sg → Prop} : updK (Str.ofString "name") s (Z tb7 vs) K = sdK vs 1 s fun r => K (Z tb7 r) := Z_updK (by kernel_rfl) (by kernel_rfl)
theorem s7name : storable (kdOf vw 7) (Str.ofString "name") = true := by kernel_rfl
theorem k7calculations : kdOf vw 7 (Str.ofString "calculations") = some .globalImplicit := by kernel_rfl
def U7 := And.intro @u7row (@u7name)
def N7 := And.intro @z7row (And.intro s7row (And.intro @z7name (And.intro s7name (k7calculations))))
def tb8 : List Str := [Str.ofString "row", Str.ofString "name"]
theorem z8row {vs : List Slot} : List.lookup (Str.ofString "row") (Z tb8 vs) = some (gD vs 0) := Z_look (by kernel_rfl) (by kernel_rfl)
theorem u8row {vs : List Slot} {s : Slot} {K : Sg → Prop} : updK (Str.ofString "row") s (Z tb8 vs) K = sdK vs 0 s fun r => K (Z tb8 r) := Z_updK (by kernel_rfl) (by kernel_rfl)
theorem s8row : storable (kdOf vw 8) (Str.ofString "row") = true := by kernel_rfl
theorem z8name {vs : List Slot} : List.lookup (Str.ofString "name") (Z tb8 vs) = some (gD vs 1) := Z_look (by kernel_rfl) (by kernel_rfl)
theorem u8name {vs : List Slot} {s : Slot} {K : Sg → Prop} : updK (Str.ofString "name") s (Z tb8 vs) K = sdK vs 1 s fun r => K (Z tb8 r) := Z_updK (by kernel_rfl) (by kernel_rfl)
theorem s8name : storable (kdOf vw 8) (Str.ofString "name") = true := by kernel_rfl
theorem k8is_load : kdOf vw 8 (Str.ofString "is_load") = some .globalImplicit := by kernel_rfl
theorem k8is_store : kdOf vw 8 (Str.ofString "is_store") = some .globalImplicit := by kernel_rfl
theorem k8HIGH : kdOf vw 8 (Str.ofString "HIGH") = some .globalImplicit := by kernel_rfl
theorem k8calculations : kdOf vw 8 (Str.ofString "calculations") = some .globalImplicit := by kernel_rfl
theorem k8base_name : kdOf vw 8 (Str.ofString "base_name") = some .globalImplicit := by kernel_rfl
theorem z8HIGH {vs : List Slot} : List.lookup (Str.ofString "HIGH") (Z tb8 vs) = none := Z_none (by kernel_rfl)
def U8 := And.intro @u8row (@u8name)
def N8 := And.intro @z8row (And.intro s8row (And.intro @z8name (And.intro s8name (And.intro k8is_load (And.intro k8is_store (And.intro k8HIGH (And.intro k8calculations (And.intro k8base_name (@z8HIGH)))))))))
def tb9 : List Str := [Str.ofString "row", Str.ofString "found"]
theorem z9row {vs : List Slot} : List.lookup (Str.ofString "row") (Z tb9 vs) = some (gD vs 0) := Z_look (by kernel_rfl) (by kernel_rfl)
theorem u9row {vs : List Slot} {s : Slot} {K : Sg → Prop} : updK (Str.ofString "row") s (Z tb9 vs) K = sdK vs 0 s fun r => K (Z tb9 r) := Z_updK (by kernel_rfl) (by kernel_rfl)
theorem s9row : storable (kdOf vw 9) (Str.ofString "row") = true := by kernel_rfl
theorem z9found {vs : List Slot} : List.lookup (Str.ofString "found") (Z tb9 vs) = some (gD vs 1) := Z_look (by kernel_rfl) (by kernel_rfl)
theorem u9found {vs : List Slot} {s : Slot} {K : Sg → Prop} : updK (Str.ofString "found") s (Z tb9 vs) K = sdK vs 1 s fun r => K (Z tb9 r) := Z_updK (by kernel_rfl) (by kernel_rfl)
theorem s9found : storable (kdOf vw 9) (Str.ofString "found") = true := by kernel_rfl
theorem k9is_store : kdOf vw 9 (Str.ofString "is_store") = some .globalImplicit := by kernel_rfl
theorem k9is_load : kdOf vw 9 (Str.ofString "is_load") = some .globalImplicit := by kernel_rfl
theorem k9FLAGS : kdOf vw 9 (Str.ofString "FLAGS") = some .globalImplicit := by kernel_rfl
theorem k9base_name : kdOf vw 9 (Str.ofString "base_name") = some .globalImplicit := by kernel_rfl
theorem k9HIGH : kdOf vw 9 (Str.ofString "HIGH") = some .globalImplicit := by kernel_rfl
theorem z9FLAGS {vs : List Slot} : List.lookup (Str.ofString "FLAGS") (Z tb9 vs) = none := Z_none (by kernel_rfl)
theorem z9HIGH {vs : List Slot} : List.lookup (Str.ofString "HIGH") (Z tb9 vs) = none := Z_none (by kernel_rfl)
def U9 := And.intro @u9row (@u9found)
def N9 := And.intro @z9row (And.intro s9row (And.intro @z9found (And.intro s9found (And.intro k9is_store (And.intro k9is_load (And.intro k9FLAGS (And.intro k9base_name (And.intro k9HIGH (And.intro @z9FLAGS (@z9HIGH))))))))))
def tb10 : List Str := [Str.ofString "row"]
theorem z10row {vs : List Slot} : List.lookup (Str.ofString "row") (Z tb10 vs) = some (gD vs 0) := Z_look (by kernel_rfl) (by kernel_rfl)
theorem u10row {vs : List Slot} {s : Slot} {K : Sg → Prop} : updK (Str.ofString "row") s (Z tb10 vs) K = sdK vs 0 s fun r => K (Z tb10 r) := Z_updK (by kernel_rfl) (by kernel_rfl)
theorem s10row : storable (kdOf vw 10) (Str.ofString "row") = true := by kernel_rfl
def U10 := @u10row
def N10 := And.intro @z10row (s10row)
def tb11 : List Str := [Str.ofString "first", Str.ofString "second"]
theorem z11first {vs : List Slot} : List.lookup (Str.ofString "first") (Z tb11 vs) = some (gD vs 0) := Z_look (by kernel_rfl) (by kernel_rfl)
theorem u11first {vs : List Slot} {s : Slot} {K : Sg → Prop} : updK (Str.ofString "first") s (Z tb11 vs) K = sdK vs 0 s fun r => K (Z tb11 r) := Z_updK (by kernel_rfl) (by kernel_rfl)
theorem s11first : storable (kdOf vw 11) (Str.ofString "first") = true := by kernel_rfl
theorem z11second {vs : List Slot} : List.lookup (Str.ofString "second") (Z tb11 vs) = some (gD vs 1) := Z_look (by kernel_rfl) (by kernel_rfl)
theorem u11second {vs : List Slot} {s : Slot} {K : Sg → Prop} : updK (Str.ofString "second") s (Z tb11 vs) K = sdK vs 1 s fun r => K (Z tb11 r) := Z_updK (by kernel_rfl) (by kernel_rfl)
theorem s11second : storable (kdOf vw 11) (Str.ofString "second") = true := by kernel_rfl
theorem k11bytes_of : kdOf vw 11 (Str.ofString "bytes_of") = some .globalImplicit := by kernel_rfl
def U11 := And.intro @u11first (@u11second)
def N11 := And.intro @z11first (And.intro s11first (And.intro @z11second (And.intro s11second (k11bytes_of))))
def tb12 : List Str := [Str.ofString "rows", Str.ofString "register", Str.ofString "first", Str.ofString "second", Str.ofString "place"]
theorem z12rows {vs : List Slot} : List.lookup (Str.ofString "rows") (Z tb12 vs) = some (gD vs 0) := Z_look (by kernel_rfl) (by kernel_rfl)
theorem u12rows {vs : List Slot} {s : Slot} {K : Sg → Prop} : updK (Str.ofString "rows") s (Z tb12 vs) K = sdK vs 0 s fun r => K (Z tb12 r) := Z_updK (by kernel_rfl) (by kernel_rfl)
theorem s12rows : storable (kdOf vw 12) (Str.ofString "rows") = true := by kernel_rfl
theorem z12register {vs : List Slot} : List.lookup (Str.ofString "register") (Z tb12 vs) = some (gD vs 1) := Z_look (by kernel_rfl) (by kernel_rfl)
theorem u12register {vs : List Slot} {s : Slot} {K : Sg → Prop} : updK (Str.ofString "register") s (Z tb12 vs) K = sdK vs 1 s fun r => K (Z tb12 r) := Z_updK (by kernel_rfl) (by kernel_rfl)
theorem s12register : storable (kdOf vw 12) (Str.ofString "register") = true := by kernel_rfl
theorem z12first {vs : List Slot} : List.lookup (Str.ofString "first") (Z tb12 vs) = some (gD vs 2) := Z_look (by kernel_rfl) (by kernel_rfl)
theorem u12first {vs : List Slot} {s : Slot} {K : Sg → Prop} : updK (Str.ofString "first") s (Z tb12 vs) K = sdK vs 2 s fun r => K (Z tb12 r) := Z_updK (by kernel_rfl) (by kernel_rfl)
theorem s12first : storable (kdOf vw 12) (Str.ofString "first") = true := by kernel_rfl
theorem z12second {vs : List Slot} : List.lookup (Str.ofString "second") (Z tb12 vs) = some (gD vs 3) := Z_look (by kernel_rfl) (by kernel_rfl)
theorem u12second {vs : List Slot} {s : Slot} {K : Sg → Prop} : updK (Str.ofString "second") s (Z tb12 vs) K = sdK vs 3 s fun r => K (Z tb12 r) := Z_updK (by kernel_rfl) (by kernel_rfl)
theorem s12second : storable (kdOf vw 12) (Str.ofString "second") = true := by kernel_rfl
theorem z12place {vs : List Slot} : List.lookup (Str.ofString "place") (Z tb12 vs) = some (gD vs 4) := Z_look (by kernel_rfl) (by kernel_rfl)
theorem u12place {vs : List Slot} {s : Slot} {K : Sg → Prop} : updK (Str.ofString "place") s (Z tb12 vs) K = sdK vs 4 s fun r => K (Z tb12 r) := Z_updK (by kernel_rfl) (by kernel_rfl)
theorem s12place : storable (kdOf vw 12) (Str.ofString "place") = true := by kernel_rfl
theorem k12range : kdOf vw 12 (Str.ofString "range") = some .globalImplicit := by kernel_rfl
theorem k12is_control : kdOf vw 12 (Str.ofString "is_control") = some .globalImplicit := by kernel_rfl
theorem k12write_set : kdOf vw 12 (Str.ofString "write_set") = some .globalImplicit := by kernel_rfl
def U12 := And.intro @u12rows (And.intro @u12register (And.intro @u12first (And.intro @u12second (@u12place))))
def N12 := And.intro @z12rows (And.intro s12rows (And.intro @z12register (And.intro s12register (And.intro @z12first (And.intro s12first (And.intro @z12second (And.intro s12second (And.intro @z12place (And.intro s12place (And.intro k12range (And.intro k12is_control (k12write_set))))))))))))
def tb13 : List Str := [Str.ofString "rows", Str.ofString "first", Str.ofString "second", Str.ofString "one", Str.ofString "other"]
theorem z13rows {vs : List Slot} : List.lookup (Str.ofString "rows") (Z tb13 vs) = some (gD vs 0) := Z_look (by kernel_rfl) (by kernel_rfl)
theorem u13rows {vs : List Slot} {s : Slot} {K : Sg → Prop} : updK (Str.ofString "rows") s (Z tb13 vs) K = sdK vs 0 s fun r => K (Z tb13 r) := Z_updK (by kernel_rfl) (by kernel_rfl)
theorem s13rows : storable (kdOf vw 13) (Str.ofString "rows") = true := by kernel_rfl
theorem z13first {vs : List Slot} : List.lookup (Str.ofString "first") (Z tb13 vs) = some (gD vs 1) := Z_look (by kernel_rfl) (by kernel_rfl)
theorem u13first {vs : List Slot} {s : Slot} {K : Sg → Prop} : updK (Str.ofString "first") s (Z tb13 vs) K = sdK vs 1 s fun r => K (Z tb13 r) := Z_updK (by kernel_rfl) (by kernel_rfl)
theorem s13first : storable (kdOf vw 13) (Str.ofString "first") = true := by kernel_rfl
theorem z13second {vs : List Slot} : List.lookup (Str.ofString "second") (Z tb13 vs) = some (gD vs 2) := Z_look (by kernel_rfl) (by kernel_rfl)
theorem u13second {vs : List Slot} {s : Slot} {K : Sg → Prop} : updK (Str.ofString "second") s (Z tb13 vs) K = sdK vs 2 s fun r => K (Z tb13 r) := Z_updK (by kernel_rfl) (by kernel_rfl)
theorem s13second : storable (kdOf vw 13) (Str.ofString "second") = true := by kernel_rfl
theorem z13one {vs : List Slot} : List.lookup (Str.ofString "one") (Z tb13 vs) = some (gD vs 3) := Z_look (by kernel_rfl) (by kernel_rfl)
theorem u13one {vs : List Slot} {s : Slot} {K : Sg → Prop} : updK (Str.ofString "one") s (Z tb13 vs) K = sdK vs 3 s fun r => K (Z tb13 r) := Z_updK (by kernel_rfl) (by kernel_rfl)
theorem s13one : storable (kdOf vw 13) (Str.ofString "one") = true := by kernel_rfl
theorem z13other {vs : List Slot} : List.lookup (Str.ofString "other") (Z tb13 vs) = some (gD vs 4) := Z_look (by kernel_rfl) (by kernel_rfl)
theorem u13other {vs : List Slot} {s : Slot} {K : Sg → Prop} : updK (Str.ofString "other") s (Z tb13 vs) K = sdK vs 4 s fun r => K (Z tb13 r) := Z_updK (by kernel_rfl) (by kernel_rfl)
theorem s13other : storable (kdOf vw 13) (Str.ofString "other") = true := by kernel_rfl
theorem k13is_memory : kdOf vw 13 (Str.ofString "is_memory") = some .globalImplicit := by kernel_rfl
theorem k13is_load : kdOf vw 13 (Str.ofString "is_load") = some .globalImplicit := by kernel_rfl
theorem k13is_changed : kdOf vw 13 (Str.ofString "is_changed") = some .globalImplicit := by kernel_rfl
theorem k13apart : kdOf vw 13 (Str.ofString "apart") = some .globalImplicit := by kernel_rfl
def U13 := And.intro @u13rows (And.intro @u13first (And.intro @u13second (And.intro @u13one (@u13other))))
def N13 := And.intro @z13rows (And.intro s13rows (And.intro @z13first (And.intro s13first (And.intro @z13second (And.intro s13second (And.intro @z13one (And.intro s13one (And.intro @z13other (And.intro s13other (And.intro k13is_memory (And.intro k13is_load (And.intro k13is_changed (k13apart)))))))))))))
def tb14 : List Str := [Str.ofString "one", Str.ofString "other", Str.ofString "things", Str.ofString "first", Str.ofString "second"]
theorem z14one {vs : List Slot} : List.lookup (Str.ofString "one") (Z tb14 vs) = some (gD vs 0) := Z_look (by kernel_rfl) (by kernel_rfl)
theorem u14one {vs : List Slot} {s : Slot} {K : Sg → Prop} : updK (Str.ofString "one") s (Z tb14 vs) K = sdK vs 0 s fun r => K (Z tb14 r) := Z_updK (by kernel_rfl) (by kernel_rfl)
theorem s14one : storable (kdOf vw 14) (Str.ofString "one") = true := by kernel_rfl
theorem z14other {vs : List Slot} : List.lookup (Str.ofString "other") (Z tb14 vs) = some (gD vs 1) := Z_look (by kernel_rfl) (by kernel_rfl)
theorem u14other {vs : List Slot} {s : Slot} {K : Sg → Prop} : updK (Str.ofString "other") s (Z tb14 vs) K = sdK vs 1 s fun r => K (Z tb14 r) := Z_updK (by kernel_rfl) (by kernel_rfl)
theorem s14other : storable (kdOf vw 14) (Str.ofString "other") = true := by kernel_rfl
theorem z14things {vs : List Slot} : List.lookup (Str.ofString "things") (Z tb14 vs) = some (gD vs 2) := Z_look (by kernel_rfl) (by kernel_rfl)
theorem u14things {vs : List Slot} {s : Slot} {K : Sg → Prop} : updK (Str.ofString "things") s (Z tb14 vs) K = sdK vs 2 s fun r => K (Z tb14 r) := Z_updK (by kernel_rfl) (by kernel_rfl)
theorem s14things : storable (kdOf vw 14) (Str.ofString "things") = true := by kernel_rfl
theorem z14first {vs : List Slot} : List.lookup (Str.ofString "first") (Z tb14 vs) = some (gD vs 3) := Z_look (by kernel_rfl) (by kernel_rfl)
theorem u14first {vs : List Slot} {s : Slot} {K : Sg → Prop} : updK (Str.ofString "first") s (Z tb14 vs) K = sdK vs 3 s fun r => K (Z tb14 r) := Z_updK (by kernel_rfl) (by kernel_rfl)
theorem s14first : storable (kdOf vw 14) (Str.ofString "first") = true := by kernel_rfl
theorem z14second {vs : List Slot} : List.lookup (Str.ofString "second") (Z tb14 vs) = some (gD vs 4) := Z_look (by kernel_rfl) (by kernel_rfl)
theorem u14second {vs : List Slot} {s : Slot} {K : Sg → Prop} : updK (Str.ofString "second") s (Z tb14 vs) K = sdK vs 4 s fun r => K (Z tb14 r) := Z_updK (by kernel_rfl) (by kernel_rfl)
theorem s14second : storable (kdOf vw 14) (Str.ofString "second") = true := by kernel_rfl
theorem k14FLAGS : kdOf vw 14 (Str.ofString "FLAGS") = some .globalImplicit := by kernel_rfl
theorem k14write_set : kdOf vw 14 (Str.ofString "write_set") = some .globalImplicit := by kernel_rfl
theorem k14read_set : kdOf vw 14 (Str.ofString "read_set") = some .globalImplicit := by kernel_rfl
theorem z14FLAGS {vs : List Slot} : List.lookup (Str.ofString "FLAGS") (Z tb14 vs) = none := Z_none (by kernel_rfl)
def U14 := And.intro @u14one (And.intro @u14other (And.intro @u14things (And.intro @u14first (@u14second))))
def N14 := And.intro @z14one (And.intro s14one (And.intro @z14other (And.intro s14other (And.intro @z14things (And.intro s14things (And.intro @z14first (And.intro s14first (And.intro @z14second (And.intro s14second (And.intro k14FLAGS (And.intro k14write_set (And.intro k14read_set (@z14FLAGS)))))))))))))
def tb15 : List Str := [Str.ofString "rows", Str.ofString "found", Str.ofString "place"]
theorem z15rows {vs : List Slot} : List.lookup (Str.ofString "rows") (Z tb15 vs) = some (gD vs 0) := Z_look (by kernel_rfl) (by kernel_rfl)
theorem u15rows {vs : List Slot} {s : Slot} {K : Sg → Prop} : updK (Str.ofString "rows") s (Z tb15 vs) K = sdK vs 0 s fun r => K (Z tb15 r) := Z_updK (by kernel_rfl) (by kernel_rfl)
theorem s15rows : storable (kdOf vw 15) (Str.ofString "rows") = true := by kernel_rfl
theorem z15found {vs : List Slot} : List.lookup (Str.ofString "found") (Z tb15 vs) = some (gD vs 1) := Z_look (by kernel_rfl) (by kernel_rfl)
theorem u15found {vs : List Slot} {s : Slot} {K : Sg → Prop} : updK (Str.ofString "found") s (Z tb15 vs) K = sdK vs 1 s fun r => K (Z tb15 r) := Z_updK (by kernel_rfl) (by kernel_rfl)
theorem s15found : storable (kdOf vw 15) (Str.ofString "found") = true := by kernel_rfl
theorem z15place {vs : List Slot} : List.lookup (Str.ofString "place") (Z tb15 vs) = some (gD vs 2) := Z_look (by kernel_rfl) (by kernel_rfl)
theorem u15place {vs : List Slot} {s : Slot} {K : Sg → Prop} : updK (Str.ofString "place") s (Z tb15 vs) K = sdK vs 2 s fun r => K (Z tb15 r) := Z_updK (by kernel_rfl) (by kernel_rfl)
theorem s15place : storable (kdOf vw 15) (Str.ofString "place") = true := by kernel_rfl
theorem k15range : kdOf vw 15 (Str.ofString "range") = some .globalImplicit := by kernel_rfl
theorem k15len : kdOf vw 15 (Str.ofString "len") = some .globalImplicit := by kernel_rfl
theorem k15write_set : kdOf vw 15 (Str.ofString "write_set") = some .globalImplicit := by kernel_rfl
theorem k15FLAGS : kdOf vw 15 (Str.ofString "FLAGS") = some .globalImplicit := by kernel_rfl
theorem z15FLAGS {vs : List Slot} : List.lookup (Str.ofString "FLAGS") (Z tb15 vs) = none := Z_none (by kernel_rfl)
def U15 := And.intro @u15rows (And.intro @u15found (@u15place))
def N15 := And.intro @z15rows (And.intro s15rows (And.intro @z15found (And.intro s15found (And.intro @z15place (And.intro s15place (And.intro k15range (And.intro k15len (And.intro k15write_set (And.intro k15FLAGS (@z15FLAGS))))))))))
def tb16 : List Str := [Str.ofString "rows", Str.ofString "first", Str.ofString "second", Str.ofString "setter"]
theorem z16rows {vs : List Slot} : List.lookup (Str.ofString "rows") (Z tb16 vs) = some (gD vs 0) := Z_look (by kernel_rfl) (by kernel_rfl)
theorem u16rows {vs : List Slot} {s : Slot} {K : Sg → Prop} : updK (Str.ofString "rows") s (Z tb16 vs) K = sdK vs 0 s fun r => K (Z tb16 r) := Z_updK (by kernel_rfl) (by kernel_rfl)
theorem s16rows : storable (kdOf vw 16) (Str.ofString "rows") = true := by kernel_rfl
theorem z16first {vs : List Slot} : List.lookup (Str.ofString "first") (Z tb16 vs) = some (gD vs 1) := Z_look (by kernel_rfl) (by kernel_rfl)
theorem u16first {vs : List Slot} {s : Slot} {K : Sg → Prop} : updK (Str.ofString "first") s (Z tb16 vs) K = sdK vs 1 s fun r => K (Z tb16 r) := Z_updK (by kernel_rfl) (by kernel_rfl)
theorem s16first : storable (kdOf vw 16) (Str.ofString "first") = true := by kernel_rfl
theorem z16second {vs : List Slot} : List.lookup (Str.ofString "second") (Z tb16 vs) = some (gD vs 2) := Z_look (by kernel_rfl) (by kernel_rfl)
theorem u16second {vs : List Slot} {s : Slot} {K : Sg → Prop} : updK (Str.ofString "second") s (Z tb16 vs) K = sdK vs 2 s fun r => K (Z tb16 r) := Z_updK (by kernel_rfl) (by kernel_rfl)
theorem s16second : storable (kdOf vw 16) (Str.ofString "second") = true := by kernel_rfl
theorem z16setter {vs : List Slot} : List.lookup (Str.ofString "setter") (Z tb16 vs) = some (gD vs 3) := Z_look (by kernel_rfl) (by kernel_rfl)
theorem u16setter {vs : List Slot} {s : Slot} {K : Sg → Prop} : updK (Str.ofString "setter") s (Z tb16 vs) K = sdK vs 3 s fun r => K (Z tb16 r) := Z_updK (by kernel_rfl) (by kernel_rfl)
theorem s16setter : storable (kdOf vw 16) (Str.ofString "setter") = true := by kernel_rfl
theorem k16meet_in_registers : kdOf vw 16 (Str.ofString "meet_in_registers") = some .globalImplicit := by kernel_rfl
theorem k16meet_in_memory : kdOf vw 16 (Str.ofString "meet_in_memory") = some .globalImplicit := by kernel_rfl
theorem k16write_set : kdOf vw 16 (Str.ofString "write_set") = some .globalImplicit := by kernel_rfl
theorem k16FLAGS : kdOf vw 16 (Str.ofString "FLAGS") = some .globalImplicit := by kernel_rfl
theorem z16FLAGS {vs : List Slot} : List.lookup (Str.ofString "FLAGS") (Z tb16 vs) = none := Z_none (by kernel_rfl)
def U16 := And.intro @u16rows (And.intro @u16first (And.intro @u16second (@u16setter)))
def N16 := And.intro @z16rows (And.intro s16rows (And.intro @z16first (And.intro s16first (And.intro @z16second (And.intro s16second (And.intro @z16setter (And.intro s16setter (And.intro k16meet_in_registers (And.intro k16meet_in_memory (And.intro k16write_set (And.intro k16FLAGS (@z16FLAGS))))))))))))
def tb17 : List Str := [Str.ofString "rows", Str.ofString "setter", Str.ofString "found", Str.ofString "first", Str.ofString "second"]
theorem z17rows {vs : List Slot} : List.lookup (Str.ofString "rows") (Z tb17 vs) = some (gD vs 0) := Z_look (by kernel_rfl) (by kernel_rfl)
theorem u17rows {vs : List Slot} {s : Slot} {K : Sg → Prop} : updK (Str.ofString "rows") s (Z tb17 vs) K = sdK vs 0 s fun r => K (Z tb17 r) := Z_updK (by kernel_rfl) (by kernel_rfl)
theorem s17rows : storable (kdOf vw 17) (Str.ofString "rows") = true := by kernel_rfl
theorem z17setter {vs : List Slot} : List.lookup (Str.ofString "setter") (Z tb17 vs) = some (gD vs 1) := Z_look (by kernel_rfl) (by kernel_rfl)
theorem u17setter {vs : List Slot} {s : Slot} {K : Sg → Prop} : updK (Str.ofString "setter") s (Z tb17 vs) K = sdK vs 1 s fun r => K (Z tb17 r) := Z_updK (by kernel_rfl) (by kernel_rfl)
theorem s17setter : storable (kdOf vw 17) (Str.ofString "setter") = true := by kernel_rfl
theorem z17found {vs : List Slot} : List.lookup (Str.ofString "found") (Z tb17 vs) = some (gD vs 2) := Z_look (by kernel_rfl) (by kernel_rfl)
theorem u17found {vs : List Slot} {s : Slot} {K : Sg → Prop} : updK (Str.ofString "found") s (Z tb17 vs) K = sdK vs 2 s fun r => K (Z tb17 r) := Z_updK (by kernel_rfl) (by kernel_rfl)
theorem s17found : storable (kdOf vw 17) (Str.ofString "found") = true := by kernel_rfl
theorem z17first {vs : List Slot} : List.lookup (Str.ofString "first") (Z tb17 vs) = some (gD vs 3) := Z_look (by kernel_rfl) (by kernel_rfl)
theorem u17first {vs : List Slot} {s : Slot} {K : Sg → Prop} : updK (Str.ofString "first") s (Z tb17 vs) K = sdK vs 3 s fun r => K (Z tb17 r) := Z_updK (by kernel_rfl) (by kernel_rfl)
theorem s17first : storable (kdOf vw 17) (Str.ofString "first") = true := by kernel_rfl
theorem z17second {vs : List Slot} : List.lookup (Str.ofString "second") (Z tb17 vs) = some (gD vs 4) := Z_look (by kernel_rfl) (by kernel_rfl)
theorem u17second {vs : List Slot} {s : Slot} {K : Sg → Prop} : updK (Str.ofString "second") s (Z tb17 vs) K = sdK vs 4 s fun r => K (Z tb17 r) := Z_updK (by kernel_rfl) (by kernel_rfl)
theorem s17second : storable (kdOf vw 17) (Str.ofString "second") = true := by kernel_rfl
theorem k17last_setter : kdOf vw 17 (Str.ofString "last_setter") = some .globalImplicit := by kernel_rfl
theorem k17range : kdOf vw 17 (Str.ofString "range") = some .globalImplicit := by kernel_rfl
theorem k17len : kdOf vw 17 (Str.ofString "len") = some .globalImplicit := by kernel_rfl
theorem k17must_keep : kdOf vw 17 (Str.ofString "must_keep") = some .globalImplicit := by kernel_rfl
def U17 := And.intro @u17rows (And.intro @u17setter (And.intro @u17found (And.intro @u17first (@u17second))))
def N17 := And.intro @z17rows (And.intro s17rows (And.intro @z17setter (And.intro s17setter (And.intro @z17found (And.intro s17found (And.intro @z17first (And.intro s17first (And.intro @z17second (And.intro s17second (And.intro k17last_setter (And.intro k17range (And.intro k17len (k17must_keep)))))))))))))
def tb18 : List Str := [Str.ofString "script", Str.ofString "seeds", Str.ofString "cell", Str.ofString "heat"]
theorem z18script {vs : List Slot} : List.lookup (Str.ofString "script") (Z tb18 vs) = some (gD vs 0) := Z_look (by kernel_rfl) (by kernel_rfl)
theorem u18script {vs : List Slot} {s : Slot} {K : Sg → Prop} : updK (Str.ofString "script") s (Z tb18 vs) K = sdK vs 0 s fun r => K (Z tb18 r) := Z_updK (by kernel_rfl) (by kernel_rfl)
theorem s18script : storable (kdOf vw 18) (Str.ofString "script") = true := by kernel_rfl
theorem z18seeds {vs : List Slot} : List.lookup (Str.ofString "seeds") (Z tb18 vs) = some (gD vs 1) := Z_look (by kernel_rfl) (by kernel_rfl)
theorem u18seeds {vs : List Slot} {s : Slot} {K : Sg → Prop} : updK (Str.ofString "seeds") s (Z tb18 vs) K = sdK vs 1 s fun r => K (Z tb18 r) := Z_updK (by kernel_rfl) (by kernel_rfl)
theorem s18seeds : storable (kdOf vw 18) (Str.ofString "seeds") = true := by kernel_rfl
theorem z18cell {vs : List Slot} : List.lookup (Str.ofString "cell") (Z tb18 vs) = some (gD vs 2) := Z_look (by kernel_rfl) (by kernel_rfl)
theorem u18cell {vs : List Slot} {s : Slot} {K : Sg → Prop} : updK (Str.ofString "cell") s (Z tb18 vs) K = sdK vs 2 s fun r => K (Z tb18 r) := Z_updK (by kernel_rfl) (by kernel_rfl)
theorem s18cell : storable (kdOf vw 18) (Str.ofString "cell") = true := by kernel_rfl
theorem z18heat {vs : List Slot} : List.lookup (Str.ofString "heat") (Z tb18 vs) = some (gD vs 3) := Z_look (by kernel_rfl) (by kernel_rfl)
theorem u18heat {vs : List Slot} {s : Slot} {K : Sg → Prop} : updK (Str.ofString "heat") s (Z tb18 vs) K = sdK vs 3 s fun r => K (Z tb18 r) := Z_updK (by kernel_rfl) (by kernel_rfl)
theorem s18heat : storable (kdOf vw 18) (Str.ofString "heat") = true := by kernel_rfl
theorem k18int : kdOf vw 18 (Str.ofString "int") = some .globalImplicit := by kernel_rfl
theorem k18len : kdOf vw 18 (Str.ofString "len") = some .globalImplicit := by kernel_rfl
def U18 := And.intro @u18script (And.intro @u18seeds (And.intro @u18cell (@u18heat)))
def N18 := And.intro @z18script (And.intro s18script (And.intro @z18seeds (And.intro s18seeds (And.intro @z18cell (And.intro s18cell (And.intro @z18heat (And.intro s18heat (And.intro k18int (k18len)))))))))
def tb19 : List Str := [Str.ofString "seed", Str.ofString "other", Str.ofString "form", Str.ofString "to", Str.ofString "left", Str.ofString "right", Str.ofString "name"]
theorem z19seed {vs : List Slot} : List.lookup (Str.ofString "seed") (Z tb19 vs) = some (gD vs 0) := Z_look (by kernel_rfl) (by kernel_rfl)
theorem u19seed {vs : List Slot} {s : Slot} {K : Sg → Prop} : updK (Str.ofString "seed") s (Z tb19 vs) K = sdK vs 0 s fun r => K (Z tb19 r) := Z_updK (by kernel_rfl) (by kernel_rfl)
theorem s19seed : storable (kdOf vw 19) (Str.ofString "seed") = true := by kernel_rfl
theorem z19other {vs : List Slot} : List.lookup (Str.ofString "other") (Z tb19 vs) = some (gD vs 1) := Z_look (by kernel_rfl) (by kernel_rfl)
theorem u19other {vs : List Slot} {s : Slot} {K : Sg → Prop} : updK (Str.ofString "other") s (Z tb19 vs) K = sdK vs 1 s fun r => K (Z tb19 r) := Z_updK (by kernel_rfl) (by kernel_rfl)
theorem s19other : storable (kdOf vw 19) (Str.ofString "other") = true := by kernel_rfl
theorem z19form {vs : List Slot} : List.lookup (Str.ofString "form") (Z tb19 vs) = some (gD vs 2) := Z_look (by kernel_rfl) (by kernel_rfl)
theorem u19form {vs : List Slot} {s : Slot} {K : Sg → Prop} : updK (Str.ofString "form") s (Z tb19 vs) K = sdK vs 2 s fun r => K (Z tb19 r) := Z_updK (by kernel_rfl) (by kernel_rfl)
theorem s19form : storable (kdOf vw 19) (Str.ofString "form") = true := by kernel_rfl
theorem z19to {vs : List Slot} : List.lookup (Str.ofString "to") (Z tb19 vs) = some (gD vs 3) := Z_look (by kernel_rfl) (by kernel_rfl)
theorem u19to {vs : List Slot} {s : Slot} {K : Sg → Prop} : updK (Str.ofString "to") s (Z tb19 vs) K = sdK vs 3 s fun r => K (Z tb19 r) := Z_updK (by kernel_rfl) (by kernel_rfl)
theorem s19to : storable (kdOf vw 19) (Str.ofString "to") = true := by kernel_rfl
theorem z19left {vs : List Slot} : List.lookup (Str.ofString "left") (Z tb19 vs) = some (gD vs 4) := Z_look (by kernel_rfl) (by kernel_rfl)
theorem u19left {vs : List Slot} {s : Slot} {K : Sg → Prop} : updK (Str.ofString "left") s (Z tb19 vs) K = sdK vs 4 s fun r => K (Z tb19 r) := Z_updK (by kernel_rfl) (by kernel_rfl)
theorem s19left : storable (kdOf vw 19) (Str.ofString "left") = true := by kernel_rfl
theorem z19right {vs : List Slot} : List.lookup (Str.ofString "right") (Z tb19 vs) = some (gD vs 5) := Z_look (by kernel_rfl) (by kernel_rfl)
theorem u19right {vs : List Slot} {s : Slot} {K : Sg → Prop} : updK (Str.ofString "right") s (Z tb19 vs) K = sdK vs 5 s fun r => K (Z tb19 r) := Z_updK (by kernel_rfl) (by kernel_rfl)
theorem s19right : storable (kdOf vw 19) (Str.ofString "right") = true := by kernel_rfl
theorem z19name {vs : List Slot} : List.lookup (Str.ofString "name") (Z tb19 vs) = some (gD vs 6) := Z_look (by kernel_rfl) (by kernel_rfl)
theorem u19name {vs : List Slot} {s : Slot} {K : Sg → Prop} : updK (Str.ofString "name") s (Z tb19 vs) K = sdK vs 6 s fun r => K (Z tb19 r) := Z_updK (by kernel_rfl) (by kernel_rfl)
theorem s19name : storable (kdOf vw 19) (Str.ofString "name") = true := by kernel_rfl
def U19 := And.intro @u19seed (And.intro @u19other (And.intro @u19form (And.intro @u19to (And.intro @u19left (And.intro @u19right (@u19name))))))
def N19 := And.intro @z19seed (And.intro s19seed (And.intro @z19other (And.intro s19other (And.intro @z19form (And.intro s19form (And.intro @z19to (And.intro s19to (And.intro @z19left (And.intro s19left (And.intro @z19right (And.intro s19right (And.intro @z19name (s19name)))))))))))))
def tb20 : List Str := [Str.ofString "rows", Str.ofString "firsts", Str.ofString "held", Str.ofString "cells", Str.ofString "high", Str.ofString "last_mark", Str.ofString "name", Str.ofString "one", Str.ofString "two", Str.ofString "three", Str.ofString "turn", Str.ofString "total", Str.ofString "spot", Str.ofString "result", Str.ofString "first", Str.ofString "second", Str.ofString "head", Str.ofString "filled"]
theorem z20rows {vs : List Slot} : List.lookup (Str.ofString "rows") (Z tb20 vs) = some (gD vs 0) := Z_look (by kernel_rfl) (by kernel_rfl)
theorem u20rows {vs : List Slot} {s : Slot} {K : Sg → Prop} : updK (Str.ofString "rows") s (Z tb20 vs) K = sdK vs 0 s fun r => K (Z tb20 r) := Z_updK (by kernel_rfl) (by kernel_rfl)
theorem s20rows : storable (kdOf vw 20) (Str.ofString "rows") = true := by kernel_rfl
theorem z20firsts {vs : List Slot} : List.lookup (Str.ofString "firsts") (Z tb20 vs) = some (gD vs 1) := Z_look (by kernel_rfl) (by kernel_rfl)
theorem u20firsts {vs : List Slot} {s : Slot} {K : Sg → Prop} : updK (Str.ofString "firsts") s (Z tb20 vs) K = sdK vs 1 s fun r => K (Z tb20 r) := Z_updK (by kernel_rfl) (by kernel_rfl)
theorem s20firsts : storable (kdOf vw 20) (Str.ofString "firsts") = true := by kernel_rfl
theorem z20held {vs : List Slot} : List.lookup (Str.ofString "held") (Z tb20 vs) = some (gD vs 2) := Z_look (by kernel_rfl) (by kernel_rfl)
theorem u20held {vs : List Slot} {s : Slot} {K : Sg → Prop} : updK (Str.ofString "held") s (Z tb20 vs) K = sdK vs 2 s fun r => K (Z tb20 r) := Z_updK (by kernel_rfl) (by kernel_rfl)
theorem s20held : storable (kdOf vw 20) (Str.ofString "held") = true := by kernel_rfl
theorem z20cells {vs : List Slot} : List.lookup (Str.ofString "cells") (Z tb20 vs) = some (gD vs 3) := Z_look (by kernel_rfl) (by kernel_rfl)
theorem u20cells {vs : List Slot} {s : Slot} {K : Sg → Prop} : updK (Str.ofString "cells") s (Z tb20 vs) K = sdK vs 3 s fun r => K (Z tb20 r) := Z_updK (by kernel_rfl) (by kernel_rfl)
theorem s20cells : storable (kdOf vw 20) (Str.ofString "cells") = true := by kernel_rfl
theorem z20high {vs : List Slot} : List.lookup (Str.ofString "high") (Z tb20 vs) = some (gD vs 4) := Z_look (by kernel_rfl) (by kernel_rfl)
theorem u20high {vs : List Slot} {s : Slot} {K : Sg → Prop} : updK (Str.ofString "high") s (Z tb20 vs) K = sdK vs 4 s fun r => K (Z tb20 r) := Z_updK (by kernel_rfl) (by kernel_rfl)
theorem s20high : storable (kdOf vw 20) (Str.ofString "high") = true := by kernel_rfl
theorem z20last_mark {vs : List Slot} : List.lookup (Str.ofString "last_mark") (Z tb20 vs) = some (gD vs 5) := Z_look (by kernel_rfl) (by kernel_rfl)
theorem u20last_mark {vs : List Slot} {s : Slot} {K : Sg → Prop} : updK (Str.ofString "last_mark") s (Z tb20 vs) K = sdK vs 5 s fun r => K (Z tb20 r) := Z_updK (by kernel_rfl) (by kernel_rfl)
theorem s20last_mark : storable (kdOf vw 20) (Str.ofString "last_mark") = true := by kernel_rfl
theorem z20name {vs : List Slot} : List.lookup (Str.ofString "name") (Z tb20 vs) = some (gD vs 6) := Z_look (by kernel_rfl) (by kernel_rfl)
theorem u20name {vs : List Slot} {s : Slot} {K : Sg → Prop} : updK (Str.ofString "name") s (Z tb20 vs) K = sdK vs 6 s fun r => K (Z tb20 r) := Z_updK (by kernel_rfl) (by kernel_rfl)
theorem s20name : storable (kdOf vw 20) (Str.ofString "name") = true := by kernel_rfl
theorem z20one {vs : List Slot} : List.lookup (Str.ofString "one") (Z tb20 vs) = some (gD vs 7) := Z_look (by kernel_rfl) (by kernel_rfl)
theorem u20one {vs : List Slot} {s : Slot} {K : Sg → Prop} : updK (Str.ofString "one") s (Z tb20 vs) K = sdK vs 7 s fun r => K (Z tb20 r) := Z_updK (by kernel_rfl) (by kernel_rfl)
theorem s20one : storable (kdOf vw 20) (Str.ofString "one") = true := by kernel_rfl
theorem z20two {vs : List Slot} : List.lookup (Str.ofString "two") (Z tb20 vs) = some (gD vs 8) := Z_look (by kernel_rfl) (by kernel_rfl)
theorem u20two {vs : List Slot} {s : Slot} {K : Sg → Prop} : updK (Str.ofString "two") s (Z tb20 vs) K = sdK vs 8 s fun r => K (Z tb20 r) := Z_updK (by kernel_rfl) (by kernel_rfl)
theorem s20two : storable (kdOf vw 20) (Str.ofString "two") = true := by kernel_rfl
theorem z20three {vs : List Slot} : List.lookup (Str.ofString "three") (Z tb20 vs) = some (gD vs 9) := Z_look (by kernel_rfl) (by kernel_rfl)
theorem u20three {vs : List Slot} {s : Slot} {K : Sg → Prop} : updK (Str.ofString "three") s (Z tb20 vs) K = sdK vs 9 s fun r => K (Z tb20 r) := Z_updK (by kernel_rfl) (by kernel_rfl)
theorem s20three : storable (kdOf vw 20) (Str.ofString "three") = true := by kernel_rfl
theorem z20turn {vs : List Slot} : List.lookup (Str.ofString "turn") (Z tb20 vs) = some (gD vs 10) := Z_look (by kernel_rfl) (by kernel_rfl)
theorem u20turn {vs : List Slot} {s : Slot} {K : Sg → Prop} : updK (Str.ofString "turn") s (Z tb20 vs) K = sdK vs 10 s fun r => K (Z tb20 r) := Z_updK (by kernel_rfl) (by kernel_rfl)
theorem s20turn : storable (kdOf vw 20) (Str.ofString "turn") = true := by kernel_rfl
theorem z20total {vs : List Slot} : List.lookup (Str.ofString "total") (Z tb20 vs) = some (gD vs 11) := Z_look (by kernel_rfl) (by kernel_rfl)
theorem u20total {vs : List Slot} {s : Slot} {K : Sg → Prop} : updK (Str.ofString "total") s (Z tb20 vs) K = sdK vs 11 s fun r => K (Z tb20 r) := Z_updK (by kernel_rfl) (by kernel_rfl)
theorem s20total : storable (kdOf vw 20) (Str.ofString "total") = true := by kernel_rfl
theorem z20spot {vs : List Slot} : List.lookup (Str.ofString "spot") (Z tb20 vs) = some (gD vs 12) := Z_look (by kernel_rfl) (by kernel_rfl)
theorem u20spot {vs : List Slot} {s : Slot} {K : Sg → Prop} : updK (Str.ofString "spot") s (Z tb20 vs) K = sdK vs 12 s fun r => K (Z tb20 r) := Z_updK (by kernel_rfl) (by kernel_rfl)
theorem s20spot : storable (kdOf vw 20) (Str.ofString "spot") = true := by kernel_rfl
theorem z20result {vs : List Slot} : List.lookup (Str.ofString "result") (Z tb20 vs) = some (gD vs 13) := Z_look (by kernel_rfl) (by kernel_rfl)
theorem u20result {vs : List Slot} {s : Slot} {K : Sg → Prop} : updK (Str.ofString "result") s (Z tb20 vs) K = sdK vs 13 s fun r => K (Z tb20 r) := Z_updK (by kernel_rfl) (by kernel_rfl)
theorem s20result : storable (kdOf vw 20) (Str.ofString "result") = true := by kernel_rfl
theorem z20first {vs : List Slot} : List.lookup (Str.ofString "first") (Z tb20 vs) = some (gD vs 14) := Z_look (by kernel_rfl) (by kernel_rfl)
theorem u20first {vs : List Slot} {s : Slot} {K : Sg → Prop} : updK (Str.ofString "first") s (Z tb20 vs) K = sdK vs 14 s fun r => K (Z tb20 r) := Z_updK (by kernel_rfl) (by kernel_rfl)
theorem s20first : storable (kdOf vw 20) (Str.ofString "first") = true := by kernel_rfl
theorem z20second {vs : List Slot} : List.lookup (Str.ofString "second") (Z tb20 vs) = some (gD vs 15) := Z_look (by kernel_rfl) (by kernel_rfl)
theorem u20second {vs : List Slot} {s : Slot} {K : Sg → Prop} : updK (Str.ofString "second") s (Z tb20 vs) K = sdK vs 15 s fun r => K (Z tb20 r) := Z_updK (by kernel_rfl) (by kernel_rfl)
theorem s20second : storable (kdOf vw 20) (Str.ofString "second") = true := by kernel_rfl
theorem z20head {vs : List Slot} : List.lookup (Str.ofString "head") (Z tb20 vs) = some (gD vs 16) := Z_look (by kernel_rfl) (by kernel_rfl)
theorem u20head {vs : List Slot} {s : Slot} {K : Sg → Prop} : updK (Str.ofString "head") s (Z tb20 vs) K = sdK vs 16 s fun r => K (Z tb20 r) := Z_updK (by kernel_rfl) (by kernel_rfl)
theorem s20head : storable (kdOf vw 20) (Str.ofString "head") = true := by kernel_rfl
theorem z20filled {vs : List Slot} : List.lookup (Str.ofString "filled") (Z tb20 vs) = some (gD vs 17) := Z_look (by kernel_rfl) (by kernel_rfl)
theorem u20filled {vs : List Slot} {s : Slot} {K : Sg → Prop} : updK (Str.ofString "filled") s (Z tb20 vs) K = sdK vs 17 s fun r => K (Z tb20 r) := Z_updK (by kernel_rfl) (by kernel_rfl)
theorem s20filled : storable (kdOf vw 20) (Str.ofString "filled") = true := by kernel_rfl
theorem k20cells : kdOf vw 20 (Str.ofString "cells") = some .cell := by kernel_rfl
theorem k20list : kdOf vw 20 (Str.ofString "list") = some .globalImplicit := by kernel_rfl
theorem k20range : kdOf vw 20 (Str.ofString "range") = some .globalImplicit := by kernel_rfl
theorem k20sorted : kdOf vw 20 (Str.ofString "sorted") = some .globalImplicit := by kernel_rfl
theorem k20D0 : kdOf vw 20 (Str.ofString ".0") = none := by kernel_rfl
theorem k20rows : kdOf vw 20 (Str.ofString "rows") = some .local := by kernel_rfl
theorem k20firsts : kdOf vw 20 (Str.ofString "firsts") = some .local := by kernel_rfl
theorem k20held : kdOf vw 20 (Str.ofString "held") = some .local := by kernel_rfl
theorem k20high : kdOf vw 20 (Str.ofString "high") = some .local := by kernel_rfl
theorem k20last_mark : kdOf vw 20 (Str.ofString "last_mark") = some .local := by kernel_rfl
theorem k20name : kdOf vw 20 (Str.ofString "name") = some .local := by kernel_rfl
theorem k20one : kdOf vw 20 (Str.ofString "one") = some .local := by kernel_rfl
theorem k20two : kdOf vw 20 (Str.ofString "two") = some .local := by kernel_rfl
theorem k20three : kdOf vw 20 (Str.ofString "three") = some .local := by kernel_rfl
theorem k20turn : kdOf vw 20 (Str.ofString "turn") = some .local := by kernel_rfl
theorem k20total : kdOf vw 20 (Str.ofString "total") = some .local := by kernel_rfl
theorem k20spot : kdOf vw 20 (Str.ofString "spot") = some .local := by kernel_rfl
theorem k20result : kdOf vw 20 (Str.ofString "result") = some .local := by kernel_rfl
theorem k20first : kdOf vw 20 (Str.ofString "first") = some .local := by kernel_rfl
theorem k20second : kdOf vw 20 (Str.ofString "second") = some .local := by kernel_rfl
theorem k20head : kdOf vw 20 (Str.ofString "head") = some .local := by kernel_rfl
theorem k20filled : kdOf vw 20 (Str.ofString "filled") = some .local := by kernel_rfl
def U20 := And.intro @u20rows (And.intro @u20firsts (And.intro @u20held (And.intro @u20cells (And.intro @u20high (And.intro @u20last_mark (And.intro @u20name (And.intro @u20one (And.intro @u20two (And.intro @u20three (And.intro @u20turn (And.intro @u20total (And.intro @u20spot (And.intro @u20result (And.intro @u20first (And.intro @u20second (And.intro @u20head (@u20filled)))))))))))))))))
def N20 := And.intro @z20rows (And.intro s20rows (And.intro @z20firsts (And.intro s20firsts (And.intro @z20held (And.intro s20held (And.intro @z20cells (And.intro s20cells (And.intro @z20high (And.intro s20high (And.intro @z20last_mark (And.intro s20last_mark (And.intro @z20name (And.intro s20name (And.intro @z20one (And.intro s20one (And.intro @z20two (And.intro s20two (And.intro @z20three (And.intro s20three (And.intro @z20turn (And.intro s20turn (And.intro @z20total (And.intro s20total (And.intro @z20spot (And.intro s20spot (And.intro @z20result (And.intro s20result (And.intro @z20first (And.intro s20first (And.intro @z20second (And.intro s20second (And.intro @z20head (And.intro s20head (And.intro @z20filled (And.intro s20filled (And.intro k20cells (And.intro k20list (And.intro k20range (And.intro k20sorted (And.intro k20D0 (And.intro k20rows (And.intro k20firsts (And.intro k20held (And.intro k20high (And.intro k20last_mark (And.intro k20name (And.intro k20one (And.intro k20two (And.intro k20three (And.intro k20turn (And.intro k20total (And.intro k20spot (And.intro k20result (And.intro k20first (And.intro k20second (And.intro k20head (k20filled)))))))))))))))))))))))))))))))))))))))))))))))))))))))))
def tb21 : List Str := [Str.ofString "script", Str.ofString "seeds", Str.ofString "many", Str.ofString "rows", Str.ofString "firsts", Str.ofString "pairs", Str.ofString "due", Str.ofString "each", Str.ofString "swapped_rows", Str.ofString "later", Str.ofString "name", Str.ofString "one", Str.ofString "two", Str.ofString "three", Str.ofString "sets_it", Str.ofString "reads_it"]
theorem z21script {vs : List Slot} : List.lookup (Str.ofString "script") (Z tb21 vs) = some (gD vs 0) := Z_look (by kernel_rfl) (by kernel_rfl)
theorem u21script {vs : List Slot} {s : Slot} {K : Sg → Prop} : updK (Str.ofString "script") s (Z tb21 vs) K = sdK vs 0 s fun r => K (Z tb21 r) := Z_updK (by kernel_rfl) (by kernel_rfl)
theorem s21script : storable (kdOf vw 21) (Str.ofString "script") = true := by kernel_rfl
theorem z21seeds {vs : List Slot} : List.lookup (Str.ofString "seeds") (Z tb21 vs) = some (gD vs 1) := Z_look (by kernel_rfl) (by kernel_rfl)
theorem u21seeds {vs : List Slot} {s : Slot} {K : Sg → Prop} : updK (Str.ofString "seeds") s (Z tb21 vs) K = sdK vs 1 s fun r => K (Z tb21 r) := Z_updK (by kernel_rfl) (by kernel_rfl)
theorem s21seeds : storable (kdOf vw 21) (Str.ofString "seeds") = true := by kernel_rfl
theorem z21many {vs : List Slot} : List.lookup (Str.ofString "many") (Z tb21 vs) = some (gD vs 2) := Z_look (by kernel_rfl) (by kernel_rfl)
theorem u21many {vs : List Slot} {s : Slot} {K : Sg → Prop} : updK (Str.ofString "many") s (Z tb21 vs) K = sdK vs 2 s fun r => K (Z tb21 r) := Z_updK (by kernel_rfl) (by kernel_rfl)
theorem s21many : storable (kdOf vw 21) (Str.ofString "many") = true := by kernel_rfl
theorem z21rows {vs : List Slot} : List.lookup (Str.ofString "rows") (Z tb21 vs) = some (gD vs 3) := Z_look (by kernel_rfl) (by kernel_rfl)
theorem u21rows {vs : List Slot} {s : Slot} {K : Sg → Prop} : updK (Str.ofString "rows") s (Z tb21 vs) K = sdK vs 3 s fun r => K (Z tb21 r) := Z_updK (by kernel_rfl) (by kernel_rfl)
theorem s21rows : storable (kdOf vw 21) (Str.ofString "rows") = true := by kernel_rfl
theorem z21firsts {vs : List Slot} : List.lookup (Str.ofString "firsts") (Z tb21 vs) = some (gD vs 4) := Z_look (by kernel_rfl) (by kernel_rfl)
theorem u21firsts {vs : List Slot} {s : Slot} {K : Sg → Prop} : updK (Str.ofString "firsts") s (Z tb21 vs) K = sdK vs 4 s fun r => K (Z tb21 r) := Z_updK (by kernel_rfl) (by kernel_rfl)
theorem s21firsts : storable (kdOf vw 21) (Str.ofString "firsts") = true := by kernel_rfl
theorem z21pairs {vs : List Slot} : List.lookup (Str.ofString "pairs") (Z tb21 vs) = some (gD vs 5) := Z_look (by kernel_rfl) (by kernel_rfl)
theorem u21pairs {vs : List Slot} {s : Slot} {K : Sg → Prop} : updK (Str.ofString "pairs") s (Z tb21 vs) K = sdK vs 5 s fun r => K (Z tb21 r) := Z_updK (by kernel_rfl) (by kernel_rfl)
theorem s21pairs : storable (kdOf vw 21) (Str.ofString "pairs") = true := by kernel_rfl
theorem z21due {vs : List Slot} : List.lookup (Str.ofString "due") (Z tb21 vs) = some (gD vs 6) := Z_look (by kernel_rfl) (by kernel_rfl)
theorem u21due {vs : List Slot} {s : Slot} {K : Sg → Prop} : updK (Str.ofString "due") s (Z tb21 vs) K = sdK vs 6 s fun r => K (Z tb21 r) := Z_updK (by kernel_rfl) (by kernel_rfl)
theorem s21due : storable (kdOf vw 21) (Str.ofString "due") = true := by kernel_rfl
theorem z21each {vs : List Slot} : List.lookup (Str.ofString "each") (Z tb21 vs) = some (gD vs 7) := Z_look (by kernel_rfl) (by kernel_rfl)
theorem u21each {vs : List Slot} {s : Slot} {K : Sg → Prop} : updK (Str.ofString "each") s (Z tb21 vs) K = sdK vs 7 s fun r => K (Z tb21 r) := Z_updK (by kernel_rfl) (by kernel_rfl)
theorem s21each : storable (kdOf vw 21) (Str.ofString "each") = true := by kernel_rfl
theorem z21swapped_rows {vs : List Slot} : List.lookup (Str.ofString "swapped_rows") (Z tb21 vs) = some (gD vs 8) := Z_look (by kernel_rfl) (by kernel_rfl)
theorem u21swapped_rows {vs : List Slot} {s : Slot} {K : Sg → Prop} : updK (Str.ofString "swapped_rows") s (Z tb21 vs) K = sdK vs 8 s fun r => K (Z tb21 r) := Z_updK (by kernel_rfl) (by kernel_rfl)
theorem s21swapped_rows : storable (kdOf vw 21) (Str.ofString "swapped_rows") = true := by kernel_rfl
theorem z21later {vs : List Slot} : List.lookup (Str.ofString "later") (Z tb21 vs) = some (gD vs 9) := Z_look (by kernel_rfl) (by kernel_rfl)
theorem u21later {vs : List Slot} {s : Slot} {K : Sg → Prop} : updK (Str.ofString "later") s (Z tb21 vs) K = sdK vs 9 s fun r => K (Z tb21 r) := Z_updK (by kernel_rfl) (by kernel_rfl)
theorem s21later : storable (kdOf vw 21) (Str.ofString "later") = true := by kernel_rfl
theorem z21name {vs : List Slot} : List.lookup (Str.ofString "name") (Z tb21 vs) = some (gD vs 10) := Z_look (by kernel_rfl) (by kernel_rfl)
theorem u21name {vs : List Slot} {s : Slot} {K : Sg → Prop} : updK (Str.ofString "name") s (Z tb21 vs) K = sdK vs 10 s fun r => K (Z tb21 r) := Z_updK (by kernel_rfl) (by kernel_rfl)
theorem s21name : storable (kdOf vw 21) (Str.ofString "name") = true := by kernel_rfl
theorem z21one {vs : List Slot} : List.lookup (Str.ofString "one") (Z tb21 vs) = some (gD vs 11) := Z_look (by kernel_rfl) (by kernel_rfl)
theorem u21one {vs : List Slot} {s : Slot} {K : Sg → Prop} : updK (Str.ofString "one") s (Z tb21 vs) K = sdK vs 11 s fun r => K (Z tb21 r) := Z_updK (by kernel_rfl) (by kernel_rfl)
theorem s21one : storable (kdOf vw 21) (Str.ofString "one") = true := by kernel_rfl
theorem z21two {vs : List Slot} : List.lookup (Str.ofString "two") (Z tb21 vs) = some (gD vs 12) := Z_look (by kernel_rfl) (by kernel_rfl)
theorem u21two {vs : List Slot} {s : Slot} {K : Sg → Prop} : updK (Str.ofString "two") s (Z tb21 vs) K = sdK vs 12 s fun r => K (Z tb21 r) := Z_updK (by kernel_rfl) (by kernel_rfl)
theorem s21two : storable (kdOf vw 21) (Str.ofString "two") = true := by kernel_rfl
theorem z21three {vs : List Slot} : List.lookup (Str.ofString "three") (Z tb21 vs) = some (gD vs 13) := Z_look (by kernel_rfl) (by kernel_rfl)
theorem u21three {vs : List Slot} {s : Slot} {K : Sg → Prop} : updK (Str.ofString "three") s (Z tb21 vs) K = sdK vs 13 s fun r => K (Z tb21 r) := Z_updK (by kernel_rfl) (by kernel_rfl)
theorem s21three : storable (kdOf vw 21) (Str.ofString "three") = true := by kernel_rfl
theorem z21sets_it {vs : List Slot} : List.lookup (Str.ofString "sets_it") (Z tb21 vs) = some (gD vs 14) := Z_look (by kernel_rfl) (by kernel_rfl)
theorem u21sets_it {vs : List Slot} {s : Slot} {K : Sg → Prop} : updK (Str.ofString "sets_it") s (Z tb21 vs) K = sdK vs 14 s fun r => K (Z tb21 r) := Z_updK (by kernel_rfl) (by kernel_rfl)
theorem s21sets_it : storable (kdOf vw 21) (Str.ofString "sets_it") = true := by kernel_rfl
theorem z21reads_it {vs : List Slot} : List.lookup (Str.ofString "reads_it") (Z tb21 vs) = some (gD vs 15) := Z_look (by kernel_rfl) (by kernel_rfl)
theorem u21reads_it {vs : List Slot} {s : Slot} {K : Sg → Prop} : updK (Str.ofString "reads_it") s (Z tb21 vs) K = sdK vs 15 s fun r => K (Z tb21 r) := Z_updK (by kernel_rfl) (by kernel_rfl)
theorem s21reads_it : storable (kdOf vw 21) (Str.ofString "reads_it") = true := by kernel_rfl
theorem k21seeds : kdOf vw 21 (Str.ofString "seeds") = some .cell := by kernel_rfl
theorem k21many : kdOf vw 21 (Str.ofString "many") = some .cell := by kernel_rfl
theorem k21QlawQseeds : kdOf vw 21 (Str.ofString "_law_seeds") = some .globalImplicit := by kernel_rfl
theorem k21range : kdOf vw 21 (Str.ofString "range") = some .globalImplicit := by kernel_rfl
theorem k21order_pairs : kdOf vw 21 (Str.ofString "order_pairs") = some .globalImplicit := by kernel_rfl
theorem k21list : kdOf vw 21 (Str.ofString "list") = some .globalImplicit := by kernel_rfl
theorem k21sorted : kdOf vw 21 (Str.ofString "sorted") = some .globalImplicit := by kernel_rfl
theorem k21QlawQstepped : kdOf vw 21 (Str.ofString "_law_stepped") = some .globalImplicit := by kernel_rfl
theorem k21D0 : kdOf vw 21 (Str.ofString ".0") = none := by kernel_rfl
theorem k21QlawQrow : kdOf vw 21 (Str.ofString "_law_row") = none := by kernel_rfl
theorem k21pair : kdOf vw 21 (Str.ofString "pair") = none := by kernel_rfl
theorem k21script : kdOf vw 21 (Str.ofString "script") = some .local := by kernel_rfl
theorem k21rows : kdOf vw 21 (Str.ofString "rows") = some .local := by kernel_rfl
theorem k21firsts : kdOf vw 21 (Str.ofString "firsts") = some .local := by kernel_rfl
theorem k21pairs : kdOf vw 21 (Str.ofString "pairs") = some .local := by kernel_rfl
theorem k21due : kdOf vw 21 (Str.ofString "due") = some .local := by kernel_rfl
theorem k21each : kdOf vw 21 (Str.ofString "each") = some .local := by kernel_rfl
theorem k21swapped_rows : kdOf vw 21 (Str.ofString "swapped_rows") = some .local := by kernel_rfl
theorem k21later : kdOf vw 21 (Str.ofString "later") = some .local := by kernel_rfl
theorem k21name : kdOf vw 21 (Str.ofString "name") = some .local := by kernel_rfl
theorem k21one : kdOf vw 21 (Str.ofString "one") = some .local := by kernel_rfl
theorem k21two : kdOf vw 21 (Str.ofString "two") = some .local := by kernel_rfl
theorem k21three : kdOf vw 21 (Str.ofString "three") = some .local := by kernel_rfl
theorem k21sets_it : kdOf vw 21 (Str.ofString "sets_it") = some .local := by kernel_rfl
theorem k21reads_it : kdOf vw 21 (Str.ofString "reads_it") = some .local := by kernel_rfl
def U21 := And.intro @u21script (And.intro @u21seeds (And.intro @u21many (And.intro @u21rows (And.intro @u21firsts (And.intro @u21pairs (And.intro @u21due (And.intro @u21each (And.intro @u21swapped_rows (And.intro @u21later (And.intro @u21name (And.intro @u21one (And.intro @u21two (And.intro @u21three (And.intro @u21sets_it (@u21reads_it)))))))))))))))
def N21 := And.intro @z21script (And.intro s21script (And.intro @z21seeds (And.intro s21seeds (And.intro @z21many (And.intro s21many (And.intro @z21rows (And.intro s21rows (And.intro @z21firsts (And.intro s21firsts (And.intro @z21pairs (And.intro s21pairs (And.intro @z21due (And.intro s21due (And.intro @z21each (And.intro s21each (And.intro @z21swapped_rows (And.intro s21swapped_rows (And.intro @z21later (And.intro s21later (And.intro @z21name (And.intro s21name (And.intro @z21one (And.intro s21one (And.intro @z21two (And.intro s21two (And.intro @z21three (And.intro s21three (And.intro @z21sets_it (And.intro s21sets_it (And.intro @z21reads_it (And.intro s21reads_it (And.intro k21seeds (And.intro k21many (And.intro k21QlawQseeds (And.intro k21range (And.intro k21order_pairs (And.intro k21list (And.intro k21sorted (And.intro k21QlawQstepped (And.intro k21D0 (And.intro k21QlawQrow (And.intro k21pair (And.intro k21script (And.intro k21rows (And.intro k21firsts (And.intro k21pairs (And.intro k21due (And.intro k21each (And.intro k21swapped_rows (And.intro k21later (And.intro k21name (And.intro k21one (And.intro k21two (And.intro k21three (And.intro k21sets_it (k21reads_it))))))))))))))))))))))))))))))))))))))))))))))))))))))))
theorem bitAnd_nat (x y : Nat) : Builtin.bitAnd (x : Int) (y : Int) = ((x &&& y : Nat) : Int) := by
  unfold Builtin.bitAnd
  simp
theorem bitNot_nat (x : Nat) : (Builtin.bitNot (Builtin.bitNot (x : Int))) = x := by
  unfold Builtin.bitNot; omega
theorem bitOr_nat (x y : Nat) : Builtin.bitOr (x : Int) (y : Int) = ((x ||| y : Nat) : Int) := by
  unfold Builtin.bitOr
  have hx : ¬ (0 ≤ Builtin.bitNot (x : Int)) := by unfold Builtin.bitNot; omega
  have hy : ¬ (0 ≤ Builtin.bitNot (y : Int)) := by unfold Builtin.bitNot; omega
  have e : Builtin.bitAnd (Builtin.bitNot (x : Int)) (Builtin.bitNot (y : Int)) = Builtin.bitNot ((x ||| y : Nat) : Int) := by
    unfold Builtin.bitAnd
    rw [decide_eq_false hx, decide_eq_false hy]
    dsimp only
    rw [bitNot_nat, bitNot_nat]
    rfl
  rw [e, bitNot_nat]
theorem bitAnd_low (x : Int) : 0 ≤ Builtin.bitAnd x 4294967295 ∧ Builtin.bitAnd x 4294967295 < 4294967296 := by
  have e : (4294967295 : Int) = ((4294967295 : Nat) : Int) := rfl
  by_cases hx : 0 ≤ x
  · obtain ⟨n, rfl⟩ := Int.eq_ofNat_of_zero_le hx
    rw [e, bitAnd_nat]
    have : n &&& 4294967295 ≤ 4294967295 := Nat.and_le_right
    omega
  · unfold Builtin.bitAnd
    rw [decide_eq_false hx]
    simp only [show decide ((0 : Int) ≤ 4294967295) = true from rfl]
    have : (4294967295 : Int).toNat &&& (Builtin.bitNot x).toNat ≤ 4294967295 := Nat.and_le_left
    omega
theorem fdiv_nat (x k : Nat) : ((x : Int).fdiv (2 ^ k)) = ((x >>> k : Nat) : Int) := by
  rw [Nat.shiftRight_eq_div_pow]
  have : ((2 : Int) ^ k) = ((2 ^ k : Nat) : Int) := by simp
  rw [this]
  exact (Int.ofNat_fdiv _ _).symm
theorem bit_at (x k : Nat) : (Builtin.bitAnd ((x : Int).fdiv (2 ^ k)) 1 == 1) = x.testBit k := by
  rw [fdiv_nat, show (1 : Int) = ((1 : Nat) : Int) from rfl, bitAnd_nat]
  rw [Nat.testBit_eq_decide_div_mod_eq, Nat.shiftRight_eq_div_pow, Nat.and_one_is_mod]
  rw [Bool.eq_iff_iff, beq_iff_eq, decide_eq_true_eq]
  omega
structure VR (r : Row) : Prop where
  a0 : 0 ≤ r.a
  a1 : r.a < 4
  b0 : 0 ≤ r.b
  b1 : r.b < 6
  c0 : 0 ≤ r.c
  c1 : r.c < 500
  cr : r.op ≠ .movi → r.op ≠ .addi → r.op ≠ .lsli → r.op ≠ .andi → r.op.isMem = false → r.c < 6
  cl : r.op = .lsli → r.c < 29
  mb : r.op.isMem = true → 4 ≤ r.b
  mc : r.op.isMem = true → r.c < 9
theorem VR.aU {r : Row} (h : VR r) : r.a ≤ 1000000 := by have := h.a1; omega
theorem VR.bU {r : Row} (h : VR r) : r.b ≤ 1000000 := by have := h.b1; omega
theorem VR.cU {r : Row} (h : VR r) : r.c ≤ 1000000 := by have := h.c1; omega
def p2 (i : Int) : Int := 1 * 2 ^ i.toNat
def wset (r : Row) : Int := match r.op with
  | .ldr => p2 r.a | .ldb => p2 r.a | .str => 0 | .stb => 0
  | .mul => Builtin.bitOr (Builtin.bitOr (p2 r.a) (p2 17)) (p2 16)
  | _ => Builtin.bitOr (p2 r.a) (p2 17)
def rset (r : Row) : Int := match r.op with
  | .ldr => p2 r.b | .ldb => p2 r.b | .str => Builtin.bitOr (p2 r.a) (p2 r.b) | .stb => Builtin.bitOr (p2 r.a) (p2 r.b)
  | .mov => p2 r.c | .geth => p2 16 | .movi => 0
  | .addi => p2 r.b | .lsli => p2 r.b | .andi => p2 r.b
  | _ => Builtin.bitOr (p2 r.b) (p2 r.c)
theorem wset_ld {r : Row} (h : r.op.isLd = true) : wset r = p2 r.a := by
  unfold wset; cases ho : r.op <;> first | rfl | (rw [ho] at h; exact absurd h (by decide))
theorem wset_st {r : Row} (h : r.op.isSt = true) : wset r = 0 := by
  unfold wset; cases ho : r.op <;> first | rfl | (rw [ho] at h; exact absurd h (by decide))
theorem wset_mul {r : Row} (h : r.op = .mul) : wset r = Builtin.bitOr (Builtin.bitOr (p2 r.a) (p2 17)) (p2 16) := by
  unfold wset; rw [h]
theorem wset_r {r : Row} (h : r.op.isSt = false) (h2 : r.op.isLd = false) (h3 : r.op ≠ .mul) : wset r = Builtin.bitOr (p2 r.a) (p2 17) := by
  unfold wset; cases ho : r.op <;> first | rfl | (rw [ho] at h; exact absurd h (by decide)) | (rw [ho] at h2; exact absurd h2 (by decide)) | exact absurd ho h3
theorem rset_ld {r : Row} (h : r.op.isLd = true) : rset r = p2 r.b := by
  unfold rset; cases ho : r.op <;> first | rfl | (rw [ho] at h; exact absurd h (by decide))
theorem rset_st {r : Row} (h : r.op.isSt = true) : rset r = Builtin.bitOr (p2 r.a) (p2 r.b) := by
  unfold rset; cases ho : r.op <;> first | rfl | (rw [ho] at h; exact absurd h (by decide))
theorem rset_reg {r : Row} (h : r.op.isReg = true) : rset r = Builtin.bitOr (p2 r.b) (p2 r.c) := by
  unfold rset; cases ho : r.op <;> first | rfl | (rw [ho] at h; exact absurd h (by decide))
theorem rset_imm {r : Row} (h : r.op.isLd = false) (h2 : r.op.isSt = false) (h3 : r.op.isReg = false) (h4 : r.op.base ≠ "") : rset r = p2 r.b := by
  unfold rset; cases ho : r.op <;> first | rfl | (rw [ho] at h; exact absurd h (by decide)) | (rw [ho] at h2; exact absurd h2 (by decide)) | (rw [ho] at h3; exact absurd h3 (by decide)) | (rw [ho] at h4; exact absurd rfl h4)
theorem rset_no {r : Row} (h : r.op.isLd = false) (h2 : r.op.isSt = false) (h3 : r.op ≠ .mov) (h4 : r.op ≠ .geth) (h5 : r.op.base = "") : rset r = 0 := by
  unfold rset; cases ho : r.op <;> first | rfl | (rw [ho] at h; exact absurd h (by decide)) | (rw [ho] at h2; exact absurd h2 (by decide)) | exact absurd ho h3 | exact absurd ho h4 | (rw [ho] at h5; exact absurd h5 (by decide))
theorem ne_emp {o : Op} {B : Bool → Prop} : cmpW .NotEq (.str (Str.ofString o.base)) (.str (Str.ofString "")) B = B (o.base != "") := by
  show B (Str.ofString o.base != Str.ofString "") = _
  unfold bne; rw [qcI]
theorem bo {a b : Bool} (h : a = b) : PyData.bool a = .bool b := by rw [h]
theorem io {a b : Int} (h : a = b) : PyData.int a = .int b := by rw [h]
theorem so {a b : String} (h : a = b) : PyData.str (Str.ofString a) = .str (Str.ofString b) := by rw [h]
theorem ld_of (o : Op) : (decide (o = .ldr) || decide (o = .ldb)) = o.isLd := by cases o <;> rfl
theorem st_of (o : Op) : (decide (o = .str) || decide (o = .stb)) = o.isSt := by cases o <;> rfl
section
variable {cx : Cx} (hS : SortOk cx) (hp : cx.p = vw)
include hp
theorem g_high : GInt cx "HIGH" 16 := gint_of (by rw [qcI]; rfl) (by rw [hp]; kernel_rfl)
theorem g_flags : GInt cx "FLAGS" 17 := gint_of (by rw [qcI]; rfl) (by rw [hp]; kernel_rfl)
include hS
theorem c_calculations : CallsTo cx 1 "calculations" [] (.tuple (calcs.map fun (x : String) => PyData.str (Str.ofString x))) := by
  refine fn_at2 hS hp 2 (own := []) (k := 0) (n := 3) (m := 3) (xs := []) (ys := []) (tb := tb2) rfl (by kernel_rfl) rfl rfl (fun _ _ _ vs h => ?_) rfl (by kernel_rfl) (by simp [qcJ]) rfl ?_
  · rcases vs with _ | ⟨w, ws⟩ <;> first | rfl | simp at h
  simp (maxSteps := 1000000) (dsimp := false) only [↓qaG, ↓qaH, ↓qcp, ↓qco, ↓qcn, ↓qcq, ↓qa4, ↓qbG, ↓qbF, ↓qaa, ↓qac, ↓qab, ↓qba, ↓qbe, ↓qa6, ↓qbi, ↓qa5, ↓qbf, ↓qbb, ↓qa9, ↓qbh, ↓qbd, ↓qbg, ↓qcL, ↓qcK, ↓qcM, ↓qb4, ↓qbk, ↓qbj, ↓qaF, ↓qaE, ↓qcN, ↓qcO, ↓qa8, ↓qa7, ↓qbc, ↓qcT, ↓qcP, ↓qcR, ↓qcS, ↓qcQ, ↓qbl, ↓qbt, ↓qbs, ↓qbm, ↓qbo, ↓qbq, ↓qbu, ↓qbp, ↓qbr, ↓qbn, ↓qbW, ↓qbX, ↓qaf, ↓qae, ↓qag, ↓qaP, ↓qaO, ↓qaK, ↓qaJ, ↓qaL, ↓qaM, ↓qaN, ↓qaZ, ↓qbU, ↓qbH, ↓qbI, ↓qbJ, ↓qbK, ↓qcf, ↓qcg, ↓qch, ↓qci, ↓qa1, ↓qa3, ↓qa0, ↓qa2, ↓qar, ↓qaA, ↓qaw, ↓qav, ↓qau, ↓qay, ↓qaz, ↓qas, ↓qax, ↓qaB, ↓qat, ↓qcV, ↓qcU, ↓qaQ, ↓qaW, ↓qaV, ↓qaU, ↓qcF, ↓qcC, ↓qcz, ↓qcG, ↓qcA, ↓qcD, ↓qcE, ↓qcH, ↓qcB, ↓qb5, ↓qb3, ↓qb2, ↓qb1, ↓qbZ, ↓qbY, ↓qb0, ↓qcx, ↓qcv, ↓qcw, ↓qcu, ↓qcy, ↓qb9, ↓qcb, ↓qb6, ↓qce, ↓qcc, ↓qb8, ↓qca, ↓qcd, ↓qb7, ↓qaY, ↓qan, ↓qai, ↓qaj, ↓qam, ↓qak, ↓qal, ↓qct, ↓qcs, ↓qcr, ↓qaq, ↓qao, ↓qap, ↓qbv, ↓qah, ↓qbS, ↓qbC, ↓qaD, ↓qaC, ↓qbx, ↓qbw, ↓qcW, ↓qbT, ↓qbM, ↓qbN, ↓qbL, ↓qbD, ↓qbE, ↓qbO, qad, qbB, qbA, qbz, ↓qck, ↓qcj, ↓qcm, ↓qcl, qbV, ↓qbQ, ↓qbP, ↓qbR, qby, qcI, qcJ, qaI, behindInMarks, lastMarks, Option.map_some, List.contains_cons, List.map_cons, List.map_nil, String.reduceBEq, String.reduceEq, Bool.and_true, Bool.true_and, Bool.and_false, Bool.false_and, Bool.or_true, Bool.true_or, Bool.or_false, Bool.false_or, Bool.not_true, Bool.not_false, and_true, true_and, exists_eq_left', exists_eq_left, beq_self_eq_true, List.length_cons, List.length_nil, Nat.reduceAdd, Nat.zero_add, Nat.reduceLeDiff, decide_true, decide_false, if_false, if_true, reduceCtorEq, ↓qaR, ↓qaX, ↓qaS, ↓qaT, N2]
  rfl
theorem c_is_load (r : Row) : CallsTo cx 1 "is_load" [rowD r] (.bool r.op.isLd) := by
  refine fn_at2 hS hp 4 (own := []) (k := 0) (n := 6) (m := 3) (xs := [Str.ofString "row"]) (ys := []) (tb := tb4) rfl (by kernel_rfl) rfl rfl (fun _ _ _ vs h => ?_) rfl (by kernel_rfl) (by simp [qcJ]) rfl ?_
  · rcases vs with _ | ⟨v1, _ | ⟨w, ws⟩⟩ <;> first | rfl | simp at h
  simp (maxSteps := 1000000) (dsimp := false) only [↓qaG, ↓qaH, ↓qcp, ↓qco, ↓qcn, ↓qcq, ↓qa4, ↓qbG, ↓qbF, ↓qaa, ↓qac, ↓qab, ↓qba, ↓qbe, ↓qa6, ↓qbi, ↓qa5, ↓qbf, ↓qbb, ↓qa9, ↓qbh, ↓qbd, ↓qbg, ↓qcL, ↓qcK, ↓qcM, ↓qb4, ↓qbk, ↓qbj, ↓qaF, ↓qaE, ↓qcN, ↓qcO, ↓qa8, ↓qa7, ↓qbc, ↓qcT, ↓qcP, ↓qcR, ↓qcS, ↓qcQ, ↓qbl, ↓qbt, ↓qbs, ↓qbm, ↓qbo, ↓qbq, ↓qbu, ↓qbp, ↓qbr, ↓qbn, ↓qbW, ↓qbX, ↓qaf, ↓qae, ↓qag, ↓qaP, ↓qaO, ↓qaK, ↓qaJ, ↓qaL, ↓qaM, ↓qaN, ↓qaZ, ↓qbU, ↓qbH, ↓qbI, ↓qbJ, ↓qbK, ↓qcf, ↓qcg, ↓qch, ↓qci, ↓qa1, ↓qa3, ↓qa0, ↓qa2, ↓qar, ↓qaA, ↓qaw, ↓qav, ↓qau, ↓qay, ↓qaz, ↓qas, ↓qax, ↓qaB, ↓qat, ↓qcV, ↓qcU, ↓qaQ, ↓qaW, ↓qaV, ↓qaU, ↓qcF, ↓qcC, ↓qcz, ↓qcG, ↓qcA, ↓qcD, ↓qcE, ↓qcH, ↓qcB, ↓qb5, ↓qb3, ↓qb2, ↓qb1, ↓qbZ, ↓qbY, ↓qb0, ↓qcx, ↓qcv, ↓qcw, ↓qcu, ↓qcy, ↓qb9, ↓qcb, ↓qb6, ↓qce, ↓qcc, ↓qb8, ↓qca, ↓qcd, ↓qb7, ↓qaY, ↓qan, ↓qai, ↓qaj, ↓qam, ↓qak, ↓qal, ↓qct, ↓qcs, ↓qcr, ↓qaq, ↓qao, ↓qap, ↓qbv, ↓qah, ↓qbS, ↓qbC, ↓qaD, ↓qaC, ↓qbx, ↓qbw, ↓qcW, ↓qbT, ↓qbM, ↓qbN, ↓qbL, ↓qbD, ↓qbE, ↓qbO, qad, qbB, qbA, qbz, ↓qck, ↓qcj, ↓qcm, ↓qcl, qbV, ↓qbQ, ↓qbP, ↓qbR, qby, qcI, qcJ, qaI, behindInMarks, lastMarks, Option.map_some, List.contains_cons, List.map_cons, List.map_nil, String.reduceBEq, String.reduceEq, Bool.and_true, Bool.true_and, Bool.and_false, Bool.false_and, Bool.or_true, Bool.true_or, Bool.or_false, Bool.false_or, Bool.not_true, Bool.not_false, and_true, true_and, exists_eq_left', exists_eq_left, beq_self_eq_true, List.length_cons, List.length_nil, Nat.reduceAdd, Nat.zero_add, Nat.reduceLeDiff, decide_true, decide_false, if_false, if_true, reduceCtorEq, N4, ↓U4, ↓eq_LDR, ↓eq_LDB]
  refine iteB_of (fun h => ?_) (fun h => ?_)
  · simp (maxSteps := 1000000) (dsimp := false) only [↓qaG, ↓qaH, ↓qcp, ↓qco, ↓qcn, ↓qcq, ↓qa4, ↓qbG, ↓qbF, ↓qaa, ↓qac, ↓qab, ↓qba, ↓qbe, ↓qa6, ↓qbi, ↓qa5, ↓qbf, ↓qbb, ↓qa9, ↓qbh, ↓qbd, ↓qbg, ↓qcL, ↓qcK, ↓qcM, ↓qb4, ↓qbk, ↓qbj, ↓qaF, ↓qaE, ↓qcN, ↓qcO, ↓qa8, ↓qa7, ↓qbc, ↓qcT, ↓qcP, ↓qcR, ↓qcS, ↓qcQ, ↓qbl, ↓qbt, ↓qbs, ↓qbm, ↓qbo, ↓qbq, ↓qbu, ↓qbp, ↓qbr, ↓qbn, ↓qbW, ↓qbX, ↓qaf, ↓qae, ↓qag, ↓qaP, ↓qaO, ↓qaK, ↓qaJ, ↓qaL, ↓qaM, ↓qaN, ↓qaZ, ↓qbU, ↓qbH, ↓qbI, ↓qbJ, ↓qbK, ↓qcf, ↓qcg, ↓qch, ↓qci, ↓qa1, ↓qa3, ↓qa0, ↓qa2, ↓qar, ↓qaA, ↓qaw, ↓qav, ↓qau, ↓qay, ↓qaz, ↓qas, ↓qax, ↓qaB, ↓qat, ↓qcV, ↓qcU, ↓qaQ, ↓qaW, ↓qaV, ↓qaU, ↓qcF, ↓qcC, ↓qcz, ↓qcG, ↓qcA, ↓qcD, ↓qcE, ↓qcH, ↓qcB, ↓qb5, ↓qb3, ↓qb2, ↓qb1, ↓qbZ, ↓qbY, ↓qb0, ↓qcx, ↓qcv, ↓qcw, ↓qcu, ↓qcy, ↓qb9, ↓qcb, ↓qb6, ↓qce, ↓qcc, ↓qb8, ↓qca, ↓qcd, ↓qb7, ↓qaY, ↓qan, ↓qai, ↓qaj, ↓qam, ↓qak, ↓qal, ↓qct, ↓qcs, ↓qcr, ↓qaq, ↓qao, ↓qap, ↓qbv, ↓qah, ↓qbS, ↓qbC, ↓qaD, ↓qaC, ↓qbx, ↓qbw, ↓qcW, ↓qbT, ↓qbM, ↓qbN, ↓qbL, ↓qbD, ↓qbE, ↓qbO, qad, qbB, qbA, qbz, ↓qck, ↓qcj, ↓qcm, ↓qcl, qbV, ↓qbQ, ↓qbP, ↓qbR, qby, qcI, qcJ, qaI, behindInMarks, lastMarks, Option.map_some, List.contains_cons, List.map_cons, List.map_nil, String.reduceBEq, String.reduceEq, Bool.and_true, Bool.true_and, Bool.and_false, Bool.false_and, Bool.or_true, Bool.true_or, Bool.or_false, Bool.false_or, Bool.not_true, Bool.not_false, and_true, true_and, exists_eq_left', exists_eq_left, beq_self_eq_true, List.length_cons, List.length_nil, Nat.reduceAdd, Nat.zero_add, Nat.reduceLeDiff, decide_true, decide_false, if_false, if_true, reduceCtorEq, N4, ↓U4]
    rw [h, ← ld_of, h]; rfl
  · simp (maxSteps := 1000000) (dsimp := false) only [↓qaG, ↓qaH, ↓qcp, ↓qco, ↓qcn, ↓qcq, ↓qa4, ↓qbG, ↓qbF, ↓qaa, ↓qac, ↓qab, ↓qba, ↓qbe, ↓qa6, ↓qbi, ↓qa5, ↓qbf, ↓qbb, ↓qa9, ↓qbh, ↓qbd, ↓qbg, ↓qcL, ↓qcK, ↓qcM, ↓qb4, ↓qbk, ↓qbj, ↓qaF, ↓qaE, ↓qcN, ↓qcO, ↓qa8, ↓qa7, ↓qbc, ↓qcT, ↓qcP, ↓qcR, ↓qcS, ↓qcQ, ↓qbl, ↓qbt, ↓qbs, ↓qbm, ↓qbo, ↓qbq, ↓qbu, ↓qbp, ↓qbr, ↓qbn, ↓qbW, ↓qbX, ↓qaf, ↓qae, ↓qag, ↓qaP, ↓qaO, ↓qaK, ↓qaJ, ↓qaL, ↓qaM, ↓qaN, ↓qaZ, ↓qbU, ↓qbH, ↓qbI, ↓qbJ, ↓qbK, ↓qcf, ↓qcg, ↓qch, ↓qci, ↓qa1, ↓qa3, ↓qa0, ↓qa2, ↓qar, ↓qaA, ↓qaw, ↓qav, ↓qau, ↓qay, ↓qaz, ↓qas, ↓qax, ↓qaB, ↓qat, ↓qcV, ↓qcU, ↓qaQ, ↓qaW, ↓qaV, ↓qaU, ↓qcF, ↓qcC, ↓qcz, ↓qcG, ↓qcA, ↓qcD, ↓qcE, ↓qcH, ↓qcB, ↓qb5, ↓qb3, ↓qb2, ↓qb1, ↓qbZ, ↓qbY, ↓qb0, ↓qcx, ↓qcv, ↓qcw, ↓qcu, ↓qcy, ↓qb9, ↓qcb, ↓qb6, ↓qce, ↓qcc, ↓qb8, ↓qca, ↓qcd, ↓qb7, ↓qaY, ↓qan, ↓qai, ↓qaj, ↓qam, ↓qak, ↓qal, ↓qct, ↓qcs, ↓qcr, ↓qaq, ↓qao, ↓qap, ↓qbv, ↓qah, ↓qbS, ↓qbC, ↓qaD, ↓qaC, ↓qbx, ↓qbw, ↓qcW, ↓qbT, ↓qbM, ↓qbN, ↓qbL, ↓qbD, ↓qbE, ↓qbO, qad, qbB, qbA, qbz, ↓qck, ↓qcj, ↓qcm, ↓qcl, qbV, ↓qbQ, ↓qbP, ↓qbR, qby, qcI, qcJ, qaI, behindInMarks, lastMarks, Option.map_some, List.contains_cons, List.map_cons, List.map_nil, String.reduceBEq, String.reduceEq, Bool.and_true, Bool.true_and, Bool.and_false, Bool.false_and, Bool.or_true, Bool.true_or, Bool.or_false, Bool.false_or, Bool.not_true, Bool.not_false, and_true, true_and, exists_eq_left', exists_eq_left, beq_self_eq_true, List.length_cons, List.length_nil, Nat.reduceAdd, Nat.zero_add, Nat.reduceLeDiff, decide_true, decide_false, if_false, if_true, reduceCtorEq, N4, ↓U4, ↓eq_LDB]
    rw [← ld_of, h, Bool.false_or]
theorem c_is_store (r : Row) : CallsTo cx 1 "is_store" [rowD r] (.bool r.op.isSt) := by
  refine fn_at2 hS hp 5 (own := []) (k := 0) (n := 6) (m := 3) (xs := [Str.ofString "row"]) (ys := []) (tb := tb5) rfl (by kernel_rfl) rfl rfl (fun _ _ _ vs h => ?_) rfl (by kernel_rfl) (by simp [qcJ]) rfl ?_
  · rcases vs with _ | ⟨v1, _ | ⟨w, ws⟩⟩ <;> first | rfl | simp at h
  simp (maxSteps := 1000000) (dsimp := false) only [↓qaG, ↓qaH, ↓qcp, ↓qco, ↓qcn, ↓qcq, ↓qa4, ↓qbG, ↓qbF, ↓qaa, ↓qac, ↓qab, ↓qba, ↓qbe, ↓qa6, ↓qbi, ↓qa5, ↓qbf, ↓qbb, ↓qa9, ↓qbh, ↓qbd, ↓qbg, ↓qcL, ↓qcK, ↓qcM, ↓qb4, ↓qbk, ↓qbj, ↓qaF, ↓qaE, ↓qcN, ↓qcO, ↓qa8, ↓qa7, ↓qbc, ↓qcT, ↓qcP, ↓qcR, ↓qcS, ↓qcQ, ↓qbl, ↓qbt, ↓qbs, ↓qbm, ↓qbo, ↓qbq, ↓qbu, ↓qbp, ↓qbr, ↓qbn, ↓qbW, ↓qbX, ↓qaf, ↓qae, ↓qag, ↓qaP, ↓qaO, ↓qaK, ↓qaJ, ↓qaL, ↓qaM, ↓qaN, ↓qaZ, ↓qbU, ↓qbH, ↓qbI, ↓qbJ, ↓qbK, ↓qcf, ↓qcg, ↓qch, ↓qci, ↓qa1, ↓qa3, ↓qa0, ↓qa2, ↓qar, ↓qaA, ↓qaw, ↓qav, ↓qau, ↓qay, ↓qaz, ↓qas, ↓qax, ↓qaB, ↓qat, ↓qcV, ↓qcU, ↓qaQ, ↓qaW, ↓qaV, ↓qaU, ↓qcF, ↓qcC, ↓qcz, ↓qcG, ↓qcA, ↓qcD, ↓qcE, ↓qcH, ↓qcB, ↓qb5, ↓qb3, ↓qb2, ↓qb1, ↓qbZ, ↓qbY, ↓qb0, ↓qcx, ↓qcv, ↓qcw, ↓qcu, ↓qcy, ↓qb9, ↓qcb, ↓qb6, ↓qce, ↓qcc, ↓qb8, ↓qca, ↓qcd, ↓qb7, ↓qaY, ↓qan, ↓qai, ↓qaj, ↓qam, ↓qak, ↓qal, ↓qct, ↓qcs, ↓qcr, ↓qaq, ↓qao, ↓qap, ↓qbv, ↓qah, ↓qbS, ↓qbC, ↓qaD, ↓qaC, ↓qbx, ↓qbw, ↓qcW, ↓qbT, ↓qbM, ↓qbN, ↓qbL, ↓qbD, ↓qbE, ↓qbO, qad, qbB, qbA, qbz, ↓qck, ↓qcj, ↓qcm, ↓qcl, qbV, ↓qbQ, ↓qbP, ↓qbR, qby, qcI, qcJ, qaI, behindInMarks, lastMarks, Option.map_some, List.contains_cons, List.map_cons, List.map_nil, String.reduceBEq, String.reduceEq, Bool.and_true, Bool.true_and, Bool.and_false, Bool.false_and, Bool.or_true, Bool.true_or, Bool.or_false, Bool.false_or, Bool.not_true, Bool.not_false, and_true, true_and, exists_eq_left', exists_eq_left, beq_self_eq_true, List.length_cons, List.length_nil, Nat.reduceAdd, Nat.zero_add, Nat.reduceLeDiff, decide_true, decide_false, if_false, if_true, reduceCtorEq, N5, ↓U5, ↓eq_STR, ↓eq_STB]
  refine iteB_of (fun h => ?_) (fun h => ?_)
  · simp (maxSteps := 1000000) (dsimp := false) only [↓qaG, ↓qaH, ↓qcp, ↓qco, ↓qcn, ↓qcq, ↓qa4, ↓qbG, ↓qbF, ↓qaa, ↓qac, ↓qab, ↓qba, ↓qbe, ↓qa6, ↓qbi, ↓qa5, ↓qbf, ↓qbb, ↓qa9, ↓qbh, ↓qbd, ↓qbg, ↓qcL, ↓qcK, ↓qcM, ↓qb4, ↓qbk, ↓qbj, ↓qaF, ↓qaE, ↓qcN, ↓qcO, ↓qa8, ↓qa7, ↓qbc, ↓qcT, ↓qcP, ↓qcR, ↓qcS, ↓qcQ, ↓qbl, ↓qbt, ↓qbs, ↓qbm, ↓qbo, ↓qbq, ↓qbu, ↓qbp, ↓qbr, ↓qbn, ↓qbW, ↓qbX, ↓qaf, ↓qae, ↓qag, ↓qaP, ↓qaO, ↓qaK, ↓qaJ, ↓qaL, ↓qaM, ↓qaN, ↓qaZ, ↓qbU, ↓qbH, ↓qbI, ↓qbJ, ↓qbK, ↓qcf, ↓qcg, ↓qch, ↓qci, ↓qa1, ↓qa3, ↓qa0, ↓qa2, ↓qar, ↓qaA, ↓qaw, ↓qav, ↓qau, ↓qay, ↓qaz, ↓qas, ↓qax, ↓qaB, ↓qat, ↓qcV, ↓qcU, ↓qaQ, ↓qaW, ↓qaV, ↓qaU, ↓qcF, ↓qcC, ↓qcz, ↓qcG, ↓qcA, ↓qcD, ↓qcE, ↓qcH, ↓qcB, ↓qb5, ↓qb3, ↓qb2, ↓qb1, ↓qbZ, ↓qbY, ↓qb0, ↓qcx, ↓qcv, ↓qcw, ↓qcu, ↓qcy, ↓qb9, ↓qcb, ↓qb6, ↓qce, ↓qcc, ↓qb8, ↓qca, ↓qcd, ↓qb7, ↓qaY, ↓qan, ↓qai, ↓qaj, ↓qam, ↓qak, ↓qal, ↓qct, ↓qcs, ↓qcr, ↓qaq, ↓qao, ↓qap, ↓qbv, ↓qah, ↓qbS, ↓qbC, ↓qaD, ↓qaC, ↓qbx, ↓qbw, ↓qcW, ↓qbT, ↓qbM, ↓qbN, ↓qbL, ↓qbD, ↓qbE, ↓qbO, qad, qbB, qbA, qbz, ↓qck, ↓qcj, ↓qcm, ↓qcl, qbV, ↓qbQ, ↓qbP, ↓qbR, qby, qcI, qcJ, qaI, behindInMarks, lastMarks, Option.map_some, List.contains_cons, List.map_cons, List.map_nil, String.reduceBEq, String.reduceEq, Bool.and_true, Bool.true_and, Bool.and_false, Bool.false_and, Bool.or_true, Bool.true_or, Bool.or_false, Bool.false_or, Bool.not_true, Bool.not_false, and_true, true_and, exists_eq_left', exists_eq_left, beq_self_eq_true, List.length_cons, List.length_nil, Nat.reduceAdd, Nat.zero_add, Nat.reduceLeDiff, decide_true, decide_false, if_false, if_true, reduceCtorEq, N5, ↓U5]
    rw [h, ← st_of, h]; rfl
  · simp (maxSteps := 1000000) (dsimp := false) only [↓qaG, ↓qaH, ↓qcp, ↓qco, ↓qcn, ↓qcq, ↓qa4, ↓qbG, ↓qbF, ↓qaa, ↓qac, ↓qab, ↓qba, ↓qbe, ↓qa6, ↓qbi, ↓qa5, ↓qbf, ↓qbb, ↓qa9, ↓qbh, ↓qbd, ↓qbg, ↓qcL, ↓qcK, ↓qcM, ↓qb4, ↓qbk, ↓qbj, ↓qaF, ↓qaE, ↓qcN, ↓qcO, ↓qa8, ↓qa7, ↓qbc, ↓qcT, ↓qcP, ↓qcR, ↓qcS, ↓qcQ, ↓qbl, ↓qbt, ↓qbs, ↓qbm, ↓qbo, ↓qbq, ↓qbu, ↓qbp, ↓qbr, ↓qbn, ↓qbW, ↓qbX, ↓qaf, ↓qae, ↓qag, ↓qaP, ↓qaO, ↓qaK, ↓qaJ, ↓qaL, ↓qaM, ↓qaN, ↓qaZ, ↓qbU, ↓qbH, ↓qbI, ↓qbJ, ↓qbK, ↓qcf, ↓qcg, ↓qch, ↓qci, ↓qa1, ↓qa3, ↓qa0, ↓qa2, ↓qar, ↓qaA, ↓qaw, ↓qav, ↓qau, ↓qay, ↓qaz, ↓qas, ↓qax, ↓qaB, ↓qat, ↓qcV, ↓qcU, ↓qaQ, ↓qaW, ↓qaV, ↓qaU, ↓qcF, ↓qcC, ↓qcz, ↓qcG, ↓qcA, ↓qcD, ↓qcE, ↓qcH, ↓qcB, ↓qb5, ↓qb3, ↓qb2, ↓qb1, ↓qbZ, ↓qbY, ↓qb0, ↓qcx, ↓qcv, ↓qcw, ↓qcu, ↓qcy, ↓qb9, ↓qcb, ↓qb6, ↓qce, ↓qcc, ↓qb8, ↓qca, ↓qcd, ↓qb7, ↓qaY, ↓qan, ↓qai, ↓qaj, ↓qam, ↓qak, ↓qal, ↓qct, ↓qcs, ↓qcr, ↓qaq, ↓qao, ↓qap, ↓qbv, ↓qah, ↓qbS, ↓qbC, ↓qaD, ↓qaC, ↓qbx, ↓qbw, ↓qcW, ↓qbT, ↓qbM, ↓qbN, ↓qbL, ↓qbD, ↓qbE, ↓qbO, qad, qbB, qbA, qbz, ↓qck, ↓qcj, ↓qcm, ↓qcl, qbV, ↓qbQ, ↓qbP, ↓qbR, qby, qcI, qcJ, qaI, behindInMarks, lastMarks, Option.map_some, List.contains_cons, List.map_cons, List.map_nil, String.reduceBEq, String.reduceEq, Bool.and_true, Bool.true_and, Bool.and_false, Bool.false_and, Bool.or_true, Bool.true_or, Bool.or_false, Bool.false_or, Bool.not_true, Bool.not_false, and_true, true_and, exists_eq_left', exists_eq_left, beq_self_eq_true, List.length_cons, List.length_nil, Nat.reduceAdd, Nat.zero_add, Nat.reduceLeDiff, decide_true, decide_false, if_false, if_true, reduceCtorEq, N5, ↓U5, ↓eq_STB]
    rw [← st_of, h, Bool.false_or]
theorem c_is_memory (r : Row) : CallsTo cx 1 "is_memory" [rowD r] (.bool r.op.isMem) := by
  refine fn_at2 hS hp 3 (own := []) (k := 0) (n := 6) (m := 3) (xs := [Str.ofString "row"]) (ys := []) (tb := tb3) rfl (by kernel_rfl) rfl rfl (fun _ _ _ vs h => ?_) rfl (by kernel_rfl) (by simp [qcJ]) rfl ?_
  · rcases vs with _ | ⟨v1, _ | ⟨w, ws⟩⟩ <;> first | rfl | simp at h
  simp (maxSteps := 1000000) (dsimp := false) only [↓qaG, ↓qaH, ↓qcp, ↓qco, ↓qcn, ↓qcq, ↓qa4, ↓qbG, ↓qbF, ↓qaa, ↓qac, ↓qab, ↓qba, ↓qbe, ↓qa6, ↓qbi, ↓qa5, ↓qbf, ↓qbb, ↓qa9, ↓qbh, ↓qbd, ↓qbg, ↓qcL, ↓qcK, ↓qcM, ↓qb4, ↓qbk, ↓qbj, ↓qaF, ↓qaE, ↓qcN, ↓qcO, ↓qa8, ↓qa7, ↓qbc, ↓qcT, ↓qcP, ↓qcR, ↓qcS, ↓qcQ, ↓qbl, ↓qbt, ↓qbs, ↓qbm, ↓qbo, ↓qbq, ↓qbu, ↓qbp, ↓qbr, ↓qbn, ↓qbW, ↓qbX, ↓qaf, ↓qae, ↓qag, ↓qaP, ↓qaO, ↓qaK, ↓qaJ, ↓qaL, ↓qaM, ↓qaN, ↓qaZ, ↓qbU, ↓qbH, ↓qbI, ↓qbJ, ↓qbK, ↓qcf, ↓qcg, ↓qch, ↓qci, ↓qa1, ↓qa3, ↓qa0, ↓qa2, ↓qar, ↓qaA, ↓qaw, ↓qav, ↓qau, ↓qay, ↓qaz, ↓qas, ↓qax, ↓qaB, ↓qat, ↓qcV, ↓qcU, ↓qaQ, ↓qaW, ↓qaV, ↓qaU, ↓qcF, ↓qcC, ↓qcz, ↓qcG, ↓qcA, ↓qcD, ↓qcE, ↓qcH, ↓qcB, ↓qb5, ↓qb3, ↓qb2, ↓qb1, ↓qbZ, ↓qbY, ↓qb0, ↓qcx, ↓qcv, ↓qcw, ↓qcu, ↓qcy, ↓qb9, ↓qcb, ↓qb6, ↓qce, ↓qcc, ↓qb8, ↓qca, ↓qcd, ↓qb7, ↓qaY, ↓qan, ↓qai, ↓qaj, ↓qam, ↓qak, ↓qal, ↓qct, ↓qcs, ↓qcr, ↓qaq, ↓qao, ↓qap, ↓qbv, ↓qah, ↓qbS, ↓qbC, ↓qaD, ↓qaC, ↓qbx, ↓qbw, ↓qcW, ↓qbT, ↓qbM, ↓qbN, ↓qbL, ↓qbD, ↓qbE, ↓qbO, qad, qbB, qbA, qbz, ↓qck, ↓qcj, ↓qcm, ↓qcl, qbV, ↓qbQ, ↓qbP, ↓qbR, qby, qcI, qcJ, qaI, behindInMarks, lastMarks, Option.map_some, List.contains_cons, List.map_cons, List.map_nil, String.reduceBEq, String.reduceEq, Bool.and_true, Bool.true_and, Bool.and_false, Bool.false_and, Bool.or_true, Bool.true_or, Bool.or_false, Bool.false_or, Bool.not_true, Bool.not_false, and_true, true_and, exists_eq_left', exists_eq_left, beq_self_eq_true, List.length_cons, List.length_nil, Nat.reduceAdd, Nat.zero_add, Nat.reduceLeDiff, decide_true, decide_false, if_false, if_true, reduceCtorEq, N3, ↓U3, ↓in_mem]
theorem c_is_control (r : Row) : CallsTo cx 1 "is_control" [rowD r] (.bool false) := by
  refine fn_at2 hS hp 6 (own := []) (k := 0) (n := 6) (m := 3) (xs := [Str.ofString "row"]) (ys := []) (tb := tb6) rfl (by kernel_rfl) rfl rfl (fun _ _ _ vs h => ?_) rfl (by kernel_rfl) (by simp [qcJ]) rfl ?_
  · rcases vs with _ | ⟨v1, _ | ⟨w, ws⟩⟩ <;> first | rfl | simp at h
  simp (maxSteps := 1000000) (dsimp := false) only [↓qaG, ↓qaH, ↓qcp, ↓qco, ↓qcn, ↓qcq, ↓qa4, ↓qbG, ↓qbF, ↓qaa, ↓qac, ↓qab, ↓qba, ↓qbe, ↓qa6, ↓qbi, ↓qa5, ↓qbf, ↓qbb, ↓qa9, ↓qbh, ↓qbd, ↓qbg, ↓qcL, ↓qcK, ↓qcM, ↓qb4, ↓qbk, ↓qbj, ↓qaF, ↓qaE, ↓qcN, ↓qcO, ↓qa8, ↓qa7, ↓qbc, ↓qcT, ↓qcP, ↓qcR, ↓qcS, ↓qcQ, ↓qbl, ↓qbt, ↓qbs, ↓qbm, ↓qbo, ↓qbq, ↓qbu, ↓qbp, ↓qbr, ↓qbn, ↓qbW, ↓qbX, ↓qaf, ↓qae, ↓qag, ↓qaP, ↓qaO, ↓qaK, ↓qaJ, ↓qaL, ↓qaM, ↓qaN, ↓qaZ, ↓qbU, ↓qbH, ↓qbI, ↓qbJ, ↓qbK, ↓qcf, ↓qcg, ↓qch, ↓qci, ↓qa1, ↓qa3, ↓qa0, ↓qa2, ↓qar, ↓qaA, ↓qaw, ↓qav, ↓qau, ↓qay, ↓qaz, ↓qas, ↓qax, ↓qaB, ↓qat, ↓qcV, ↓qcU, ↓qaQ, ↓qaW, ↓qaV, ↓qaU, ↓qcF, ↓qcC, ↓qcz, ↓qcG, ↓qcA, ↓qcD, ↓qcE, ↓qcH, ↓qcB, ↓qb5, ↓qb3, ↓qb2, ↓qb1, ↓qbZ, ↓qbY, ↓qb0, ↓qcx, ↓qcv, ↓qcw, ↓qcu, ↓qcy, ↓qb9, ↓qcb, ↓qb6, ↓qce, ↓qcc, ↓qb8, ↓qca, ↓qcd, ↓qb7, ↓qaY, ↓qan, ↓qai, ↓qaj, ↓qam, ↓qak, ↓qal, ↓qct, ↓qcs, ↓qcr, ↓qaq, ↓qao, ↓qap, ↓qbv, ↓qah, ↓qbS, ↓qbC, ↓qaD, ↓qaC, ↓qbx, ↓qbw, ↓qcW, ↓qbT, ↓qbM, ↓qbN, ↓qbL, ↓qbD, ↓qbE, ↓qbO, qad, qbB, qbA, qbz, ↓qck, ↓qcj, ↓qcm, ↓qcl, qbV, ↓qbQ, ↓qbP, ↓qbR, qby, qcI, qcJ, qaI, behindInMarks, lastMarks, Option.map_some, List.contains_cons, List.map_cons, List.map_nil, String.reduceBEq, String.reduceEq, Bool.and_true, Bool.true_and, Bool.and_false, Bool.false_and, Bool.or_true, Bool.true_or, Bool.or_false, Bool.false_or, Bool.not_true, Bool.not_false, and_true, true_and, exists_eq_left', exists_eq_left, beq_self_eq_true, List.length_cons, List.length_nil, Nat.reduceAdd, Nat.zero_add, Nat.reduceLeDiff, decide_true, decide_false, if_false, if_true, reduceCtorEq, N6, ↓U6, ↓in_ctl]
theorem c_bytes_of (r : Row) : CallsTo cx 1 "bytes_of" [rowD r] (.int (if r.op = .ldr ∨ r.op = .str then 4 else 1)) := by
  refine fn_at2 hS hp 10 (own := []) (k := 0) (n := 6) (m := 3) (xs := [Str.ofString "row"]) (ys := []) (tb := tb10) rfl (by kernel_rfl) rfl rfl (fun _ _ _ vs h => ?_) rfl (by kernel_rfl) (by simp [qcJ]) rfl ?_
  · rcases vs with _ | ⟨v1, _ | ⟨w, ws⟩⟩ <;> first | rfl | simp at h
  simp (maxSteps := 1000000) (dsimp := false) only [↓qaG, ↓qaH, ↓qcp, ↓qco, ↓qcn, ↓qcq, ↓qa4, ↓qbG, ↓qbF, ↓qaa, ↓qac, ↓qab, ↓qba, ↓qbe, ↓qa6, ↓qbi, ↓qa5, ↓qbf, ↓qbb, ↓qa9, ↓qbh, ↓qbd, ↓qbg, ↓qcL, ↓qcK, ↓qcM, ↓qb4, ↓qbk, ↓qbj, ↓qaF, ↓qaE, ↓qcN, ↓qcO, ↓qa8, ↓qa7, ↓qbc, ↓qcT, ↓qcP, ↓qcR, ↓qcS, ↓qcQ, ↓qbl, ↓qbt, ↓qbs, ↓qbm, ↓qbo, ↓qbq, ↓qbu, ↓qbp, ↓qbr, ↓qbn, ↓qbW, ↓qbX, ↓qaf, ↓qae, ↓qag, ↓qaP, ↓qaO, ↓qaK, ↓qaJ, ↓qaL, ↓qaM, ↓qaN, ↓qaZ, ↓qbU, ↓qbH, ↓qbI, ↓qbJ, ↓qbK, ↓qcf, ↓qcg, ↓qch, ↓qci, ↓qa1, ↓qa3, ↓qa0, ↓qa2, ↓qar, ↓qaA, ↓qaw, ↓qav, ↓qau, ↓qay, ↓qaz, ↓qas, ↓qax, ↓qaB, ↓qat, ↓qcV, ↓qcU, ↓qaQ, ↓qaW, ↓qaV, ↓qaU, ↓qcF, ↓qcC, ↓qcz, ↓qcG, ↓qcA, ↓qcD, ↓qcE, ↓qcH, ↓qcB, ↓qb5, ↓qb3, ↓qb2, ↓qb1, ↓qbZ, ↓qbY, ↓qb0, ↓qcx, ↓qcv, ↓qcw, ↓qcu, ↓qcy, ↓qb9, ↓qcb, ↓qb6, ↓qce, ↓qcc, ↓qb8, ↓qca, ↓qcd, ↓qb7, ↓qaY, ↓qan, ↓qai, ↓qaj, ↓qam, ↓qak, ↓qal, ↓qct, ↓qcs, ↓qcr, ↓qaq, ↓qao, ↓qap, ↓qbv, ↓qah, ↓qbS, ↓qbC, ↓qaD, ↓qaC, ↓qbx, ↓qbw, ↓qcW, ↓qbT, ↓qbM, ↓qbN, ↓qbL, ↓qbD, ↓qbE, ↓qbO, qad, qbB, qbA, qbz, ↓qck, ↓qcj, ↓qcm, ↓qcl, qbV, ↓qbQ, ↓qbP, ↓qbR, qby, qcI, qcJ, qaI, behindInMarks, lastMarks, Option.map_some, List.contains_cons, List.map_cons, List.map_nil, String.reduceBEq, String.reduceEq, Bool.and_true, Bool.true_and, Bool.and_false, Bool.false_and, Bool.or_true, Bool.true_or, Bool.or_false, Bool.false_or, Bool.not_true, Bool.not_false, and_true, true_and, exists_eq_left', exists_eq_left, beq_self_eq_true, List.length_cons, List.length_nil, Nat.reduceAdd, Nat.zero_add, Nat.reduceLeDiff, decide_true, decide_false, if_false, if_true, reduceCtorEq, N10, ↓U10, ↓in_w4]
  refine iteB_of (fun h => ?_) (fun h => ?_)
  · simp (maxSteps := 1000000) (dsimp := false) only [↓qaG, ↓qaH, ↓qcp, ↓qco, ↓qcn, ↓qcq, ↓qa4, ↓qbG, ↓qbF, ↓qaa, ↓qac, ↓qab, ↓qba, ↓qbe, ↓qa6, ↓qbi, ↓qa5, ↓qbf, ↓qbb, ↓qa9, ↓qbh, ↓qbd, ↓qbg, ↓qcL, ↓qcK, ↓qcM, ↓qb4, ↓qbk, ↓qbj, ↓qaF, ↓qaE, ↓qcN, ↓qcO, ↓qa8, ↓qa7, ↓qbc, ↓qcT, ↓qcP, ↓qcR, ↓qcS, ↓qcQ, ↓qbl, ↓qbt, ↓qbs, ↓qbm, ↓qbo, ↓qbq, ↓qbu, ↓qbp, ↓qbr, ↓qbn, ↓qbW, ↓qbX, ↓qaf, ↓qae, ↓qag, ↓qaP, ↓qaO, ↓qaK, ↓qaJ, ↓qaL, ↓qaM, ↓qaN, ↓qaZ, ↓qbU, ↓qbH, ↓qbI, ↓qbJ, ↓qbK, ↓qcf, ↓qcg, ↓qch, ↓qci, ↓qa1, ↓qa3, ↓qa0, ↓qa2, ↓qar, ↓qaA, ↓qaw, ↓qav, ↓qau, ↓qay, ↓qaz, ↓qas, ↓qax, ↓qaB, ↓qat, ↓qcV, ↓qcU, ↓qaQ, ↓qaW, ↓qaV, ↓qaU, ↓qcF, ↓qcC, ↓qcz, ↓qcG, ↓qcA, ↓qcD, ↓qcE, ↓qcH, ↓qcB, ↓qb5, ↓qb3, ↓qb2, ↓qb1, ↓qbZ, ↓qbY, ↓qb0, ↓qcx, ↓qcv, ↓qcw, ↓qcu, ↓qcy, ↓qb9, ↓qcb, ↓qb6, ↓qce, ↓qcc, ↓qb8, ↓qca, ↓qcd, ↓qb7, ↓qaY, ↓qan, ↓qai, ↓qaj, ↓qam, ↓qak, ↓qal, ↓qct, ↓qcs, ↓qcr, ↓qaq, ↓qao, ↓qap, ↓qbv, ↓qah, ↓qbS, ↓qbC, ↓qaD, ↓qaC, ↓qbx, ↓qbw, ↓qcW, ↓qbT, ↓qbM, ↓qbN, ↓qbL, ↓qbD, ↓qbE, ↓qbO, qad, qbB, qbA, qbz, ↓qck, ↓qcj, ↓qcm, ↓qcl, qbV, ↓qbQ, ↓qbP, ↓qbR, qby, qcI, qcJ, qaI, behindInMarks, lastMarks, Option.map_some, List.contains_cons, List.map_cons, List.map_nil, String.reduceBEq, String.reduceEq, Bool.and_true, Bool.true_and, Bool.and_false, Bool.false_and, Bool.or_true, Bool.true_or, Bool.or_false, Bool.false_or, Bool.not_true, Bool.not_false, and_true, true_and, exists_eq_left', exists_eq_left, beq_self_eq_true, List.length_cons, List.length_nil, Nat.reduceAdd, Nat.zero_add, Nat.reduceLeDiff, decide_true, decide_false, if_false, if_true, reduceCtorEq, N10, ↓U10]
    rw [if_pos (of_decide_eq_true h)]
  · simp (maxSteps := 1000000) (dsimp := false) only [↓qaG, ↓qaH, ↓qcp, ↓qco, ↓qcn, ↓qcq, ↓qa4, ↓qbG, ↓qbF, ↓qaa, ↓qac, ↓qab, ↓qba, ↓qbe, ↓qa6, ↓qbi, ↓qa5, ↓qbf, ↓qbb, ↓qa9, ↓qbh, ↓qbd, ↓qbg, ↓qcL, ↓qcK, ↓qcM, ↓qb4, ↓qbk, ↓qbj, ↓qaF, ↓qaE, ↓qcN, ↓qcO, ↓qa8, ↓qa7, ↓qbc, ↓qcT, ↓qcP, ↓qcR, ↓qcS, ↓qcQ, ↓qbl, ↓qbt, ↓qbs, ↓qbm, ↓qbo, ↓qbq, ↓qbu, ↓qbp, ↓qbr, ↓qbn, ↓qbW, ↓qbX, ↓qaf, ↓qae, ↓qag, ↓qaP, ↓qaO, ↓qaK, ↓qaJ, ↓qaL, ↓qaM, ↓qaN, ↓qaZ, ↓qbU, ↓qbH, ↓qbI, ↓qbJ, ↓qbK, ↓qcf, ↓qcg, ↓qch, ↓qci, ↓qa1, ↓qa3, ↓qa0, ↓qa2, ↓qar, ↓qaA, ↓qaw, ↓qav, ↓qau, ↓qay, ↓qaz, ↓qas, ↓qax, ↓qaB, ↓qat, ↓qcV, ↓qcU, ↓qaQ, ↓qaW, ↓qaV, ↓qaU, ↓qcF, ↓qcC, ↓qcz, ↓qcG, ↓qcA, ↓qcD, ↓qcE, ↓qcH, ↓qcB, ↓qb5, ↓qb3, ↓qb2, ↓qb1, ↓qbZ, ↓qbY, ↓qb0, ↓qcx, ↓qcv, ↓qcw, ↓qcu, ↓qcy, ↓qb9, ↓qcb, ↓qb6, ↓qce, ↓qcc, ↓qb8, ↓qca, ↓qcd, ↓qb7, ↓qaY, ↓qan, ↓qai, ↓qaj, ↓qam, ↓qak, ↓qal, ↓qct, ↓qcs, ↓qcr, ↓qaq, ↓qao, ↓qap, ↓qbv, ↓qah, ↓qbS, ↓qbC, ↓qaD, ↓qaC, ↓qbx, ↓qbw, ↓qcW, ↓qbT, ↓qbM, ↓qbN, ↓qbL, ↓qbD, ↓qbE, ↓qbO, qad, qbB, qbA, qbz, ↓qck, ↓qcj, ↓qcm, ↓qcl, qbV, ↓qbQ, ↓qbP, ↓qbR, qby, qcI, qcJ, qaI, behindInMarks, lastMarks, Option.map_some, List.contains_cons, List.map_cons, List.map_nil, String.reduceBEq, String.reduceEq, Bool.and_true, Bool.true_and, Bool.and_false, Bool.false_and, Bool.or_true, Bool.true_or, Bool.or_false, Bool.false_or, Bool.not_true, Bool.not_false, and_true, true_and, exists_eq_left', exists_eq_left, beq_self_eq_true, List.length_cons, List.length_nil, Nat.reduceAdd, Nat.zero_add, Nat.reduceLeDiff, decide_true, decide_false, if_false, if_true, reduceCtorEq, N10, ↓U10]
    rw [if_neg (of_decide_eq_false h)]
theorem c_base_name (r : Row) (h1 : r.op.isMem = false) : CallsTo cx 2 "base_name" [rowD r] (.str (Str.ofString r.op.base)) := by
  have e1 : r.op.isReg = true → r.op.nm = r.op.base := by cases r.op <;> decide
  have e2 : r.op.lastI = true → calcs.contains r.op.init = true → r.op.init = r.op.base := by cases r.op <;> decide
  have e3 : r.op.isReg = false → r.op.lastI = false → r.op.base = "" := by revert h1; cases r.op <;> decide
  have e4 : r.op.isReg = false → calcs.contains r.op.init = false → r.op.base = "" := by revert h1; cases r.op <;> decide
  refine fn_at2 hS hp 7 (own := []) (k := 1) (n := 6) (m := 6) (xs := [Str.ofString "row"]) (ys := [Str.ofString "name"]) (tb := tb7) rfl (by kernel_rfl) rfl rfl (fun _ _ _ vs h => ?_) rfl (by kernel_rfl) (by simp [qcJ]) rfl ?_
  · rcases vs with _ | ⟨v1, _ | ⟨w, ws⟩⟩ <;> first | rfl | simp at h
  simp (maxSteps := 1000000) (dsimp := false) only [↓qaG, ↓qaH, ↓qcp, ↓qco, ↓qcn, ↓qcq, ↓qa4, ↓qbG, ↓qbF, ↓qaa, ↓qac, ↓qab, ↓qba, ↓qbe, ↓qa6, ↓qbi, ↓qa5, ↓qbf, ↓qbb, ↓qa9, ↓qbh, ↓qbd, ↓qbg, ↓qcL, ↓qcK, ↓qcM, ↓qb4, ↓qbk, ↓qbj, ↓qaF, ↓qaE, ↓qcN, ↓qcO, ↓qa8, ↓qa7, ↓qbc, ↓qcT, ↓qcP, ↓qcR, ↓qcS, ↓qcQ, ↓qbl, ↓qbt, ↓qbs, ↓qbm, ↓qbo, ↓qbq, ↓qbu, ↓qbp, ↓qbr, ↓qbn, ↓qbW, ↓qbX, ↓qaf, ↓qae, ↓qag, ↓qaP, ↓qaO, ↓qaK, ↓qaJ, ↓qaL, ↓qaM, ↓qaN, ↓qaZ, ↓qbU, ↓qbH, ↓qbI, ↓qbJ, ↓qbK, ↓qcf, ↓qcg, ↓qch, ↓qci, ↓qa1, ↓qa3, ↓qa0, ↓qa2, ↓qar, ↓qaA, ↓qaw, ↓qav, ↓qau, ↓qay, ↓qaz, ↓qas, ↓qax, ↓qaB, ↓qat, ↓qcV, ↓qcU, ↓qaQ, ↓qaW, ↓qaV, ↓qaU, ↓qcF, ↓qcC, ↓qcz, ↓qcG, ↓qcA, ↓qcD, ↓qcE, ↓qcH, ↓qcB, ↓qb5, ↓qb3, ↓qb2, ↓qb1, ↓qbZ, ↓qbY, ↓qb0, ↓qcx, ↓qcv, ↓qcw, ↓qcu, ↓qcy, ↓qb9, ↓qcb, ↓qb6, ↓qce, ↓qcc, ↓qb8, ↓qca, ↓qcd, ↓qb7, ↓qaY, ↓qan, ↓qai, ↓qaj, ↓qam, ↓qak, ↓qal, ↓qct, ↓qcs, ↓qcr, ↓qaq, ↓qao, ↓qap, ↓qbv, ↓qah, ↓qbS, ↓qbC, ↓qaD, ↓qaC, ↓qbx, ↓qbw, ↓qcW, ↓qbT, ↓qbM, ↓qbN, ↓qbL, ↓qbD, ↓qbE, ↓qbO, qad, qbB, qbA, qbz, ↓qck, ↓qcj, ↓qcm, ↓qcl, qbV, ↓qbQ, ↓qbP, ↓qbR, qby, qcI, qcJ, qaI, behindInMarks, lastMarks, Option.map_some, List.contains_cons, List.map_cons, List.map_nil, String.reduceBEq, String.reduceEq, Bool.and_true, Bool.true_and, Bool.and_false, Bool.false_and, Bool.or_true, Bool.true_or, Bool.or_false, Bool.false_or, Bool.not_true, Bool.not_false, and_true, true_and, exists_eq_left', exists_eq_left, beq_self_eq_true, List.length_cons, List.length_nil, Nat.reduceAdd, Nat.zero_add, Nat.reduceLeDiff, decide_true, decide_false, if_false, if_true, reduceCtorEq, N7, ↓U7]
  refine ⟨(c_calculations hS hp).isFn, useC_of ((c_calculations hS hp).le (by decide)) ?_⟩
  simp (maxSteps := 1000000) (dsimp := false) only [↓qaG, ↓qaH, ↓qcp, ↓qco, ↓qcn, ↓qcq, ↓qa4, ↓qbG, ↓qbF, ↓qaa, ↓qac, ↓qab, ↓qba, ↓qbe, ↓qa6, ↓qbi, ↓qa5, ↓qbf, ↓qbb, ↓qa9, ↓qbh, ↓qbd, ↓qbg, ↓qcL, ↓qcK, ↓qcM, ↓qb4, ↓qbk, ↓qbj, ↓qaF, ↓qaE, ↓qcN, ↓qcO, ↓qa8, ↓qa7, ↓qbc, ↓qcT, ↓qcP, ↓qcR, ↓qcS, ↓qcQ, ↓qbl, ↓qbt, ↓qbs, ↓qbm, ↓qbo, ↓qbq, ↓qbu, ↓qbp, ↓qbr, ↓qbn, ↓qbW, ↓qbX, ↓qaf, ↓qae, ↓qag, ↓qaP, ↓qaO, ↓qaK, ↓qaJ, ↓qaL, ↓qaM, ↓qaN, ↓qaZ, ↓qbU, ↓qbH, ↓qbI, ↓qbJ, ↓qbK, ↓qcf, ↓qcg, ↓qch, ↓qci, ↓qa1, ↓qa3, ↓qa0, ↓qa2, ↓qar, ↓qaA, ↓qaw, ↓qav, ↓qau, ↓qay, ↓qaz, ↓qas, ↓qax, ↓qaB, ↓qat, ↓qcV, ↓qcU, ↓qaQ, ↓qaW, ↓qaV, ↓qaU, ↓qcF, ↓qcC, ↓qcz, ↓qcG, ↓qcA, ↓qcD, ↓qcE, ↓qcH, ↓qcB, ↓qb5, ↓qb3, ↓qb2, ↓qb1, ↓qbZ, ↓qbY, ↓qb0, ↓qcx, ↓qcv, ↓qcw, ↓qcu, ↓qcy, ↓qb9, ↓qcb, ↓qb6, ↓qce, ↓qcc, ↓qb8, ↓qca, ↓qcd, ↓qb7, ↓qaY, ↓qan, ↓qai, ↓qaj, ↓qam, ↓qak, ↓qal, ↓qct, ↓qcs, ↓qcr, ↓qaq, ↓qao, ↓qap, ↓qbv, ↓qah, ↓qbS, ↓qbC, ↓qaD, ↓qaC, ↓qbx, ↓qbw, ↓qcW, ↓qbT, ↓qbM, ↓qbN, ↓qbL, ↓qbD, ↓qbE, ↓qbO, qad, qbB, qbA, qbz, ↓qck, ↓qcj, ↓qcm, ↓qcl, qbV, ↓qbQ, ↓qbP, ↓qbR, qby, qcI, qcJ, qaI, behindInMarks, lastMarks, Option.map_some, List.contains_cons, List.map_cons, List.map_nil, String.reduceBEq, String.reduceEq, Bool.and_true, Bool.true_and, Bool.and_false, Bool.false_and, Bool.or_true, Bool.true_or, Bool.or_false, Bool.false_or, Bool.not_true, Bool.not_false, and_true, true_and, exists_eq_left', exists_eq_left, beq_self_eq_true, List.length_cons, List.length_nil, Nat.reduceAdd, Nat.zero_add, Nat.reduceLeDiff, decide_true, decide_false, if_false, if_true, reduceCtorEq, N7, ↓U7, ↓in_calc]
  refine iteB_of (fun h => ?_) (fun h => ?_)
  · simp (maxSteps := 1000000) (dsimp := false) only [↓qaG, ↓qaH, ↓qcp, ↓qco, ↓qcn, ↓qcq, ↓qa4, ↓qbG, ↓qbF, ↓qaa, ↓qac, ↓qab, ↓qba, ↓qbe, ↓qa6, ↓qbi, ↓qa5, ↓qbf, ↓qbb, ↓qa9, ↓qbh, ↓qbd, ↓qbg, ↓qcL, ↓qcK, ↓qcM, ↓qb4, ↓qbk, ↓qbj, ↓qaF, ↓qaE, ↓qcN, ↓qcO, ↓qa8, ↓qa7, ↓qbc, ↓qcT, ↓qcP, ↓qcR, ↓qcS, ↓qcQ, ↓qbl, ↓qbt, ↓qbs, ↓qbm, ↓qbo, ↓qbq, ↓qbu, ↓qbp, ↓qbr, ↓qbn, ↓qbW, ↓qbX, ↓qaf, ↓qae, ↓qag, ↓qaP, ↓qaO, ↓qaK, ↓qaJ, ↓qaL, ↓qaM, ↓qaN, ↓qaZ, ↓qbU, ↓qbH, ↓qbI, ↓qbJ, ↓qbK, ↓qcf, ↓qcg, ↓qch, ↓qci, ↓qa1, ↓qa3, ↓qa0, ↓qa2, ↓qar, ↓qaA, ↓qaw, ↓qav, ↓qau, ↓qay, ↓qaz, ↓qas, ↓qax, ↓qaB, ↓qat, ↓qcV, ↓qcU, ↓qaQ, ↓qaW, ↓qaV, ↓qaU, ↓qcF, ↓qcC, ↓qcz, ↓qcG, ↓qcA, ↓qcD, ↓qcE, ↓qcH, ↓qcB, ↓qb5, ↓qb3, ↓qb2, ↓qb1, ↓qbZ, ↓qbY, ↓qb0, ↓qcx, ↓qcv, ↓qcw, ↓qcu, ↓qcy, ↓qb9, ↓qcb, ↓qb6, ↓qce, ↓qcc, ↓qb8, ↓qca, ↓qcd, ↓qb7, ↓qaY, ↓qan, ↓qai, ↓qaj, ↓qam, ↓qak, ↓qal, ↓qct, ↓qcs, ↓qcr, ↓qaq, ↓qao, ↓qap, ↓qbv, ↓qah, ↓qbS, ↓qbC, ↓qaD, ↓qaC, ↓qbx, ↓qbw, ↓qcW, ↓qbT, ↓qbM, ↓qbN, ↓qbL, ↓qbD, ↓qbE, ↓qbO, qad, qbB, qbA, qbz, ↓qck, ↓qcj, ↓qcm, ↓qcl, qbV, ↓qbQ, ↓qbP, ↓qbR, qby, qcI, qcJ, qaI, behindInMarks, lastMarks, Option.map_some, List.contains_cons, List.map_cons, List.map_nil, String.reduceBEq, String.reduceEq, Bool.and_true, Bool.true_and, Bool.and_false, Bool.false_and, Bool.or_true, Bool.true_or, Bool.or_false, Bool.false_or, Bool.not_true, Bool.not_false, and_true, true_and, exists_eq_left', exists_eq_left, beq_self_eq_true, List.length_cons, List.length_nil, Nat.reduceAdd, Nat.zero_add, Nat.reduceLeDiff, decide_true, decide_false, if_false, if_true, reduceCtorEq, N7, ↓U7]
    exact so (e1 h)
  · simp (maxSteps := 1000000) (dsimp := false) only [↓qaG, ↓qaH, ↓qcp, ↓qco, ↓qcn, ↓qcq, ↓qa4, ↓qbG, ↓qbF, ↓qaa, ↓qac, ↓qab, ↓qba, ↓qbe, ↓qa6, ↓qbi, ↓qa5, ↓qbf, ↓qbb, ↓qa9, ↓qbh, ↓qbd, ↓qbg, ↓qcL, ↓qcK, ↓qcM, ↓qb4, ↓qbk, ↓qbj, ↓qaF, ↓qaE, ↓qcN, ↓qcO, ↓qa8, ↓qa7, ↓qbc, ↓qcT, ↓qcP, ↓qcR, ↓qcS, ↓qcQ, ↓qbl, ↓qbt, ↓qbs, ↓qbm, ↓qbo, ↓qbq, ↓qbu, ↓qbp, ↓qbr, ↓qbn, ↓qbW, ↓qbX, ↓qaf, ↓qae, ↓qag, ↓qaP, ↓qaO, ↓qaK, ↓qaJ, ↓qaL, ↓qaM, ↓qaN, ↓qaZ, ↓qbU, ↓qbH, ↓qbI, ↓qbJ, ↓qbK, ↓qcf, ↓qcg, ↓qch, ↓qci, ↓qa1, ↓qa3, ↓qa0, ↓qa2, ↓qar, ↓qaA, ↓qaw, ↓qav, ↓qau, ↓qay, ↓qaz, ↓qas, ↓qax, ↓qaB, ↓qat, ↓qcV, ↓qcU, ↓qaQ, ↓qaW, ↓qaV, ↓qaU, ↓qcF, ↓qcC, ↓qcz, ↓qcG, ↓qcA, ↓qcD, ↓qcE, ↓qcH, ↓qcB, ↓qb5, ↓qb3, ↓qb2, ↓qb1, ↓qbZ, ↓qbY, ↓qb0, ↓qcx, ↓qcv, ↓qcw, ↓qcu, ↓qcy, ↓qb9, ↓qcb, ↓qb6, ↓qce, ↓qcc, ↓qb8, ↓qca, ↓qcd, ↓qb7, ↓qaY, ↓qan, ↓qai, ↓qaj, ↓qam, ↓qak, ↓qal, ↓qct, ↓qcs, ↓qcr, ↓qaq, ↓qao, ↓qap, ↓qbv, ↓qah, ↓qbS, ↓qbC, ↓qaD, ↓qaC, ↓qbx, ↓qbw, ↓qcW, ↓qbT, ↓qbM, ↓qbN, ↓qbL, ↓qbD, ↓qbE, ↓qbO, qad, qbB, qbA, qbz, ↓qck, ↓qcj, ↓qcm, ↓qcl, qbV, ↓qbQ, ↓qbP, ↓qbR, qby, qcI, qcJ, qaI, behindInMarks, lastMarks, Option.map_some, List.contains_cons, List.map_cons, List.map_nil, String.reduceBEq, String.reduceEq, Bool.and_true, Bool.true_and, Bool.and_false, Bool.false_and, Bool.or_true, Bool.true_or, Bool.or_false, Bool.false_or, Bool.not_true, Bool.not_false, and_true, true_and, exists_eq_left', exists_eq_left, beq_self_eq_true, List.length_cons, List.length_nil, Nat.reduceAdd, Nat.zero_add, Nat.reduceLeDiff, decide_true, decide_false, if_false, if_true, reduceCtorEq, N7, ↓U7, ↓sl_last, ↓eq_lastI]
    refine iteB_of (fun h2 => ?_) (fun h2 => ?_)
    · simp (maxSteps := 1000000) (dsimp := false) only [↓qaG, ↓qaH, ↓qcp, ↓qco, ↓qcn, ↓qcq, ↓qa4, ↓qbG, ↓qbF, ↓qaa, ↓qac, ↓qab, ↓qba, ↓qbe, ↓qa6, ↓qbi, ↓qa5, ↓qbf, ↓qbb, ↓qa9, ↓qbh, ↓qbd, ↓qbg, ↓qcL, ↓qcK, ↓qcM, ↓qb4, ↓qbk, ↓qbj, ↓qaF, ↓qaE, ↓qcN, ↓qcO, ↓qa8, ↓qa7, ↓qbc, ↓qcT, ↓qcP, ↓qcR, ↓qcS, ↓qcQ, ↓qbl, ↓qbt, ↓qbs, ↓qbm, ↓qbo, ↓qbq, ↓qbu, ↓qbp, ↓qbr, ↓qbn, ↓qbW, ↓qbX, ↓qaf, ↓qae, ↓qag, ↓qaP, ↓qaO, ↓qaK, ↓qaJ, ↓qaL, ↓qaM, ↓qaN, ↓qaZ, ↓qbU, ↓qbH, ↓qbI, ↓qbJ, ↓qbK, ↓qcf, ↓qcg, ↓qch, ↓qci, ↓qa1, ↓qa3, ↓qa0, ↓qa2, ↓qar, ↓qaA, ↓qaw, ↓qav, ↓qau, ↓qay, ↓qaz, ↓qas, ↓qax, ↓qaB, ↓qat, ↓qcV, ↓qcU, ↓qaQ, ↓qaW, ↓qaV, ↓qaU, ↓qcF, ↓qcC, ↓qcz, ↓qcG, ↓qcA, ↓qcD, ↓qcE, ↓qcH, ↓qcB, ↓qb5, ↓qb3, ↓qb2, ↓qb1, ↓qbZ, ↓qbY, ↓qb0, ↓qcx, ↓qcv, ↓qcw, ↓qcu, ↓qcy, ↓qb9, ↓qcb, ↓qb6, ↓qce, ↓qcc, ↓qb8, ↓qca, ↓qcd, ↓qb7, ↓qaY, ↓qan, ↓qai, ↓qaj, ↓qam, ↓qak, ↓qal, ↓qct, ↓qcs, ↓qcr, ↓qaq, ↓qao, ↓qap, ↓qbv, ↓qah, ↓qbS, ↓qbC, ↓qaD, ↓qaC, ↓qbx, ↓qbw, ↓qcW, ↓qbT, ↓qbM, ↓qbN, ↓qbL, ↓qbD, ↓qbE, ↓qbO, qad, qbB, qbA, qbz, ↓qck, ↓qcj, ↓qcm, ↓qcl, qbV, ↓qbQ, ↓qbP, ↓qbR, qby, qcI, qcJ, qaI, behindInMarks, lastMarks, Option.map_some, List.contains_cons, List.map_cons, List.map_nil, String.reduceBEq, String.reduceEq, Bool.and_true, Bool.true_and, Bool.and_false, Bool.false_and, Bool.or_true, Bool.true_or, Bool.or_false, Bool.false_or, Bool.not_true, Bool.not_false, and_true, true_and, exists_eq_left', exists_eq_left, beq_self_eq_true, List.length_cons, List.length_nil, Nat.reduceAdd, Nat.zero_add, Nat.reduceLeDiff, decide_true, decide_false, if_false, if_true, reduceCtorEq, N7, ↓U7, ↓sl_init]
      refine ⟨(c_calculations hS hp).isFn, useC_of ((c_calculations hS hp).le (by decide)) ?_⟩
      simp (maxSteps := 1000000) (dsimp := false) only [↓qaG, ↓qaH, ↓qcp, ↓qco, ↓qcn, ↓qcq, ↓qa4, ↓qbG, ↓qbF, ↓qaa, ↓qac, ↓qab, ↓qba, ↓qbe, ↓qa6, ↓qbi, ↓qa5, ↓qbf, ↓qbb, ↓qa9, ↓qbh, ↓qbd, ↓qbg, ↓qcL, ↓qcK, ↓qcM, ↓qb4, ↓qbk, ↓qbj, ↓qaF, ↓qaE, ↓qcN, ↓qcO, ↓qa8, ↓qa7, ↓qbc, ↓qcT, ↓qcP, ↓qcR, ↓qcS, ↓qcQ, ↓qbl, ↓qbt, ↓qbs, ↓qbm, ↓qbo, ↓qbq, ↓qbu, ↓qbp, ↓qbr, ↓qbn, ↓qbW, ↓qbX, ↓qaf, ↓qae, ↓qag, ↓qaP, ↓qaO, ↓qaK, ↓qaJ, ↓qaL, ↓qaM, ↓qaN, ↓qaZ, ↓qbU, ↓qbH, ↓qbI, ↓qbJ, ↓qbK, ↓qcf, ↓qcg, ↓qch, ↓qci, ↓qa1, ↓qa3, ↓qa0, ↓qa2, ↓qar, ↓qaA, ↓qaw, ↓qav, ↓qau, ↓qay, ↓qaz, ↓qas, ↓qax, ↓qaB, ↓qat, ↓qcV, ↓qcU, ↓qaQ, ↓qaW, ↓qaV, ↓qaU, ↓qcF, ↓qcC, ↓qcz, ↓qcG, ↓qcA, ↓qcD, ↓qcE, ↓qcH, ↓qcB, ↓qb5, ↓qb3, ↓qb2, ↓qb1, ↓qbZ, ↓qbY, ↓qb0, ↓qcx, ↓qcv, ↓qcw, ↓qcu, ↓qcy, ↓qb9, ↓qcb, ↓qb6, ↓qce, ↓qcc, ↓qb8, ↓qca, ↓qcd, ↓qb7, ↓qaY, ↓qan, ↓qai, ↓qaj, ↓qam, ↓qak, ↓qal, ↓qct, ↓qcs, ↓qcr, ↓qaq, ↓qao, ↓qap, ↓qbv, ↓qah, ↓qbS, ↓qbC, ↓qaD, ↓qaC, ↓qbx, ↓qbw, ↓qcW, ↓qbT, ↓qbM, ↓qbN, ↓qbL, ↓qbD, ↓qbE, ↓qbO, qad, qbB, qbA, qbz, ↓qck, ↓qcj, ↓qcm, ↓qcl, qbV, ↓qbQ, ↓qbP, ↓qbR, qby, qcI, qcJ, qaI, behindInMarks, lastMarks, Option.map_some, List.contains_cons, List.map_cons, List.map_nil, String.reduceBEq, String.reduceEq, Bool.and_true, Bool.true_and, Bool.and_false, Bool.false_and, Bool.or_true, Bool.true_or, Bool.or_false, Bool.false_or, Bool.not_true, Bool.not_false, and_true, true_and, exists_eq_left', exists_eq_left, beq_self_eq_true, List.length_cons, List.length_nil, Nat.reduceAdd, Nat.zero_add, Nat.reduceLeDiff, decide_true, decide_false, if_false, if_true, reduceCtorEq, N7, ↓U7, ↓in_calc2]
      refine iteB_of (fun h3 => ?_) (fun h3 => ?_)
      · simp (maxSteps := 1000000) (dsimp := false) only [↓qaG, ↓qaH, ↓qcp, ↓qco, ↓qcn, ↓qcq, ↓qa4, ↓qbG, ↓qbF, ↓qaa, ↓qac, ↓qab, ↓qba, ↓qbe, ↓qa6, ↓qbi, ↓qa5, ↓qbf, ↓qbb, ↓qa9, ↓qbh, ↓qbd, ↓qbg, ↓qcL, ↓qcK, ↓qcM, ↓qb4, ↓qbk, ↓qbj, ↓qaF, ↓qaE, ↓qcN, ↓qcO, ↓qa8, ↓qa7, ↓qbc, ↓qcT, ↓qcP, ↓qcR, ↓qcS, ↓qcQ, ↓qbl, ↓qbt, ↓qbs, ↓qbm, ↓qbo, ↓qbq, ↓qbu, ↓qbp, ↓qbr, ↓qbn, ↓qbW, ↓qbX, ↓qaf, ↓qae, ↓qag, ↓qaP, ↓qaO, ↓qaK, ↓qaJ, ↓qaL, ↓qaM, ↓qaN, ↓qaZ, ↓qbU, ↓qbH, ↓qbI, ↓qbJ, ↓qbK, ↓qcf, ↓qcg, ↓qch, ↓qci, ↓qa1, ↓qa3, ↓qa0, ↓qa2, ↓qar, ↓qaA, ↓qaw, ↓qav, ↓qau, ↓qay, ↓qaz, ↓qas, ↓qax, ↓qaB, ↓qat, ↓qcV, ↓qcU, ↓qaQ, ↓qaW, ↓qaV, ↓qaU, ↓qcF, ↓qcC, ↓qcz, ↓qcG, ↓qcA, ↓qcD, ↓qcE, ↓qcH, ↓qcB, ↓qb5, ↓qb3, ↓qb2, ↓qb1, ↓qbZ, ↓qbY, ↓qb0, ↓qcx, ↓qcv, ↓qcw, ↓qcu, ↓qcy, ↓qb9, ↓qcb, ↓qb6, ↓qce, ↓qcc, ↓qb8, ↓qca, ↓qcd, ↓qb7, ↓qaY, ↓qan, ↓qai, ↓qaj, ↓qam, ↓qak, ↓qal, ↓qct, ↓qcs, ↓qcr, ↓qaq, ↓qao, ↓qap, ↓qbv, ↓qah, ↓qbS, ↓qbC, ↓qaD, ↓qaC, ↓qbx, ↓qbw, ↓qcW, ↓qbT, ↓qbM, ↓qbN, ↓qbL, ↓qbD, ↓qbE, ↓qbO, qad, qbB, qbA, qbz, ↓qck, ↓qcj, ↓qcm, ↓qcl, qbV, ↓qbQ, ↓qbP, ↓qbR, qby, qcI, qcJ, qaI, behindInMarks, lastMarks, Option.map_some, List.contains_cons, List.map_cons, List.map_nil, String.reduceBEq, String.reduceEq, Bool.and_true, Bool.true_and, Bool.and_false, Bool.false_and, Bool.or_true, Bool.true_or, Bool.or_false, Bool.false_or, Bool.not_true, Bool.not_false, and_true, true_and, exists_eq_left', exists_eq_left, beq_self_eq_true, List.length_cons, List.length_nil, Nat.reduceAdd, Nat.zero_add, Nat.reduceLeDiff, decide_true, decide_false, if_false, if_true, reduceCtorEq, N7, ↓U7, ↓sl_init]
        exact so (e2 h2 h3)
      · simp (maxSteps := 1000000) (dsimp := false) only [↓qaG, ↓qaH, ↓qcp, ↓qco, ↓qcn, ↓qcq, ↓qa4, ↓qbG, ↓qbF, ↓qaa, ↓qac, ↓qab, ↓qba, ↓qbe, ↓qa6, ↓qbi, ↓qa5, ↓qbf, ↓qbb, ↓qa9, ↓qbh, ↓qbd, ↓qbg, ↓qcL, ↓qcK, ↓qcM, ↓qb4, ↓qbk, ↓qbj, ↓qaF, ↓qaE, ↓qcN, ↓qcO, ↓qa8, ↓qa7, ↓qbc, ↓qcT, ↓qcP, ↓qcR, ↓qcS, ↓qcQ, ↓qbl, ↓qbt, ↓qbs, ↓qbm, ↓qbo, ↓qbq, ↓qbu, ↓qbp, ↓qbr, ↓qbn, ↓qbW, ↓qbX, ↓qaf, ↓qae, ↓qag, ↓qaP, ↓qaO, ↓qaK, ↓qaJ, ↓qaL, ↓qaM, ↓qaN, ↓qaZ, ↓qbU, ↓qbH, ↓qbI, ↓qbJ, ↓qbK, ↓qcf, ↓qcg, ↓qch, ↓qci, ↓qa1, ↓qa3, ↓qa0, ↓qa2, ↓qar, ↓qaA, ↓qaw, ↓qav, ↓qau, ↓qay, ↓qaz, ↓qas, ↓qax, ↓qaB, ↓qat, ↓qcV, ↓qcU, ↓qaQ, ↓qaW, ↓qaV, ↓qaU, ↓qcF, ↓qcC, ↓qcz, ↓qcG, ↓qcA, ↓qcD, ↓qcE, ↓qcH, ↓qcB, ↓qb5, ↓qb3, ↓qb2, ↓qb1, ↓qbZ, ↓qbY, ↓qb0, ↓qcx, ↓qcv, ↓qcw, ↓qcu, ↓qcy, ↓qb9, ↓qcb, ↓qb6, ↓qce, ↓qcc, ↓qb8, ↓qca, ↓qcd, ↓qb7, ↓qaY, ↓qan, ↓qai, ↓qaj, ↓qam, ↓qak, ↓qal, ↓qct, ↓qcs, ↓qcr, ↓qaq, ↓qao, ↓qap, ↓qbv, ↓qah, ↓qbS, ↓qbC, ↓qaD, ↓qaC, ↓qbx, ↓qbw, ↓qcW, ↓qbT, ↓qbM, ↓qbN, ↓qbL, ↓qbD, ↓qbE, ↓qbO, qad, qbB, qbA, qbz, ↓qck, ↓qcj, ↓qcm, ↓qcl, qbV, ↓qbQ, ↓qbP, ↓qbR, qby, qcI, qcJ, qaI, behindInMarks, lastMarks, Option.map_some, List.contains_cons, List.map_cons, List.map_nil, String.reduceBEq, String.reduceEq, Bool.and_true, Bool.true_and, Bool.and_false, Bool.false_and, Bool.or_true, Bool.true_or, Bool.or_false, Bool.false_or, Bool.not_true, Bool.not_false, and_true, true_and, exists_eq_left', exists_eq_left, beq_self_eq_true, List.length_cons, List.length_nil, Nat.reduceAdd, Nat.zero_add, Nat.reduceLeDiff, decide_true, decide_false, if_false, if_true, reduceCtorEq, N7, ↓U7]
        exact so (e4 h h3).symm
    · simp (maxSteps := 1000000) (dsimp := false) only [↓qaG, ↓qaH, ↓qcp, ↓qco, ↓qcn, ↓qcq, ↓qa4, ↓qbG, ↓qbF, ↓qaa, ↓qac, ↓qab, ↓qba, ↓qbe, ↓qa6, ↓qbi, ↓qa5, ↓qbf, ↓qbb, ↓qa9, ↓qbh, ↓qbd, ↓qbg, ↓qcL, ↓qcK, ↓qcM, ↓qb4, ↓qbk, ↓qbj, ↓qaF, ↓qaE, ↓qcN, ↓qcO, ↓qa8, ↓qa7, ↓qbc, ↓qcT, ↓qcP, ↓qcR, ↓qcS, ↓qcQ, ↓qbl, ↓qbt, ↓qbs, ↓qbm, ↓qbo, ↓qbq, ↓qbu, ↓qbp, ↓qbr, ↓qbn, ↓qbW, ↓qbX, ↓qaf, ↓qae, ↓qag, ↓qaP, ↓qaO, ↓qaK, ↓qaJ, ↓qaL, ↓qaM, ↓qaN, ↓qaZ, ↓qbU, ↓qbH, ↓qbI, ↓qbJ, ↓qbK, ↓qcf, ↓qcg, ↓qch, ↓qci, ↓qa1, ↓qa3, ↓qa0, ↓qa2, ↓qar, ↓qaA, ↓qaw, ↓qav, ↓qau, ↓qay, ↓qaz, ↓qas, ↓qax, ↓qaB, ↓qat, ↓qcV, ↓qcU, ↓qaQ, ↓qaW, ↓qaV, ↓qaU, ↓qcF, ↓qcC, ↓qcz, ↓qcG, ↓qcA, ↓qcD, ↓qcE, ↓qcH, ↓qcB, ↓qb5, ↓qb3, ↓qb2, ↓qb1, ↓qbZ, ↓qbY, ↓qb0, ↓qcx, ↓qcv, ↓qcw, ↓qcu, ↓qcy, ↓qb9, ↓qcb, ↓qb6, ↓qce, ↓qcc, ↓qb8, ↓qca, ↓qcd, ↓qb7, ↓qaY, ↓qan, ↓qai, ↓qaj, ↓qam, ↓qak, ↓qal, ↓qct, ↓qcs, ↓qcr, ↓qaq, ↓qao, ↓qap, ↓qbv, ↓qah, ↓qbS, ↓qbC, ↓qaD, ↓qaC, ↓qbx, ↓qbw, ↓qcW, ↓qbT, ↓qbM, ↓qbN, ↓qbL, ↓qbD, ↓qbE, ↓qbO, qad, qbB, qbA, qbz, ↓qck, ↓qcj, ↓qcm, ↓qcl, qbV, ↓qbQ, ↓qbP, ↓qbR, qby, qcI, qcJ, qaI, behindInMarks, lastMarks, Option.map_some, List.contains_cons, List.map_cons, List.map_nil, String.reduceBEq, String.reduceEq, Bool.and_true, Bool.true_and, Bool.and_false, Bool.false_and, Bool.or_true, Bool.true_or, Bool.or_false, Bool.false_or, Bool.not_true, Bool.not_false, and_true, true_and, exists_eq_left', exists_eq_left, beq_self_eq_true, List.length_cons, List.length_nil, Nat.reduceAdd, Nat.zero_add, Nat.reduceLeDiff, decide_true, decide_false, if_false, if_true, reduceCtorEq, N7, ↓U7]
      exact so (e3 h h2).symm
theorem c_write_set (r : Row) (h : VR r) : CallsTo cx 3 "write_set" [rowD r] (.int (wset r)) := by
  refine fn_at2 hS hp 9 (own := []) (k := 2) (n := 6) (m := 6) (xs := [Str.ofString "row"]) (ys := [Str.ofString "found"]) (tb := tb9) rfl (by kernel_rfl) rfl rfl (fun _ _ _ vs h => ?_) rfl (by kernel_rfl) (by simp [qcJ]) rfl ?_
  · rcases vs with _ | ⟨v1, _ | ⟨w, ws⟩⟩ <;> first | rfl | simp at h
  simp (maxSteps := 1000000) (dsimp := false) only [↓qaG, ↓qaH, ↓qcp, ↓qco, ↓qcn, ↓qcq, ↓qa4, ↓qbG, ↓qbF, ↓qaa, ↓qac, ↓qab, ↓qba, ↓qbe, ↓qa6, ↓qbi, ↓qa5, ↓qbf, ↓qbb, ↓qa9, ↓qbh, ↓qbd, ↓qbg, ↓qcL, ↓qcK, ↓qcM, ↓qb4, ↓qbk, ↓qbj, ↓qaF, ↓qaE, ↓qcN, ↓qcO, ↓qa8, ↓qa7, ↓qbc, ↓qcT, ↓qcP, ↓qcR, ↓qcS, ↓qcQ, ↓qbl, ↓qbt, ↓qbs, ↓qbm, ↓qbo, ↓qbq, ↓qbu, ↓qbp, ↓qbr, ↓qbn, ↓qbW, ↓qbX, ↓qaf, ↓qae, ↓qag, ↓qaP, ↓qaO, ↓qaK, ↓qaJ, ↓qaL, ↓qaM, ↓qaN, ↓qaZ, ↓qbU, ↓qbH, ↓qbI, ↓qbJ, ↓qbK, ↓qcf, ↓qcg, ↓qch, ↓qci, ↓qa1, ↓qa3, ↓qa0, ↓qa2, ↓qar, ↓qaA, ↓qaw, ↓qav, ↓qau, ↓qay, ↓qaz, ↓qas, ↓qax, ↓qaB, ↓qat, ↓qcV, ↓qcU, ↓qaQ, ↓qaW, ↓qaV, ↓qaU, ↓qcF, ↓qcC, ↓qcz, ↓qcG, ↓qcA, ↓qcD, ↓qcE, ↓qcH, ↓qcB, ↓qb5, ↓qb3, ↓qb2, ↓qb1, ↓qbZ, ↓qbY, ↓qb0, ↓qcx, ↓qcv, ↓qcw, ↓qcu, ↓qcy, ↓qb9, ↓qcb, ↓qb6, ↓qce, ↓qcc, ↓qb8, ↓qca, ↓qcd, ↓qb7, ↓qaY, ↓qan, ↓qai, ↓qaj, ↓qam, ↓qak, ↓qal, ↓qct, ↓qcs, ↓qcr, ↓qaq, ↓qao, ↓qap, ↓qbv, ↓qah, ↓qbS, ↓qbC, ↓qaD, ↓qaC, ↓qbx, ↓qbw, ↓qcW, ↓qbT, ↓qbM, ↓qbN, ↓qbL, ↓qbD, ↓qbE, ↓qbO, qad, qbB, qbA, qbz, ↓qck, ↓qcj, ↓qcm, ↓qcl, qbV, ↓qbQ, ↓qbP, ↓qbR, qby, qcI, qcJ, qaI, behindInMarks, lastMarks, Option.map_some, List.contains_cons, List.map_cons, List.map_nil, String.reduceBEq, String.reduceEq, Bool.and_true, Bool.true_and, Bool.and_false, Bool.false_and, Bool.or_true, Bool.true_or, Bool.or_false, Bool.false_or, Bool.not_true, Bool.not_false, and_true, true_and, exists_eq_left', exists_eq_left, beq_self_eq_true, List.length_cons, List.length_nil, Nat.reduceAdd, Nat.zero_add, Nat.reduceLeDiff, decide_true, decide_false, if_false, if_true, reduceCtorEq, N9, ↓U9]
  refine ⟨(c_is_store hS hp r).isFn, useC_of ((c_is_store hS hp r).le (by decide)) ?_⟩
  simp (maxSteps := 1000000) (dsimp := false) only [↓qaG, ↓qaH, ↓qcp, ↓qco, ↓qcn, ↓qcq, ↓qa4, ↓qbG, ↓qbF, ↓qaa, ↓qac, ↓qab, ↓qba, ↓qbe, ↓qa6, ↓qbi, ↓qa5, ↓qbf, ↓qbb, ↓qa9, ↓qbh, ↓qbd, ↓qbg, ↓qcL, ↓qcK, ↓qcM, ↓qb4, ↓qbk, ↓qbj, ↓qaF, ↓qaE, ↓qcN, ↓qcO, ↓qa8, ↓qa7, ↓qbc, ↓qcT, ↓qcP, ↓qcR, ↓qcS, ↓qcQ, ↓qbl, ↓qbt, ↓qbs, ↓qbm, ↓qbo, ↓qbq, ↓qbu, ↓qbp, ↓qbr, ↓qbn, ↓qbW, ↓qbX, ↓qaf, ↓qae, ↓qag, ↓qaP, ↓qaO, ↓qaK, ↓qaJ, ↓qaL, ↓qaM, ↓qaN, ↓qaZ, ↓qbU, ↓qbH, ↓qbI, ↓qbJ, ↓qbK, ↓qcf, ↓qcg, ↓qch, ↓qci, ↓qa1, ↓qa3, ↓qa0, ↓qa2, ↓qar, ↓qaA, ↓qaw, ↓qav, ↓qau, ↓qay, ↓qaz, ↓qas, ↓qax, ↓qaB, ↓qat, ↓qcV, ↓qcU, ↓qaQ, ↓qaW, ↓qaV, ↓qaU, ↓qcF, ↓qcC, ↓qcz, ↓qcG, ↓qcA, ↓qcD, ↓qcE, ↓qcH, ↓qcB, ↓qb5, ↓qb3, ↓qb2, ↓qb1, ↓qbZ, ↓qbY, ↓qb0, ↓qcx, ↓qcv, ↓qcw, ↓qcu, ↓qcy, ↓qb9, ↓qcb, ↓qb6, ↓qce, ↓qcc, ↓qb8, ↓qca, ↓qcd, ↓qb7, ↓qaY, ↓qan, ↓qai, ↓qaj, ↓qam, ↓qak, ↓qal, ↓qct, ↓qcs, ↓qcr, ↓qaq, ↓qao, ↓qap, ↓qbv, ↓qah, ↓qbS, ↓qbC, ↓qaD, ↓qaC, ↓qbx, ↓qbw, ↓qcW, ↓qbT, ↓qbM, ↓qbN, ↓qbL, ↓qbD, ↓qbE, ↓qbO, qad, qbB, qbA, qbz, ↓qck, ↓qcj, ↓qcm, ↓qcl, qbV, ↓qbQ, ↓qbP, ↓qbR, qby, qcI, qcJ, qaI, behindInMarks, lastMarks, Option.map_some, List.contains_cons, List.map_cons, List.map_nil, String.reduceBEq, String.reduceEq, Bool.and_true, Bool.true_and, Bool.and_false, Bool.false_and, Bool.or_true, Bool.true_or, Bool.or_false, Bool.false_or, Bool.not_true, Bool.not_false, and_true, true_and, exists_eq_left', exists_eq_left, beq_self_eq_true, List.length_cons, List.length_nil, Nat.reduceAdd, Nat.zero_add, Nat.reduceLeDiff, decide_true, decide_false, if_false, if_true, reduceCtorEq, N9, ↓U9]
  refine iteB_of (fun h1 => ?_) (fun h1 => ?_)
  · simp (maxSteps := 1000000) (dsimp := false) only [↓qaG, ↓qaH, ↓qcp, ↓qco, ↓qcn, ↓qcq, ↓qa4, ↓qbG, ↓qbF, ↓qaa, ↓qac, ↓qab, ↓qba, ↓qbe, ↓qa6, ↓qbi, ↓qa5, ↓qbf, ↓qbb, ↓qa9, ↓qbh, ↓qbd, ↓qbg, ↓qcL, ↓qcK, ↓qcM, ↓qb4, ↓qbk, ↓qbj, ↓qaF, ↓qaE, ↓qcN, ↓qcO, ↓qa8, ↓qa7, ↓qbc, ↓qcT, ↓qcP, ↓qcR, ↓qcS, ↓qcQ, ↓qbl, ↓qbt, ↓qbs, ↓qbm, ↓qbo, ↓qbq, ↓qbu, ↓qbp, ↓qbr, ↓qbn, ↓qbW, ↓qbX, ↓qaf, ↓qae, ↓qag, ↓qaP, ↓qaO, ↓qaK, ↓qaJ, ↓qaL, ↓qaM, ↓qaN, ↓qaZ, ↓qbU, ↓qbH, ↓qbI, ↓qbJ, ↓qbK, ↓qcf, ↓qcg, ↓qch, ↓qci, ↓qa1, ↓qa3, ↓qa0, ↓qa2, ↓qar, ↓qaA, ↓qaw, ↓qav, ↓qau, ↓qay, ↓qaz, ↓qas, ↓qax, ↓qaB, ↓qat, ↓qcV, ↓qcU, ↓qaQ, ↓qaW, ↓qaV, ↓qaU, ↓qcF, ↓qcC, ↓qcz, ↓qcG, ↓qcA, ↓qcD, ↓qcE, ↓qcH, ↓qcB, ↓qb5, ↓qb3, ↓qb2, ↓qb1, ↓qbZ, ↓qbY, ↓qb0, ↓qcx, ↓qcv, ↓qcw, ↓qcu, ↓qcy, ↓qb9, ↓qcb, ↓qb6, ↓qce, ↓qcc, ↓qb8, ↓qca, ↓qcd, ↓qb7, ↓qaY, ↓qan, ↓qai, ↓qaj, ↓qam, ↓qak, ↓qal, ↓qct, ↓qcs, ↓qcr, ↓qaq, ↓qao, ↓qap, ↓qbv, ↓qah, ↓qbS, ↓qbC, ↓qaD, ↓qaC, ↓qbx, ↓qbw, ↓qcW, ↓qbT, ↓qbM, ↓qbN, ↓qbL, ↓qbD, ↓qbE, ↓qbO, qad, qbB, qbA, qbz, ↓qck, ↓qcj, ↓qcm, ↓qcl, qbV, ↓qbQ, ↓qbP, ↓qbR, qby, qcI, qcJ, qaI, behindInMarks, lastMarks, Option.map_some, List.contains_cons, List.map_cons, List.map_nil, String.reduceBEq, String.reduceEq, Bool.and_true, Bool.true_and, Bool.and_false, Bool.false_and, Bool.or_true, Bool.true_or, Bool.or_false, Bool.false_or, Bool.not_true, Bool.not_false, and_true, true_and, exists_eq_left', exists_eq_left, beq_self_eq_true, List.length_cons, List.length_nil, Nat.reduceAdd, Nat.zero_add, Nat.reduceLeDiff, decide_true, decide_false, if_false, if_true, reduceCtorEq, N9, ↓U9]
    exact io (wset_st h1).symm
  · simp (maxSteps := 1000000) (dsimp := false) only [↓qaG, ↓qaH, ↓qcp, ↓qco, ↓qcn, ↓qcq, ↓qa4, ↓qbG, ↓qbF, ↓qaa, ↓qac, ↓qab, ↓qba, ↓qbe, ↓qa6, ↓qbi, ↓qa5, ↓qbf, ↓qbb, ↓qa9, ↓qbh, ↓qbd, ↓qbg, ↓qcL, ↓qcK, ↓qcM, ↓qb4, ↓qbk, ↓qbj, ↓qaF, ↓qaE, ↓qcN, ↓qcO, ↓qa8, ↓qa7, ↓qbc, ↓qcT, ↓qcP, ↓qcR, ↓qcS, ↓qcQ, ↓qbl, ↓qbt, ↓qbs, ↓qbm, ↓qbo, ↓qbq, ↓qbu, ↓qbp, ↓qbr, ↓qbn, ↓qbW, ↓qbX, ↓qaf, ↓qae, ↓qag, ↓qaP, ↓qaO, ↓qaK, ↓qaJ, ↓qaL, ↓qaM, ↓qaN, ↓qaZ, ↓qbU, ↓qbH, ↓qbI, ↓qbJ, ↓qbK, ↓qcf, ↓qcg, ↓qch, ↓qci, ↓qa1, ↓qa3, ↓qa0, ↓qa2, ↓qar, ↓qaA, ↓qaw, ↓qav, ↓qau, ↓qay, ↓qaz, ↓qas, ↓qax, ↓qaB, ↓qat, ↓qcV, ↓qcU, ↓qaQ, ↓qaW, ↓qaV, ↓qaU, ↓qcF, ↓qcC, ↓qcz, ↓qcG, ↓qcA, ↓qcD, ↓qcE, ↓qcH, ↓qcB, ↓qb5, ↓qb3, ↓qb2, ↓qb1, ↓qbZ, ↓qbY, ↓qb0, ↓qcx, ↓qcv, ↓qcw, ↓qcu, ↓qcy, ↓qb9, ↓qcb, ↓qb6, ↓qce, ↓qcc, ↓qb8, ↓qca, ↓qcd, ↓qb7, ↓qaY, ↓qan, ↓qai, ↓qaj, ↓qam, ↓qak, ↓qal, ↓qct, ↓qcs, ↓qcr, ↓qaq, ↓qao, ↓qap, ↓qbv, ↓qah, ↓qbS, ↓qbC, ↓qaD, ↓qaC, ↓qbx, ↓qbw, ↓qcW, ↓qbT, ↓qbM, ↓qbN, ↓qbL, ↓qbD, ↓qbE, ↓qbO, qad, qbB, qbA, qbz, ↓qck, ↓qcj, ↓qcm, ↓qcl, qbV, ↓qbQ, ↓qbP, ↓qbR, qby, qcI, qcJ, qaI, behindInMarks, lastMarks, Option.map_some, List.contains_cons, List.map_cons, List.map_nil, String.reduceBEq, String.reduceEq, Bool.and_true, Bool.true_and, Bool.and_false, Bool.false_and, Bool.or_true, Bool.true_or, Bool.or_false, Bool.false_or, Bool.not_true, Bool.not_false, and_true, true_and, exists_eq_left', exists_eq_left, beq_self_eq_true, List.length_cons, List.length_nil, Nat.reduceAdd, Nat.zero_add, Nat.reduceLeDiff, decide_true, decide_false, if_false, if_true, reduceCtorEq, N9, ↓U9]
    refine ⟨(c_is_load hS hp r).isFn, useC_of ((c_is_load hS hp r).le (by decide)) ?_⟩
    simp (maxSteps := 1000000) (dsimp := false) only [↓qaG, ↓qaH, ↓qcp, ↓qco, ↓qcn, ↓qcq, ↓qa4, ↓qbG, ↓qbF, ↓qaa, ↓qac, ↓qab, ↓qba, ↓qbe, ↓qa6, ↓qbi, ↓qa5, ↓qbf, ↓qbb, ↓qa9, ↓qbh, ↓qbd, ↓qbg, ↓qcL, ↓qcK, ↓qcM, ↓qb4, ↓qbk, ↓qbj, ↓qaF, ↓qaE, ↓qcN, ↓qcO, ↓qa8, ↓qa7, ↓qbc, ↓qcT, ↓qcP, ↓qcR, ↓qcS, ↓qcQ, ↓qbl, ↓qbt, ↓qbs, ↓qbm, ↓qbo, ↓qbq, ↓qbu, ↓qbp, ↓qbr, ↓qbn, ↓qbW, ↓qbX, ↓qaf, ↓qae, ↓qag, ↓qaP, ↓qaO, ↓qaK, ↓qaJ, ↓qaL, ↓qaM, ↓qaN, ↓qaZ, ↓qbU, ↓qbH, ↓qbI, ↓qbJ, ↓qbK, ↓qcf, ↓qcg, ↓qch, ↓qci, ↓qa1, ↓qa3, ↓qa0, ↓qa2, ↓qar, ↓qaA, ↓qaw, ↓qav, ↓qau, ↓qay, ↓qaz, ↓qas, ↓qax, ↓qaB, ↓qat, ↓qcV, ↓qcU, ↓qaQ, ↓qaW, ↓qaV, ↓qaU, ↓qcF, ↓qcC, ↓qcz, ↓qcG, ↓qcA, ↓qcD, ↓qcE, ↓qcH, ↓qcB, ↓qb5, ↓qb3, ↓qb2, ↓qb1, ↓qbZ, ↓qbY, ↓qb0, ↓qcx, ↓qcv, ↓qcw, ↓qcu, ↓qcy, ↓qb9, ↓qcb, ↓qb6, ↓qce, ↓qcc, ↓qb8, ↓qca, ↓qcd, ↓qb7, ↓qaY, ↓qan, ↓qai, ↓qaj, ↓qam, ↓qak, ↓qal, ↓qct, ↓qcs, ↓qcr, ↓qaq, ↓qao, ↓qap, ↓qbv, ↓qah, ↓qbS, ↓qbC, ↓qaD, ↓qaC, ↓qbx, ↓qbw, ↓qcW, ↓qbT, ↓qbM, ↓qbN, ↓qbL, ↓qbD, ↓qbE, ↓qbO, qad, qbB, qbA, qbz, ↓qck, ↓qcj, ↓qcm, ↓qcl, qbV, ↓qbQ, ↓qbP, ↓qbR, qby, qcI, qcJ, qaI, behindInMarks, lastMarks, Option.map_some, List.contains_cons, List.map_cons, List.map_nil, String.reduceBEq, String.reduceEq, Bool.and_true, Bool.true_and, Bool.and_false, Bool.false_and, Bool.or_true, Bool.true_or, Bool.or_false, Bool.false_or, Bool.not_true, Bool.not_false, and_true, true_and, exists_eq_left', exists_eq_left, beq_self_eq_true, List.length_cons, List.length_nil, Nat.reduceAdd, Nat.zero_add, Nat.reduceLeDiff, decide_true, decide_false, if_false, if_true, reduceCtorEq, N9, ↓U9]
    refine iteB_of (fun h2 => ?_) (fun h2 => ?_)
    · simp (maxSteps := 1000000) (dsimp := false) only [↓qaG, ↓qaH, ↓qcp, ↓qco, ↓qcn, ↓qcq, ↓qa4, ↓qbG, ↓qbF, ↓qaa, ↓qac, ↓qab, ↓qba, ↓qbe, ↓qa6, ↓qbi, ↓qa5, ↓qbf, ↓qbb, ↓qa9, ↓qbh, ↓qbd, ↓qbg, ↓qcL, ↓qcK, ↓qcM, ↓qb4, ↓qbk, ↓qbj, ↓qaF, ↓qaE, ↓qcN, ↓qcO, ↓qa8, ↓qa7, ↓qbc, ↓qcT, ↓qcP, ↓qcR, ↓qcS, ↓qcQ, ↓qbl, ↓qbt, ↓qbs, ↓qbm, ↓qbo, ↓qbq, ↓qbu, ↓qbp, ↓qbr, ↓qbn, ↓qbW, ↓qbX, ↓qaf, ↓qae, ↓qag, ↓qaP, ↓qaO, ↓qaK, ↓qaJ, ↓qaL, ↓qaM, ↓qaN, ↓qaZ, ↓qbU, ↓qbH, ↓qbI, ↓qbJ, ↓qbK, ↓qcf, ↓qcg, ↓qch, ↓qci, ↓qa1, ↓qa3, ↓qa0, ↓qa2, ↓qar, ↓qaA, ↓qaw, ↓qav, ↓qau, ↓qay, ↓qaz, ↓qas, ↓qax, ↓qaB, ↓qat, ↓qcV, ↓qcU, ↓qaQ, ↓qaW, ↓qaV, ↓qaU, ↓qcF, ↓qcC, ↓qcz, ↓qcG, ↓qcA, ↓qcD, ↓qcE, ↓qcH, ↓qcB, ↓qb5, ↓qb3, ↓qb2, ↓qb1, ↓qbZ, ↓qbY, ↓qb0, ↓qcx, ↓qcv, ↓qcw, ↓qcu, ↓qcy, ↓qb9, ↓qcb, ↓qb6, ↓qce, ↓qcc, ↓qb8, ↓qca, ↓qcd, ↓qb7, ↓qaY, ↓qan, ↓qai, ↓qaj, ↓qam, ↓qak, ↓qal, ↓qct, ↓qcs, ↓qcr, ↓qaq, ↓qao, ↓qap, ↓qbv, ↓qah, ↓qbS, ↓qbC, ↓qaD, ↓qaC, ↓qbx, ↓qbw, ↓qcW, ↓qbT, ↓qbM, ↓qbN, ↓qbL, ↓qbD, ↓qbE, ↓qbO, qad, qbB, qbA, qbz, ↓qck, ↓qcj, ↓qcm, ↓qcl, qbV, ↓qbQ, ↓qbP, ↓qbR, qby, qcI, qcJ, qaI, behindInMarks, lastMarks, Option.map_some, List.contains_cons, List.map_cons, List.map_nil, String.reduceBEq, String.reduceEq, Bool.and_true, Bool.true_and, Bool.and_false, Bool.false_and, Bool.or_true, Bool.true_or, Bool.or_false, Bool.false_or, Bool.not_true, Bool.not_false, and_true, true_and, exists_eq_left', exists_eq_left, beq_self_eq_true, List.length_cons, List.length_nil, Nat.reduceAdd, Nat.zero_add, Nat.reduceLeDiff, decide_true, decide_false, if_false, if_true, reduceCtorEq, N9, ↓U9]
      exact ⟨h.a0, h.aU, by decide, io (wset_ld h2).symm⟩
    · simp (maxSteps := 1000000) (dsimp := false) only [↓qaG, ↓qaH, ↓qcp, ↓qco, ↓qcn, ↓qcq, ↓qa4, ↓qbG, ↓qbF, ↓qaa, ↓qac, ↓qab, ↓qba, ↓qbe, ↓qa6, ↓qbi, ↓qa5, ↓qbf, ↓qbb, ↓qa9, ↓qbh, ↓qbd, ↓qbg, ↓qcL, ↓qcK, ↓qcM, ↓qb4, ↓qbk, ↓qbj, ↓qaF, ↓qaE, ↓qcN, ↓qcO, ↓qa8, ↓qa7, ↓qbc, ↓qcT, ↓qcP, ↓qcR, ↓qcS, ↓qcQ, ↓qbl, ↓qbt, ↓qbs, ↓qbm, ↓qbo, ↓qbq, ↓qbu, ↓qbp, ↓qbr, ↓qbn, ↓qbW, ↓qbX, ↓qaf, ↓qae, ↓qag, ↓qaP, ↓qaO, ↓qaK, ↓qaJ, ↓qaL, ↓qaM, ↓qaN, ↓qaZ, ↓qbU, ↓qbH, ↓qbI, ↓qbJ, ↓qbK, ↓qcf, ↓qcg, ↓qch, ↓qci, ↓qa1, ↓qa3, ↓qa0, ↓qa2, ↓qar, ↓qaA, ↓qaw, ↓qav, ↓qau, ↓qay, ↓qaz, ↓qas, ↓qax, ↓qaB, ↓qat, ↓qcV, ↓qcU, ↓qaQ, ↓qaW, ↓qaV, ↓qaU, ↓qcF, ↓qcC, ↓qcz, ↓qcG, ↓qcA, ↓qcD, ↓qcE, ↓qcH, ↓qcB, ↓qb5, ↓qb3, ↓qb2, ↓qb1, ↓qbZ, ↓qbY, ↓qb0, ↓qcx, ↓qcv, ↓qcw, ↓qcu, ↓qcy, ↓qb9, ↓qcb, ↓qb6, ↓qce, ↓qcc, ↓qb8, ↓qca, ↓qcd, ↓qb7, ↓qaY, ↓qan, ↓qai, ↓qaj, ↓qam, ↓qak, ↓qal, ↓qct, ↓qcs, ↓qcr, ↓qaq, ↓qao, ↓qap, ↓qbv, ↓qah, ↓qbS, ↓qbC, ↓qaD, ↓qaC, ↓qbx, ↓qbw, ↓qcW, ↓qbT, ↓qbM, ↓qbN, ↓qbL, ↓qbD, ↓qbE, ↓qbO, qad, qbB, qbA, qbz, ↓qck, ↓qcj, ↓qcm, ↓qcl, qbV, ↓qbQ, ↓qbP, ↓qbR, qby, qcI, qcJ, qaI, behindInMarks, lastMarks, Option.map_some, List.contains_cons, List.map_cons, List.map_nil, String.reduceBEq, String.reduceEq, Bool.and_true, Bool.true_and, Bool.and_false, Bool.false_and, Bool.or_true, Bool.true_or, Bool.or_false, Bool.false_or, Bool.not_true, Bool.not_false, and_true, true_and, exists_eq_left', exists_eq_left, beq_self_eq_true, List.length_cons, List.length_nil, Nat.reduceAdd, Nat.zero_add, Nat.reduceLeDiff, decide_true, decide_false, if_false, if_true, reduceCtorEq, N9, ↓U9]
      refine ⟨h.a0, h.aU, by decide, useG_of (g_flags hp) ?_⟩
      simp (maxSteps := 1000000) (dsimp := false) only [↓qaG, ↓qaH, ↓qcp, ↓qco, ↓qcn, ↓qcq, ↓qa4, ↓qbG, ↓qbF, ↓qaa, ↓qac, ↓qab, ↓qba, ↓qbe, ↓qa6, ↓qbi, ↓qa5, ↓qbf, ↓qbb, ↓qa9, ↓qbh, ↓qbd, ↓qbg, ↓qcL, ↓qcK, ↓qcM, ↓qb4, ↓qbk, ↓qbj, ↓qaF, ↓qaE, ↓qcN, ↓qcO, ↓qa8, ↓qa7, ↓qbc, ↓qcT, ↓qcP, ↓qcR, ↓qcS, ↓qcQ, ↓qbl, ↓qbt, ↓qbs, ↓qbm, ↓qbo, ↓qbq, ↓qbu, ↓qbp, ↓qbr, ↓qbn, ↓qbW, ↓qbX, ↓qaf, ↓qae, ↓qag, ↓qaP, ↓qaO, ↓qaK, ↓qaJ, ↓qaL, ↓qaM, ↓qaN, ↓qaZ, ↓qbU, ↓qbH, ↓qbI, ↓qbJ, ↓qbK, ↓qcf, ↓qcg, ↓qch, ↓qci, ↓qa1, ↓qa3, ↓qa0, ↓qa2, ↓qar, ↓qaA, ↓qaw, ↓qav, ↓qau, ↓qay, ↓qaz, ↓qas, ↓qax, ↓qaB, ↓qat, ↓qcV, ↓qcU, ↓qaQ, ↓qaW, ↓qaV, ↓qaU, ↓qcF, ↓qcC, ↓qcz, ↓qcG, ↓qcA, ↓qcD, ↓qcE, ↓qcH, ↓qcB, ↓qb5, ↓qb3, ↓qb2, ↓qb1, ↓qbZ, ↓qbY, ↓qb0, ↓qcx, ↓qcv, ↓qcw, ↓qcu, ↓qcy, ↓qb9, ↓qcb, ↓qb6, ↓qce, ↓qcc, ↓qb8, ↓qca, ↓qcd, ↓qb7, ↓qaY, ↓qan, ↓qai, ↓qaj, ↓qam, ↓qak, ↓qal, ↓qct, ↓qcs, ↓qcr, ↓qaq, ↓qao, ↓qap, ↓qbv, ↓qah, ↓qbS, ↓qbC, ↓qaD, ↓qaC, ↓qbx, ↓qbw, ↓qcW, ↓qbT, ↓qbM, ↓qbN, ↓qbL, ↓qbD, ↓qbE, ↓qbO, qad, qbB, qbA, qbz, ↓qck, ↓qcj, ↓qcm, ↓qcl, qbV, ↓qbQ, ↓qbP, ↓qbR, qby, qcI, qcJ, qaI, behindInMarks, lastMarks, Option.map_some, List.contains_cons, List.map_cons, List.map_nil, String.reduceBEq, String.reduceEq, Bool.and_true, Bool.true_and, Bool.and_false, Bool.false_and, Bool.or_true, Bool.true_or, Bool.or_false, Bool.false_or, Bool.not_true, Bool.not_false, and_true, true_and, exists_eq_left', exists_eq_left, beq_self_eq_true, List.length_cons, List.length_nil, Nat.reduceAdd, Nat.zero_add, Nat.reduceLeDiff, decide_true, decide_false, if_false, if_true, reduceCtorEq, N9, ↓U9]
      refine ⟨by decide, by decide, by decide, (c_base_name hS hp r (by unfold Op.isMem; rw [h1, h2]; rfl)).isFn, useC_of ((c_base_name hS hp r (by unfold Op.isMem; rw [h1, h2]; rfl)).le (by decide)) ?_⟩
      simp (maxSteps := 1000000) (dsimp := false) only [↓qaG, ↓qaH, ↓qcp, ↓qco, ↓qcn, ↓qcq, ↓qa4, ↓qbG, ↓qbF, ↓qaa, ↓qac, ↓qab, ↓qba, ↓qbe, ↓qa6, ↓qbi, ↓qa5, ↓qbf, ↓qbb, ↓qa9, ↓qbh, ↓qbd, ↓qbg, ↓qcL, ↓qcK, ↓qcM, ↓qb4, ↓qbk, ↓qbj, ↓qaF, ↓qaE, ↓qcN, ↓qcO, ↓qa8, ↓qa7, ↓qbc, ↓qcT, ↓qcP, ↓qcR, ↓qcS, ↓qcQ, ↓qbl, ↓qbt, ↓qbs, ↓qbm, ↓qbo, ↓qbq, ↓qbu, ↓qbp, ↓qbr, ↓qbn, ↓qbW, ↓qbX, ↓qaf, ↓qae, ↓qag, ↓qaP, ↓qaO, ↓qaK, ↓qaJ, ↓qaL, ↓qaM, ↓qaN, ↓qaZ, ↓qbU, ↓qbH, ↓qbI, ↓qbJ, ↓qbK, ↓qcf, ↓qcg, ↓qch, ↓qci, ↓qa1, ↓qa3, ↓qa0, ↓qa2, ↓qar, ↓qaA, ↓qaw, ↓qav, ↓qau, ↓qay, ↓qaz, ↓qas, ↓qax, ↓qaB, ↓qat, ↓qcV, ↓qcU, ↓qaQ, ↓qaW, ↓qaV, ↓qaU, ↓qcF, ↓qcC, ↓qcz, ↓qcG, ↓qcA, ↓qcD, ↓qcE, ↓qcH, ↓qcB, ↓qb5, ↓qb3, ↓qb2, ↓qb1, ↓qbZ, ↓qbY, ↓qb0, ↓qcx, ↓qcv, ↓qcw, ↓qcu, ↓qcy, ↓qb9, ↓qcb, ↓qb6, ↓qce, ↓qcc, ↓qb8, ↓qca, ↓qcd, ↓qb7, ↓qaY, ↓qan, ↓qai, ↓qaj, ↓qam, ↓qak, ↓qal, ↓qct, ↓qcs, ↓qcr, ↓qaq, ↓qao, ↓qap, ↓qbv, ↓qah, ↓qbS, ↓qbC, ↓qaD, ↓qaC, ↓qbx, ↓qbw, ↓qcW, ↓qbT, ↓qbM, ↓qbN, ↓qbL, ↓qbD, ↓qbE, ↓qbO, qad, qbB, qbA, qbz, ↓qck, ↓qcj, ↓qcm, ↓qcl, qbV, ↓qbQ, ↓qbP, ↓qbR, qby, qcI, qcJ, qaI, behindInMarks, lastMarks, Option.map_some, List.contains_cons, List.map_cons, List.map_nil, String.reduceBEq, String.reduceEq, Bool.and_true, Bool.true_and, Bool.and_false, Bool.false_and, Bool.or_true, Bool.true_or, Bool.or_false, Bool.false_or, Bool.not_true, Bool.not_false, and_true, true_and, exists_eq_left', exists_eq_left, beq_self_eq_true, List.length_cons, List.length_nil, Nat.reduceAdd, Nat.zero_add, Nat.reduceLeDiff, decide_true, decide_false, if_false, if_true, reduceCtorEq, N9, ↓U9, ↓in_md]
      refine iteB_of (fun h3 => ?_) (fun h3 => ?_)
      · simp (maxSteps := 1000000) (dsimp := false) only [↓qaG, ↓qaH, ↓qcp, ↓qco, ↓qcn, ↓qcq, ↓qa4, ↓qbG, ↓qbF, ↓qaa, ↓qac, ↓qab, ↓qba, ↓qbe, ↓qa6, ↓qbi, ↓qa5, ↓qbf, ↓qbb, ↓qa9, ↓qbh, ↓qbd, ↓qbg, ↓qcL, ↓qcK, ↓qcM, ↓qb4, ↓qbk, ↓qbj, ↓qaF, ↓qaE, ↓qcN, ↓qcO, ↓qa8, ↓qa7, ↓qbc, ↓qcT, ↓qcP, ↓qcR, ↓qcS, ↓qcQ, ↓qbl, ↓qbt, ↓qbs, ↓qbm, ↓qbo, ↓qbq, ↓qbu, ↓qbp, ↓qbr, ↓qbn, ↓qbW, ↓qbX, ↓qaf, ↓qae, ↓qag, ↓qaP, ↓qaO, ↓qaK, ↓qaJ, ↓qaL, ↓qaM, ↓qaN, ↓qaZ, ↓qbU, ↓qbH, ↓qbI, ↓qbJ, ↓qbK, ↓qcf, ↓qcg, ↓qch, ↓qci, ↓qa1, ↓qa3, ↓qa0, ↓qa2, ↓qar, ↓qaA, ↓qaw, ↓qav, ↓qau, ↓qay, ↓qaz, ↓qas, ↓qax, ↓qaB, ↓qat, ↓qcV, ↓qcU, ↓qaQ, ↓qaW, ↓qaV, ↓qaU, ↓qcF, ↓qcC, ↓qcz, ↓qcG, ↓qcA, ↓qcD, ↓qcE, ↓qcH, ↓qcB, ↓qb5, ↓qb3, ↓qb2, ↓qb1, ↓qbZ, ↓qbY, ↓qb0, ↓qcx, ↓qcv, ↓qcw, ↓qcu, ↓qcy, ↓qb9, ↓qcb, ↓qb6, ↓qce, ↓qcc, ↓qb8, ↓qca, ↓qcd, ↓qb7, ↓qaY, ↓qan, ↓qai, ↓qaj, ↓qam, ↓qak, ↓qal, ↓qct, ↓qcs, ↓qcr, ↓qaq, ↓qao, ↓qap, ↓qbv, ↓qah, ↓qbS, ↓qbC, ↓qaD, ↓qaC, ↓qbx, ↓qbw, ↓qcW, ↓qbT, ↓qbM, ↓qbN, ↓qbL, ↓qbD, ↓qbE, ↓qbO, qad, qbB, qbA, qbz, ↓qck, ↓qcj, ↓qcm, ↓qcl, qbV, ↓qbQ, ↓qbP, ↓qbR, qby, qcI, qcJ, qaI, behindInMarks, lastMarks, Option.map_some, List.contains_cons, List.map_cons, List.map_nil, String.reduceBEq, String.reduceEq, Bool.and_true, Bool.true_and, Bool.and_false, Bool.false_and, Bool.or_true, Bool.true_or, Bool.or_false, Bool.false_or, Bool.not_true, Bool.not_false, and_true, true_and, exists_eq_left', exists_eq_left, beq_self_eq_true, List.length_cons, List.length_nil, Nat.reduceAdd, Nat.zero_add, Nat.reduceLeDiff, decide_true, decide_false, if_false, if_true, reduceCtorEq, N9, ↓U9]
        refine useG_of (g_high hp) ?_
        simp (maxSteps := 1000000) (dsimp := false) only [↓qaG, ↓qaH, ↓qcp, ↓qco, ↓qcn, ↓qcq, ↓qa4, ↓qbG, ↓qbF, ↓qaa, ↓qac, ↓qab, ↓qba, ↓qbe, ↓qa6, ↓qbi, ↓qa5, ↓qbf, ↓qbb, ↓qa9, ↓qbh, ↓qbd, ↓qbg, ↓qcL, ↓qcK, ↓qcM, ↓qb4, ↓qbk, ↓qbj, ↓qaF, ↓qaE, ↓qcN, ↓qcO, ↓qa8, ↓qa7, ↓qbc, ↓qcT, ↓qcP, ↓qcR, ↓qcS, ↓qcQ, ↓qbl, ↓qbt, ↓qbs, ↓qbm, ↓qbo, ↓qbq, ↓qbu, ↓qbp, ↓qbr, ↓qbn, ↓qbW, ↓qbX, ↓qaf, ↓qae, ↓qag, ↓qaP, ↓qaO, ↓qaK, ↓qaJ, ↓qaL, ↓qaM, ↓qaN, ↓qaZ, ↓qbU, ↓qbH, ↓qbI, ↓qbJ, ↓qbK, ↓qcf, ↓qcg, ↓qch, ↓qci, ↓qa1, ↓qa3, ↓qa0, ↓qa2, ↓qar, ↓qaA, ↓qaw, ↓qav, ↓qau, ↓qay, ↓qaz, ↓qas, ↓qax, ↓qaB, ↓qat, ↓qcV, ↓qcU, ↓qaQ, ↓qaW, ↓qaV, ↓qaU, ↓qcF, ↓qcC, ↓qcz, ↓qcG, ↓qcA, ↓qcD, ↓qcE, ↓qcH, ↓qcB, ↓qb5, ↓qb3, ↓qb2, ↓qb1, ↓qbZ, ↓qbY, ↓qb0, ↓qcx, ↓qcv, ↓qcw, ↓qcu, ↓qcy, ↓qb9, ↓qcb, ↓qb6, ↓qce, ↓qcc, ↓qb8, ↓qca, ↓qcd, ↓qb7, ↓qaY, ↓qan, ↓qai, ↓qaj, ↓qam, ↓qak, ↓qal, ↓qct, ↓qcs, ↓qcr, ↓qaq, ↓qao, ↓qap, ↓qbv, ↓qah, ↓qbS, ↓qbC, ↓qaD, ↓qaC, ↓qbx, ↓qbw, ↓qcW, ↓qbT, ↓qbM, ↓qbN, ↓qbL, ↓qbD, ↓qbE, ↓qbO, qad, qbB, qbA, qbz, ↓qck, ↓qcj, ↓qcm, ↓qcl, qbV, ↓qbQ, ↓qbP, ↓qbR, qby, qcI, qcJ, qaI, behindInMarks, lastMarks, Option.map_some, List.contains_cons, List.map_cons, List.map_nil, String.reduceBEq, String.reduceEq, Bool.and_true, Bool.true_and, Bool.and_false, Bool.false_and, Bool.or_true, Bool.true_or, Bool.or_false, Bool.false_or, Bool.not_true, Bool.not_false, and_true, true_and, exists_eq_left', exists_eq_left, beq_self_eq_true, List.length_cons, List.length_nil, Nat.reduceAdd, Nat.zero_add, Nat.reduceLeDiff, decide_true, decide_false, if_false, if_true, reduceCtorEq, N9, ↓U9]
        exact ⟨by decide, by decide, by decide, io (wset_mul (of_decide_eq_true h3)).symm⟩
      · simp (maxSteps := 1000000) (dsimp := false) only [↓qaG, ↓qaH, ↓qcp, ↓qco, ↓qcn, ↓qcq, ↓qa4, ↓qbG, ↓qbF, ↓qaa, ↓qac, ↓qab, ↓qba, ↓qbe, ↓qa6, ↓qbi, ↓qa5, ↓qbf, ↓qbb, ↓qa9, ↓qbh, ↓qbd, ↓qbg, ↓qcL, ↓qcK, ↓qcM, ↓qb4, ↓qbk, ↓qbj, ↓qaF, ↓qaE, ↓qcN, ↓qcO, ↓qa8, ↓qa7, ↓qbc, ↓qcT, ↓qcP, ↓qcR, ↓qcS, ↓qcQ, ↓qbl, ↓qbt, ↓qbs, ↓qbm, ↓qbo, ↓qbq, ↓qbu, ↓qbp, ↓qbr, ↓qbn, ↓qbW, ↓qbX, ↓qaf, ↓qae, ↓qag, ↓qaP, ↓qaO, ↓qaK, ↓qaJ, ↓qaL, ↓qaM, ↓qaN, ↓qaZ, ↓qbU, ↓qbH, ↓qbI, ↓qbJ, ↓qbK, ↓qcf, ↓qcg, ↓qch, ↓qci, ↓qa1, ↓qa3, ↓qa0, ↓qa2, ↓qar, ↓qaA, ↓qaw, ↓qav, ↓qau, ↓qay, ↓qaz, ↓qas, ↓qax, ↓qaB, ↓qat, ↓qcV, ↓qcU, ↓qaQ, ↓qaW, ↓qaV, ↓qaU, ↓qcF, ↓qcC, ↓qcz, ↓qcG, ↓qcA, ↓qcD, ↓qcE, ↓qcH, ↓qcB, ↓qb5, ↓qb3, ↓qb2, ↓qb1, ↓qbZ, ↓qbY, ↓qb0, ↓qcx, ↓qcv, ↓qcw, ↓qcu, ↓qcy, ↓qb9, ↓qcb, ↓qb6, ↓qce, ↓qcc, ↓qb8, ↓qca, ↓qcd, ↓qb7, ↓qaY, ↓qan, ↓qai, ↓qaj, ↓qam, ↓qak, ↓qal, ↓qct, ↓qcs, ↓qcr, ↓qaq, ↓qao, ↓qap, ↓qbv, ↓qah, ↓qbS, ↓qbC, ↓qaD, ↓qaC, ↓qbx, ↓qbw, ↓qcW, ↓qbT, ↓qbM, ↓qbN, ↓qbL, ↓qbD, ↓qbE, ↓qbO, qad, qbB, qbA, qbz, ↓qck, ↓qcj, ↓qcm, ↓qcl, qbV, ↓qbQ, ↓qbP, ↓qbR, qby, qcI, qcJ, qaI, behindInMarks, lastMarks, Option.map_some, List.contains_cons, List.map_cons, List.map_nil, String.reduceBEq, String.reduceEq, Bool.and_true, Bool.true_and, Bool.and_false, Bool.false_and, Bool.or_true, Bool.true_or, Bool.or_false, Bool.false_or, Bool.not_true, Bool.not_false, and_true, true_and, exists_eq_left', exists_eq_left, beq_self_eq_true, List.length_cons, List.length_nil, Nat.reduceAdd, Nat.zero_add, Nat.reduceLeDiff, decide_true, decide_false, if_false, if_true, reduceCtorEq, N9, ↓U9]
        exact io (wset_r h1 h2 (of_decide_eq_false h3)).symm
theorem c_read_set (r : Row) (h : VR r) : CallsTo cx 3 "read_set" [rowD r] (.int (rset r)) := by
  refine fn_at2 hS hp 8 (own := []) (k := 2) (n := 6) (m := 6) (xs := [Str.ofString "row"]) (ys := [Str.ofString "name"]) (tb := tb8) rfl (by kernel_rfl) rfl rfl (fun _ _ _ vs h => ?_) rfl (by kernel_rfl) (by simp [qcJ]) rfl ?_
  · rcases vs with _ | ⟨v1, _ | ⟨w, ws⟩⟩ <;> first | rfl | simp at h
  simp (maxSteps := 1000000) (dsimp := false) only [↓qaG, ↓qaH, ↓qcp, ↓qco, ↓qcn, ↓qcq, ↓qa4, ↓qbG, ↓qbF, ↓qaa, ↓qac, ↓qab, ↓qba, ↓qbe, ↓qa6, ↓qbi, ↓qa5, ↓qbf, ↓qbb, ↓qa9, ↓qbh, ↓qbd, ↓qbg, ↓qcL, ↓qcK, ↓qcM, ↓qb4, ↓qbk, ↓qbj, ↓qaF, ↓qaE, ↓qcN, ↓qcO, ↓qa8, ↓qa7, ↓qbc, ↓qcT, ↓qcP, ↓qcR, ↓qcS, ↓qcQ, ↓qbl, ↓qbt, ↓qbs, ↓qbm, ↓qbo, ↓qbq, ↓qbu, ↓qbp, ↓qbr, ↓qbn, ↓qbW, ↓qbX, ↓qaf, ↓qae, ↓qag, ↓qaP, ↓qaO, ↓qaK, ↓qaJ, ↓qaL, ↓qaM, ↓qaN, ↓qaZ, ↓qbU, ↓qbH, ↓qbI, ↓qbJ, ↓qbK, ↓qcf, ↓qcg, ↓qch, ↓qci, ↓qa1, ↓qa3, ↓qa0, ↓qa2, ↓qar, ↓qaA, ↓qaw, ↓qav, ↓qau, ↓qay, ↓qaz, ↓qas, ↓qax, ↓qaB, ↓qat, ↓qcV, ↓qcU, ↓qaQ, ↓qaW, ↓qaV, ↓qaU, ↓qcF, ↓qcC, ↓qcz, ↓qcG, ↓qcA, ↓qcD, ↓qcE, ↓qcH, ↓qcB, ↓qb5, ↓qb3, ↓qb2, ↓qb1, ↓qbZ, ↓qbY, ↓qb0, ↓qcx, ↓qcv, ↓qcw, ↓qcu, ↓qcy, ↓qb9, ↓qcb, ↓qb6, ↓qce, ↓qcc, ↓qb8, ↓qca, ↓qcd, ↓qb7, ↓qaY, ↓qan, ↓qai, ↓qaj, ↓qam, ↓qak, ↓qal, ↓qct, ↓qcs, ↓qcr, ↓qaq, ↓qao, ↓qap, ↓qbv, ↓qah, ↓qbS, ↓qbC, ↓qaD, ↓qaC, ↓qbx, ↓qbw, ↓qcW, ↓qbT, ↓qbM, ↓qbN, ↓qbL, ↓qbD, ↓qbE, ↓qbO, qad, qbB, qbA, qbz, ↓qck, ↓qcj, ↓qcm, ↓qcl, qbV, ↓qbQ, ↓qbP, ↓qbR, qby, qcI, qcJ, qaI, behindInMarks, lastMarks, Option.map_some, List.contains_cons, List.map_cons, List.map_nil, String.reduceBEq, String.reduceEq, Bool.and_true, Bool.true_and, Bool.and_false, Bool.false_and, Bool.or_true, Bool.true_or, Bool.or_false, Bool.false_or, Bool.not_true, Bool.not_false, and_true, true_and, exists_eq_left', exists_eq_left, beq_self_eq_true, List.length_cons, List.length_nil, Nat.reduceAdd, Nat.zero_add, Nat.reduceLeDiff, decide_true, decide_false, if_false, if_true, reduceCtorEq, N8, ↓U8]
  refine ⟨(c_is_load hS hp r).isFn, useC_of ((c_is_load hS hp r).le (by decide)) ?_⟩
  simp (maxSteps := 1000000) (dsimp := false) only [↓qaG, ↓qaH, ↓qcp, ↓qco, ↓qcn, ↓qcq, ↓qa4, ↓qbG, ↓qbF, ↓qaa, ↓qac, ↓qab, ↓qba, ↓qbe, ↓qa6, ↓qbi, ↓qa5, ↓qbf, ↓qbb, ↓qa9, ↓qbh, ↓qbd, ↓qbg, ↓qcL, ↓qcK, ↓qcM, ↓qb4, ↓qbk, ↓qbj, ↓qaF, ↓qaE, ↓qcN, ↓qcO, ↓qa8, ↓qa7, ↓qbc, ↓qcT, ↓qcP, ↓qcR, ↓qcS, ↓qcQ, ↓qbl, ↓qbt, ↓qbs, ↓qbm, ↓qbo, ↓qbq, ↓qbu, ↓qbp, ↓qbr, ↓qbn, ↓qbW, ↓qbX, ↓qaf, ↓qae, ↓qag, ↓qaP, ↓qaO, ↓qaK, ↓qaJ, ↓qaL, ↓qaM, ↓qaN, ↓qaZ, ↓qbU, ↓qbH, ↓qbI, ↓qbJ, ↓qbK, ↓qcf, ↓qcg, ↓qch, ↓qci, ↓qa1, ↓qa3, ↓qa0, ↓qa2, ↓qar, ↓qaA, ↓qaw, ↓qav, ↓qau, ↓qay, ↓qaz, ↓qas, ↓qax, ↓qaB, ↓qat, ↓qcV, ↓qcU, ↓qaQ, ↓qaW, ↓qaV, ↓qaU, ↓qcF, ↓qcC, ↓qcz, ↓qcG, ↓qcA, ↓qcD, ↓qcE, ↓qcH, ↓qcB, ↓qb5, ↓qb3, ↓qb2, ↓qb1, ↓qbZ, ↓qbY, ↓qb0, ↓qcx, ↓qcv, ↓qcw, ↓qcu, ↓qcy, ↓qb9, ↓qcb, ↓qb6, ↓qce, ↓qcc, ↓qb8, ↓qca, ↓qcd, ↓qb7, ↓qaY, ↓qan, ↓qai, ↓qaj, ↓qam, ↓qak, ↓qal, ↓qct, ↓qcs, ↓qcr, ↓qaq, ↓qao, ↓qap, ↓qbv, ↓qah, ↓qbS, ↓qbC, ↓qaD, ↓qaC, ↓qbx, ↓qbw, ↓qcW, ↓qbT, ↓qbM, ↓qbN, ↓qbL, ↓qbD, ↓qbE, ↓qbO, qad, qbB, qbA, qbz, ↓qck, ↓qcj, ↓qcm, ↓qcl, qbV, ↓qbQ, ↓qbP, ↓qbR, qby, qcI, qcJ, qaI, behindInMarks, lastMarks, Option.map_some, List.contains_cons, List.map_cons, List.map_nil, String.reduceBEq, String.reduceEq, Bool.and_true, Bool.true_and, Bool.and_false, Bool.false_and, Bool.or_true, Bool.true_or, Bool.or_false, Bool.false_or, Bool.not_true, Bool.not_false, and_true, true_and, exists_eq_left', exists_eq_left, beq_self_eq_true, List.length_cons, List.length_nil, Nat.reduceAdd, Nat.zero_add, Nat.reduceLeDiff, decide_true, decide_false, if_false, if_true, reduceCtorEq, N8, ↓U8]
  refine iteB_of (fun h1 => ?_) (fun h1 => ?_)
  · simp (maxSteps := 1000000) (dsimp := false) only [↓qaG, ↓qaH, ↓qcp, ↓qco, ↓qcn, ↓qcq, ↓qa4, ↓qbG, ↓qbF, ↓qaa, ↓qac, ↓qab, ↓qba, ↓qbe, ↓qa6, ↓qbi, ↓qa5, ↓qbf, ↓qbb, ↓qa9, ↓qbh, ↓qbd, ↓qbg, ↓qcL, ↓qcK, ↓qcM, ↓qb4, ↓qbk, ↓qbj, ↓qaF, ↓qaE, ↓qcN, ↓qcO, ↓qa8, ↓qa7, ↓qbc, ↓qcT, ↓qcP, ↓qcR, ↓qcS, ↓qcQ, ↓qbl, ↓qbt, ↓qbs, ↓qbm, ↓qbo, ↓qbq, ↓qbu, ↓qbp, ↓qbr, ↓qbn, ↓qbW, ↓qbX, ↓qaf, ↓qae, ↓qag, ↓qaP, ↓qaO, ↓qaK, ↓qaJ, ↓qaL, ↓qaM, ↓qaN, ↓qaZ, ↓qbU, ↓qbH, ↓qbI, ↓qbJ, ↓qbK, ↓qcf, ↓qcg, ↓qch, ↓qci, ↓qa1, ↓qa3, ↓qa0, ↓qa2, ↓qar, ↓qaA, ↓qaw, ↓qav, ↓qau, ↓qay, ↓qaz, ↓qas, ↓qax, ↓qaB, ↓qat, ↓qcV, ↓qcU, ↓qaQ, ↓qaW, ↓qaV, ↓qaU, ↓qcF, ↓qcC, ↓qcz, ↓qcG, ↓qcA, ↓qcD, ↓qcE, ↓qcH, ↓qcB, ↓qb5, ↓qb3, ↓qb2, ↓qb1, ↓qbZ, ↓qbY, ↓qb0, ↓qcx, ↓qcv, ↓qcw, ↓qcu, ↓qcy, ↓qb9, ↓qcb, ↓qb6, ↓qce, ↓qcc, ↓qb8, ↓qca, ↓qcd, ↓qb7, ↓qaY, ↓qan, ↓qai, ↓qaj, ↓qam, ↓qak, ↓qal, ↓qct, ↓qcs, ↓qcr, ↓qaq, ↓qao, ↓qap, ↓qbv, ↓qah, ↓qbS, ↓qbC, ↓qaD, ↓qaC, ↓qbx, ↓qbw, ↓qcW, ↓qbT, ↓qbM, ↓qbN, ↓qbL, ↓qbD, ↓qbE, ↓qbO, qad, qbB, qbA, qbz, ↓qck, ↓qcj, ↓qcm, ↓qcl, qbV, ↓qbQ, ↓qbP, ↓qbR, qby, qcI, qcJ, qaI, behindInMarks, lastMarks, Option.map_some, List.contains_cons, List.map_cons, List.map_nil, String.reduceBEq, String.reduceEq, Bool.and_true, Bool.true_and, Bool.and_false, Bool.false_and, Bool.or_true, Bool.true_or, Bool.or_false, Bool.false_or, Bool.not_true, Bool.not_false, and_true, true_and, exists_eq_left', exists_eq_left, beq_self_eq_true, List.length_cons, List.length_nil, Nat.reduceAdd, Nat.zero_add, Nat.reduceLeDiff, decide_true, decide_false, if_false, if_true, reduceCtorEq, N8, ↓U8]
    exact ⟨h.b0, h.bU, by decide, io (rset_ld h1).symm⟩
  · simp (maxSteps := 1000000) (dsimp := false) only [↓qaG, ↓qaH, ↓qcp, ↓qco, ↓qcn, ↓qcq, ↓qa4, ↓qbG, ↓qbF, ↓qaa, ↓qac, ↓qab, ↓qba, ↓qbe, ↓qa6, ↓qbi, ↓qa5, ↓qbf, ↓qbb, ↓qa9, ↓qbh, ↓qbd, ↓qbg, ↓qcL, ↓qcK, ↓qcM, ↓qb4, ↓qbk, ↓qbj, ↓qaF, ↓qaE, ↓qcN, ↓qcO, ↓qa8, ↓qa7, ↓qbc, ↓qcT, ↓qcP, ↓qcR, ↓qcS, ↓qcQ, ↓qbl, ↓qbt, ↓qbs, ↓qbm, ↓qbo, ↓qbq, ↓qbu, ↓qbp, ↓qbr, ↓qbn, ↓qbW, ↓qbX, ↓qaf, ↓qae, ↓qag, ↓qaP, ↓qaO, ↓qaK, ↓qaJ, ↓qaL, ↓qaM, ↓qaN, ↓qaZ, ↓qbU, ↓qbH, ↓qbI, ↓qbJ, ↓qbK, ↓qcf, ↓qcg, ↓qch, ↓qci, ↓qa1, ↓qa3, ↓qa0, ↓qa2, ↓qar, ↓qaA, ↓qaw, ↓qav, ↓qau, ↓qay, ↓qaz, ↓qas, ↓qax, ↓qaB, ↓qat, ↓qcV, ↓qcU, ↓qaQ, ↓qaW, ↓qaV, ↓qaU, ↓qcF, ↓qcC, ↓qcz, ↓qcG, ↓qcA, ↓qcD, ↓qcE, ↓qcH, ↓qcB, ↓qb5, ↓qb3, ↓qb2, ↓qb1, ↓qbZ, ↓qbY, ↓qb0, ↓qcx, ↓qcv, ↓qcw, ↓qcu, ↓qcy, ↓qb9, ↓qcb, ↓qb6, ↓qce, ↓qcc, ↓qb8, ↓qca, ↓qcd, ↓qb7, ↓qaY, ↓qan, ↓qai, ↓qaj, ↓qam, ↓qak, ↓qal, ↓qct, ↓qcs, ↓qcr, ↓qaq, ↓qao, ↓qap, ↓qbv, ↓qah, ↓qbS, ↓qbC, ↓qaD, ↓qaC, ↓qbx, ↓qbw, ↓qcW, ↓qbT, ↓qbM, ↓qbN, ↓qbL, ↓qbD, ↓qbE, ↓qbO, qad, qbB, qbA, qbz, ↓qck, ↓qcj, ↓qcm, ↓qcl, qbV, ↓qbQ, ↓qbP, ↓qbR, qby, qcI, qcJ, qaI, behindInMarks, lastMarks, Option.map_some, List.contains_cons, List.map_cons, List.map_nil, String.reduceBEq, String.reduceEq, Bool.and_true, Bool.true_and, Bool.and_false, Bool.false_and, Bool.or_true, Bool.true_or, Bool.or_false, Bool.false_or, Bool.not_true, Bool.not_false, and_true, true_and, exists_eq_left', exists_eq_left, beq_self_eq_true, List.length_cons, List.length_nil, Nat.reduceAdd, Nat.zero_add, Nat.reduceLeDiff, decide_true, decide_false, if_false, if_true, reduceCtorEq, N8, ↓U8]
    refine ⟨(c_is_store hS hp r).isFn, useC_of ((c_is_store hS hp r).le (by decide)) ?_⟩
    simp (maxSteps := 1000000) (dsimp := false) only [↓qaG, ↓qaH, ↓qcp, ↓qco, ↓qcn, ↓qcq, ↓qa4, ↓qbG, ↓qbF, ↓qaa, ↓qac, ↓qab, ↓qba, ↓qbe, ↓qa6, ↓qbi, ↓qa5, ↓qbf, ↓qbb, ↓qa9, ↓qbh, ↓qbd, ↓qbg, ↓qcL, ↓qcK, ↓qcM, ↓qb4, ↓qbk, ↓qbj, ↓qaF, ↓qaE, ↓qcN, ↓qcO, ↓qa8, ↓qa7, ↓qbc, ↓qcT, ↓qcP, ↓qcR, ↓qcS, ↓qcQ, ↓qbl, ↓qbt, ↓qbs, ↓qbm, ↓qbo, ↓qbq, ↓qbu, ↓qbp, ↓qbr, ↓qbn, ↓qbW, ↓qbX, ↓qaf, ↓qae, ↓qag, ↓qaP, ↓qaO, ↓qaK, ↓qaJ, ↓qaL, ↓qaM, ↓qaN, ↓qaZ, ↓qbU, ↓qbH, ↓qbI, ↓qbJ, ↓qbK, ↓qcf, ↓qcg, ↓qch, ↓qci, ↓qa1, ↓qa3, ↓qa0, ↓qa2, ↓qar, ↓qaA, ↓qaw, ↓qav, ↓qau, ↓qay, ↓qaz, ↓qas, ↓qax, ↓qaB, ↓qat, ↓qcV, ↓qcU, ↓qaQ, ↓qaW, ↓qaV, ↓qaU, ↓qcF, ↓qcC, ↓qcz, ↓qcG, ↓qcA, ↓qcD, ↓qcE, ↓qcH, ↓qcB, ↓qb5, ↓qb3, ↓qb2, ↓qb1, ↓qbZ, ↓qbY, ↓qb0, ↓qcx, ↓qcv, ↓qcw, ↓qcu, ↓qcy, ↓qb9, ↓qcb, ↓qb6, ↓qce, ↓qcc, ↓qb8, ↓qca, ↓qcd, ↓qb7, ↓qaY, ↓qan, ↓qai, ↓qaj, ↓qam, ↓qak, ↓qal, ↓qct, ↓qcs, ↓qcr, ↓qaq, ↓qao, ↓qap, ↓qbv, ↓qah, ↓qbS, ↓qbC, ↓qaD, ↓qaC, ↓qbx, ↓qbw, ↓qcW, ↓qbT, ↓qbM, ↓qbN, ↓qbL, ↓qbD, ↓qbE, ↓qbO, qad, qbB, qbA, qbz, ↓qck, ↓qcj, ↓qcm, ↓qcl, qbV, ↓qbQ, ↓qbP, ↓qbR, qby, qcI, qcJ, qaI, behindInMarks, lastMarks, Option.map_some, List.contains_cons, List.map_cons, List.map_nil, String.reduceBEq, String.reduceEq, Bool.and_true, Bool.true_and, Bool.and_false, Bool.false_and, Bool.or_true, Bool.true_or, Bool.or_false, Bool.false_or, Bool.not_true, Bool.not_false, and_true, true_and, exists_eq_left', exists_eq_left, beq_self_eq_true, List.length_cons, List.length_nil, Nat.reduceAdd, Nat.zero_add, Nat.reduceLeDiff, decide_true, decide_false, if_false, if_true, reduceCtorEq, N8, ↓U8]
    refine iteB_of (fun h2 => ?_) (fun h2 => ?_)
    · simp (maxSteps := 1000000) (dsimp := false) only [↓qaG, ↓qaH, ↓qcp, ↓qco, ↓qcn, ↓qcq, ↓qa4, ↓qbG, ↓qbF, ↓qaa, ↓qac, ↓qab, ↓qba, ↓qbe, ↓qa6, ↓qbi, ↓qa5, ↓qbf, ↓qbb, ↓qa9, ↓qbh, ↓qbd, ↓qbg, ↓qcL, ↓qcK, ↓qcM, ↓qb4, ↓qbk, ↓qbj, ↓qaF, ↓qaE, ↓qcN, ↓qcO, ↓qa8, ↓qa7, ↓qbc, ↓qcT, ↓qcP, ↓qcR, ↓qcS, ↓qcQ, ↓qbl, ↓qbt, ↓qbs, ↓qbm, ↓qbo, ↓qbq, ↓qbu, ↓qbp, ↓qbr, ↓qbn, ↓qbW, ↓qbX, ↓qaf, ↓qae, ↓qag, ↓qaP, ↓qaO, ↓qaK, ↓qaJ, ↓qaL, ↓qaM, ↓qaN, ↓qaZ, ↓qbU, ↓qbH, ↓qbI, ↓qbJ, ↓qbK, ↓qcf, ↓qcg, ↓qch, ↓qci, ↓qa1, ↓qa3, ↓qa0, ↓qa2, ↓qar, ↓qaA, ↓qaw, ↓qav, ↓qau, ↓qay, ↓qaz, ↓qas, ↓qax, ↓qaB, ↓qat, ↓qcV, ↓qcU, ↓qaQ, ↓qaW, ↓qaV, ↓qaU, ↓qcF, ↓qcC, ↓qcz, ↓qcG, ↓qcA, ↓qcD, ↓qcE, ↓qcH, ↓qcB, ↓qb5, ↓qb3, ↓qb2, ↓qb1, ↓qbZ, ↓qbY, ↓qb0, ↓qcx, ↓qcv, ↓qcw, ↓qcu, ↓qcy, ↓qb9, ↓qcb, ↓qb6, ↓qce, ↓qcc, ↓qb8, ↓qca, ↓qcd, ↓qb7, ↓qaY, ↓qan, ↓qai, ↓qaj, ↓qam, ↓qak, ↓qal, ↓qct, ↓qcs, ↓qcr, ↓qaq, ↓qao, ↓qap, ↓qbv, ↓qah, ↓qbS, ↓qbC, ↓qaD, ↓qaC, ↓qbx, ↓qbw, ↓qcW, ↓qbT, ↓qbM, ↓qbN, ↓qbL, ↓qbD, ↓qbE, ↓qbO, qad, qbB, qbA, qbz, ↓qck, ↓qcj, ↓qcm, ↓qcl, qbV, ↓qbQ, ↓qbP, ↓qbR, qby, qcI, qcJ, qaI, behindInMarks, lastMarks, Option.map_some, List.contains_cons, List.map_cons, List.map_nil, String.reduceBEq, String.reduceEq, Bool.and_true, Bool.true_and, Bool.and_false, Bool.false_and, Bool.or_true, Bool.true_or, Bool.or_false, Bool.false_or, Bool.not_true, Bool.not_false, and_true, true_and, exists_eq_left', exists_eq_left, beq_self_eq_true, List.length_cons, List.length_nil, Nat.reduceAdd, Nat.zero_add, Nat.reduceLeDiff, decide_true, decide_false, if_false, if_true, reduceCtorEq, N8, ↓U8]
      exact ⟨h.a0, h.aU, by decide, h.b0, h.bU, by decide, io (rset_st h2).symm⟩
    · simp (maxSteps := 1000000) (dsimp := false) only [↓qaG, ↓qaH, ↓qcp, ↓qco, ↓qcn, ↓qcq, ↓qa4, ↓qbG, ↓qbF, ↓qaa, ↓qac, ↓qab, ↓qba, ↓qbe, ↓qa6, ↓qbi, ↓qa5, ↓qbf, ↓qbb, ↓qa9, ↓qbh, ↓qbd, ↓qbg, ↓qcL, ↓qcK, ↓qcM, ↓qb4, ↓qbk, ↓qbj, ↓qaF, ↓qaE, ↓qcN, ↓qcO, ↓qa8, ↓qa7, ↓qbc, ↓qcT, ↓qcP, ↓qcR, ↓qcS, ↓qcQ, ↓qbl, ↓qbt, ↓qbs, ↓qbm, ↓qbo, ↓qbq, ↓qbu, ↓qbp, ↓qbr, ↓qbn, ↓qbW, ↓qbX, ↓qaf, ↓qae, ↓qag, ↓qaP, ↓qaO, ↓qaK, ↓qaJ, ↓qaL, ↓qaM, ↓qaN, ↓qaZ, ↓qbU, ↓qbH, ↓qbI, ↓qbJ, ↓qbK, ↓qcf, ↓qcg, ↓qch, ↓qci, ↓qa1, ↓qa3, ↓qa0, ↓qa2, ↓qar, ↓qaA, ↓qaw, ↓qav, ↓qau, ↓qay, ↓qaz, ↓qas, ↓qax, ↓qaB, ↓qat, ↓qcV, ↓qcU, ↓qaQ, ↓qaW, ↓qaV, ↓qaU, ↓qcF, ↓qcC, ↓qcz, ↓qcG, ↓qcA, ↓qcD, ↓qcE, ↓qcH, ↓qcB, ↓qb5, ↓qb3, ↓qb2, ↓qb1, ↓qbZ, ↓qbY, ↓qb0, ↓qcx, ↓qcv, ↓qcw, ↓qcu, ↓qcy, ↓qb9, ↓qcb, ↓qb6, ↓qce, ↓qcc, ↓qb8, ↓qca, ↓qcd, ↓qb7, ↓qaY, ↓qan, ↓qai, ↓qaj, ↓qam, ↓qak, ↓qal, ↓qct, ↓qcs, ↓qcr, ↓qaq, ↓qao, ↓qap, ↓qbv, ↓qah, ↓qbS, ↓qbC, ↓qaD, ↓qaC, ↓qbx, ↓qbw, ↓qcW, ↓qbT, ↓qbM, ↓qbN, ↓qbL, ↓qbD, ↓qbE, ↓qbO, qad, qbB, qbA, qbz, ↓qck, ↓qcj, ↓qcm, ↓qcl, qbV, ↓qbQ, ↓qbP, ↓qbR, qby, qcI, qcJ, qaI, behindInMarks, lastMarks, Option.map_some, List.contains_cons, List.map_cons, List.map_nil, String.reduceBEq, String.reduceEq, Bool.and_true, Bool.true_and, Bool.and_false, Bool.false_and, Bool.or_true, Bool.true_or, Bool.or_false, Bool.false_or, Bool.not_true, Bool.not_false, and_true, true_and, exists_eq_left', exists_eq_left, beq_self_eq_true, List.length_cons, List.length_nil, Nat.reduceAdd, Nat.zero_add, Nat.reduceLeDiff, decide_true, decide_false, if_false, if_true, reduceCtorEq, N8, ↓U8, ↓eq_MOV]
      refine iteB_of (fun h3 => ?_) (fun h3 => ?_)
      · simp (maxSteps := 1000000) (dsimp := false) only [↓qaG, ↓qaH, ↓qcp, ↓qco, ↓qcn, ↓qcq, ↓qa4, ↓qbG, ↓qbF, ↓qaa, ↓qac, ↓qab, ↓qba, ↓qbe, ↓qa6, ↓qbi, ↓qa5, ↓qbf, ↓qbb, ↓qa9, ↓qbh, ↓qbd, ↓qbg, ↓qcL, ↓qcK, ↓qcM, ↓qb4, ↓qbk, ↓qbj, ↓qaF, ↓qaE, ↓qcN, ↓qcO, ↓qa8, ↓qa7, ↓qbc, ↓qcT, ↓qcP, ↓qcR, ↓qcS, ↓qcQ, ↓qbl, ↓qbt, ↓qbs, ↓qbm, ↓qbo, ↓qbq, ↓qbu, ↓qbp, ↓qbr, ↓qbn, ↓qbW, ↓qbX, ↓qaf, ↓qae, ↓qag, ↓qaP, ↓qaO, ↓qaK, ↓qaJ, ↓qaL, ↓qaM, ↓qaN, ↓qaZ, ↓qbU, ↓qbH, ↓qbI, ↓qbJ, ↓qbK, ↓qcf, ↓qcg, ↓qch, ↓qci, ↓qa1, ↓qa3, ↓qa0, ↓qa2, ↓qar, ↓qaA, ↓qaw, ↓qav, ↓qau, ↓qay, ↓qaz, ↓qas, ↓qax, ↓qaB, ↓qat, ↓qcV, ↓qcU, ↓qaQ, ↓qaW, ↓qaV, ↓qaU, ↓qcF, ↓qcC, ↓qcz, ↓qcG, ↓qcA, ↓qcD, ↓qcE, ↓qcH, ↓qcB, ↓qb5, ↓qb3, ↓qb2, ↓qb1, ↓qbZ, ↓qbY, ↓qb0, ↓qcx, ↓qcv, ↓qcw, ↓qcu, ↓qcy, ↓qb9, ↓qcb, ↓qb6, ↓qce, ↓qcc, ↓qb8, ↓qca, ↓qcd, ↓qb7, ↓qaY, ↓qan, ↓qai, ↓qaj, ↓qam, ↓qak, ↓qal, ↓qct, ↓qcs, ↓qcr, ↓qaq, ↓qao, ↓qap, ↓qbv, ↓qah, ↓qbS, ↓qbC, ↓qaD, ↓qaC, ↓qbx, ↓qbw, ↓qcW, ↓qbT, ↓qbM, ↓qbN, ↓qbL, ↓qbD, ↓qbE, ↓qbO, qad, qbB, qbA, qbz, ↓qck, ↓qcj, ↓qcm, ↓qcl, qbV, ↓qbQ, ↓qbP, ↓qbR, qby, qcI, qcJ, qaI, behindInMarks, lastMarks, Option.map_some, List.contains_cons, List.map_cons, List.map_nil, String.reduceBEq, String.reduceEq, Bool.and_true, Bool.true_and, Bool.and_false, Bool.false_and, Bool.or_true, Bool.true_or, Bool.or_false, Bool.false_or, Bool.not_true, Bool.not_false, and_true, true_and, exists_eq_left', exists_eq_left, beq_self_eq_true, List.length_cons, List.length_nil, Nat.reduceAdd, Nat.zero_add, Nat.reduceLeDiff, decide_true, decide_false, if_false, if_true, reduceCtorEq, N8, ↓U8]
        refine ⟨h.c0, h.cU, by decide, io ?_⟩
        unfold rset; rw [of_decide_eq_true h3]; rfl
      · simp (maxSteps := 1000000) (dsimp := false) only [↓qaG, ↓qaH, ↓qcp, ↓qco, ↓qcn, ↓qcq, ↓qa4, ↓qbG, ↓qbF, ↓qaa, ↓qac, ↓qab, ↓qba, ↓qbe, ↓qa6, ↓qbi, ↓qa5, ↓qbf, ↓qbb, ↓qa9, ↓qbh, ↓qbd, ↓qbg, ↓qcL, ↓qcK, ↓qcM, ↓qb4, ↓qbk, ↓qbj, ↓qaF, ↓qaE, ↓qcN, ↓qcO, ↓qa8, ↓qa7, ↓qbc, ↓qcT, ↓qcP, ↓qcR, ↓qcS, ↓qcQ, ↓qbl, ↓qbt, ↓qbs, ↓qbm, ↓qbo, ↓qbq, ↓qbu, ↓qbp, ↓qbr, ↓qbn, ↓qbW, ↓qbX, ↓qaf, ↓qae, ↓qag, ↓qaP, ↓qaO, ↓qaK, ↓qaJ, ↓qaL, ↓qaM, ↓qaN, ↓qaZ, ↓qbU, ↓qbH, ↓qbI, ↓qbJ, ↓qbK, ↓qcf, ↓qcg, ↓qch, ↓qci, ↓qa1, ↓qa3, ↓qa0, ↓qa2, ↓qar, ↓qaA, ↓qaw, ↓qav, ↓qau, ↓qay, ↓qaz, ↓qas, ↓qax, ↓qaB, ↓qat, ↓qcV, ↓qcU, ↓qaQ, ↓qaW, ↓qaV, ↓qaU, ↓qcF, ↓qcC, ↓qcz, ↓qcG, ↓qcA, ↓qcD, ↓qcE, ↓qcH, ↓qcB, ↓qb5, ↓qb3, ↓qb2, ↓qb1, ↓qbZ, ↓qbY, ↓qb0, ↓qcx, ↓qcv, ↓qcw, ↓qcu, ↓qcy, ↓qb9, ↓qcb, ↓qb6, ↓qce, ↓qcc, ↓qb8, ↓qca, ↓qcd, ↓qb7, ↓qaY, ↓qan, ↓qai, ↓qaj, ↓qam, ↓qak, ↓qal, ↓qct, ↓qcs, ↓qcr, ↓qaq, ↓qao, ↓qap, ↓qbv, ↓qah, ↓qbS, ↓qbC, ↓qaD, ↓qaC, ↓qbx, ↓qbw, ↓qcW, ↓qbT, ↓qbM, ↓qbN, ↓qbL, ↓qbD, ↓qbE, ↓qbO, qad, qbB, qbA, qbz, ↓qck, ↓qcj, ↓qcm, ↓qcl, qbV, ↓qbQ, ↓qbP, ↓qbR, qby, qcI, qcJ, qaI, behindInMarks, lastMarks, Option.map_some, List.contains_cons, List.map_cons, List.map_nil, String.reduceBEq, String.reduceEq, Bool.and_true, Bool.true_and, Bool.and_false, Bool.false_and, Bool.or_true, Bool.true_or, Bool.or_false, Bool.false_or, Bool.not_true, Bool.not_false, and_true, true_and, exists_eq_left', exists_eq_left, beq_self_eq_true, List.length_cons, List.length_nil, Nat.reduceAdd, Nat.zero_add, Nat.reduceLeDiff, decide_true, decide_false, if_false, if_true, reduceCtorEq, N8, ↓U8, ↓eq_GETH]
        refine iteB_of (fun h4 => ?_) (fun h4 => ?_)
        · simp (maxSteps := 1000000) (dsimp := false) only [↓qaG, ↓qaH, ↓qcp, ↓qco, ↓qcn, ↓qcq, ↓qa4, ↓qbG, ↓qbF, ↓qaa, ↓qac, ↓qab, ↓qba, ↓qbe, ↓qa6, ↓qbi, ↓qa5, ↓qbf, ↓qbb, ↓qa9, ↓qbh, ↓qbd, ↓qbg, ↓qcL, ↓qcK, ↓qcM, ↓qb4, ↓qbk, ↓qbj, ↓qaF, ↓qaE, ↓qcN, ↓qcO, ↓qa8, ↓qa7, ↓qbc, ↓qcT, ↓qcP, ↓qcR, ↓qcS, ↓qcQ, ↓qbl, ↓qbt, ↓qbs, ↓qbm, ↓qbo, ↓qbq, ↓qbu, ↓qbp, ↓qbr, ↓qbn, ↓qbW, ↓qbX, ↓qaf, ↓qae, ↓qag, ↓qaP, ↓qaO, ↓qaK, ↓qaJ, ↓qaL, ↓qaM, ↓qaN, ↓qaZ, ↓qbU, ↓qbH, ↓qbI, ↓qbJ, ↓qbK, ↓qcf, ↓qcg, ↓qch, ↓qci, ↓qa1, ↓qa3, ↓qa0, ↓qa2, ↓qar, ↓qaA, ↓qaw, ↓qav, ↓qau, ↓qay, ↓qaz, ↓qas, ↓qax, ↓qaB, ↓qat, ↓qcV, ↓qcU, ↓qaQ, ↓qaW, ↓qaV, ↓qaU, ↓qcF, ↓qcC, ↓qcz, ↓qcG, ↓qcA, ↓qcD, ↓qcE, ↓qcH, ↓qcB, ↓qb5, ↓qb3, ↓qb2, ↓qb1, ↓qbZ, ↓qbY, ↓qb0, ↓qcx, ↓qcv, ↓qcw, ↓qcu, ↓qcy, ↓qb9, ↓qcb, ↓qb6, ↓qce, ↓qcc, ↓qb8, ↓qca, ↓qcd, ↓qb7, ↓qaY, ↓qan, ↓qai, ↓qaj, ↓qam, ↓qak, ↓qal, ↓qct, ↓qcs, ↓qcr, ↓qaq, ↓qao, ↓qap, ↓qbv, ↓qah, ↓qbS, ↓qbC, ↓qaD, ↓qaC, ↓qbx, ↓qbw, ↓qcW, ↓qbT, ↓qbM, ↓qbN, ↓qbL, ↓qbD, ↓qbE, ↓qbO, qad, qbB, qbA, qbz, ↓qck, ↓qcj, ↓qcm, ↓qcl, qbV, ↓qbQ, ↓qbP, ↓qbR, qby, qcI, qcJ, qaI, behindInMarks, lastMarks, Option.map_some, List.contains_cons, List.map_cons, List.map_nil, String.reduceBEq, String.reduceEq, Bool.and_true, Bool.true_and, Bool.and_false, Bool.false_and, Bool.or_true, Bool.true_or, Bool.or_false, Bool.false_or, Bool.not_true, Bool.not_false, and_true, true_and, exists_eq_left', exists_eq_left, beq_self_eq_true, List.length_cons, List.length_nil, Nat.reduceAdd, Nat.zero_add, Nat.reduceLeDiff, decide_true, decide_false, if_false, if_true, reduceCtorEq, N8, ↓U8]
          refine useG_of (g_high hp) ?_
          simp (maxSteps := 1000000) (dsimp := false) only [↓qaG, ↓qaH, ↓qcp, ↓qco, ↓qcn, ↓qcq, ↓qa4, ↓qbG, ↓qbF, ↓qaa, ↓qac, ↓qab, ↓qba, ↓qbe, ↓qa6, ↓qbi, ↓qa5, ↓qbf, ↓qbb, ↓qa9, ↓qbh, ↓qbd, ↓qbg, ↓qcL, ↓qcK, ↓qcM, ↓qb4, ↓qbk, ↓qbj, ↓qaF, ↓qaE, ↓qcN, ↓qcO, ↓qa8, ↓qa7, ↓qbc, ↓qcT, ↓qcP, ↓qcR, ↓qcS, ↓qcQ, ↓qbl, ↓qbt, ↓qbs, ↓qbm, ↓qbo, ↓qbq, ↓qbu, ↓qbp, ↓qbr, ↓qbn, ↓qbW, ↓qbX, ↓qaf, ↓qae, ↓qag, ↓qaP, ↓qaO, ↓qaK, ↓qaJ, ↓qaL, ↓qaM, ↓qaN, ↓qaZ, ↓qbU, ↓qbH, ↓qbI, ↓qbJ, ↓qbK, ↓qcf, ↓qcg, ↓qch, ↓qci, ↓qa1, ↓qa3, ↓qa0, ↓qa2, ↓qar, ↓qaA, ↓qaw, ↓qav, ↓qau, ↓qay, ↓qaz, ↓qas, ↓qax, ↓qaB, ↓qat, ↓qcV, ↓qcU, ↓qaQ, ↓qaW, ↓qaV, ↓qaU, ↓qcF, ↓qcC, ↓qcz, ↓qcG, ↓qcA, ↓qcD, ↓qcE, ↓qcH, ↓qcB, ↓qb5, ↓qb3, ↓qb2, ↓qb1, ↓qbZ, ↓qbY, ↓qb0, ↓qcx, ↓qcv, ↓qcw, ↓qcu, ↓qcy, ↓qb9, ↓qcb, ↓qb6, ↓qce, ↓qcc, ↓qb8, ↓qca, ↓qcd, ↓qb7, ↓qaY, ↓qan, ↓qai, ↓qaj, ↓qam, ↓qak, ↓qal, ↓qct, ↓qcs, ↓qcr, ↓qaq, ↓qao, ↓qap, ↓qbv, ↓qah, ↓qbS, ↓qbC, ↓qaD, ↓qaC, ↓qbx, ↓qbw, ↓qcW, ↓qbT, ↓qbM, ↓qbN, ↓qbL, ↓qbD, ↓qbE, ↓qbO, qad, qbB, qbA, qbz, ↓qck, ↓qcj, ↓qcm, ↓qcl, qbV, ↓qbQ, ↓qbP, ↓qbR, qby, qcI, qcJ, qaI, behindInMarks, lastMarks, Option.map_some, List.contains_cons, List.map_cons, List.map_nil, String.reduceBEq, String.reduceEq, Bool.and_true, Bool.true_and, Bool.and_false, Bool.false_and, Bool.or_true, Bool.true_or, Bool.or_false, Bool.false_or, Bool.not_true, Bool.not_false, and_true, true_and, exists_eq_left', exists_eq_left, beq_self_eq_true, List.length_cons, List.length_nil, Nat.reduceAdd, Nat.zero_add, Nat.reduceLeDiff, decide_true, decide_false, if_false, if_true, reduceCtorEq, N8, ↓U8]
          refine ⟨by decide, by decide, by decide, io ?_⟩
          unfold rset; rw [of_decide_eq_true h4]; rfl
        · simp (maxSteps := 1000000) (dsimp := false) only [↓qaG, ↓qaH, ↓qcp, ↓qco, ↓qcn, ↓qcq, ↓qa4, ↓qbG, ↓qbF, ↓qaa, ↓qac, ↓qab, ↓qba, ↓qbe, ↓qa6, ↓qbi, ↓qa5, ↓qbf, ↓qbb, ↓qa9, ↓qbh, ↓qbd, ↓qbg, ↓qcL, ↓qcK, ↓qcM, ↓qb4, ↓qbk, ↓qbj, ↓qaF, ↓qaE, ↓qcN, ↓qcO, ↓qa8, ↓qa7, ↓qbc, ↓qcT, ↓qcP, ↓qcR, ↓qcS, ↓qcQ, ↓qbl, ↓qbt, ↓qbs, ↓qbm, ↓qbo, ↓qbq, ↓qbu, ↓qbp, ↓qbr, ↓qbn, ↓qbW, ↓qbX, ↓qaf, ↓qae, ↓qag, ↓qaP, ↓qaO, ↓qaK, ↓qaJ, ↓qaL, ↓qaM, ↓qaN, ↓qaZ, ↓qbU, ↓qbH, ↓qbI, ↓qbJ, ↓qbK, ↓qcf, ↓qcg, ↓qch, ↓qci, ↓qa1, ↓qa3, ↓qa0, ↓qa2, ↓qar, ↓qaA, ↓qaw, ↓qav, ↓qau, ↓qay, ↓qaz, ↓qas, ↓qax, ↓qaB, ↓qat, ↓qcV, ↓qcU, ↓qaQ, ↓qaW, ↓qaV, ↓qaU, ↓qcF, ↓qcC, ↓qcz, ↓qcG, ↓qcA, ↓qcD, ↓qcE, ↓qcH, ↓qcB, ↓qb5, ↓qb3, ↓qb2, ↓qb1, ↓qbZ, ↓qbY, ↓qb0, ↓qcx, ↓qcv, ↓qcw, ↓qcu, ↓qcy, ↓qb9, ↓qcb, ↓qb6, ↓qce, ↓qcc, ↓qb8, ↓qca, ↓qcd, ↓qb7, ↓qaY, ↓qan, ↓qai, ↓qaj, ↓qam, ↓qak, ↓qal, ↓qct, ↓qcs, ↓qcr, ↓qaq, ↓qao, ↓qap, ↓qbv, ↓qah, ↓qbS, ↓qbC, ↓qaD, ↓qaC, ↓qbx, ↓qbw, ↓qcW, ↓qbT, ↓qbM, ↓qbN, ↓qbL, ↓qbD, ↓qbE, ↓qbO, qad, qbB, qbA, qbz, ↓qck, ↓qcj, ↓qcm, ↓qcl, qbV, ↓qbQ, ↓qbP, ↓qbR, qby, qcI, qcJ, qaI, behindInMarks, lastMarks, Option.map_some, List.contains_cons, List.map_cons, List.map_nil, String.reduceBEq, String.reduceEq, Bool.and_true, Bool.true_and, Bool.and_false, Bool.false_and, Bool.or_true, Bool.true_or, Bool.or_false, Bool.false_or, Bool.not_true, Bool.not_false, and_true, true_and, exists_eq_left', exists_eq_left, beq_self_eq_true, List.length_cons, List.length_nil, Nat.reduceAdd, Nat.zero_add, Nat.reduceLeDiff, decide_true, decide_false, if_false, if_true, reduceCtorEq, N8, ↓U8]
          refine ⟨(c_calculations hS hp).isFn, useC_of ((c_calculations hS hp).le (by decide)) ?_⟩
          simp (maxSteps := 1000000) (dsimp := false) only [↓qaG, ↓qaH, ↓qcp, ↓qco, ↓qcn, ↓qcq, ↓qa4, ↓qbG, ↓qbF, ↓qaa, ↓qac, ↓qab, ↓qba, ↓qbe, ↓qa6, ↓qbi, ↓qa5, ↓qbf, ↓qbb, ↓qa9, ↓qbh, ↓qbd, ↓qbg, ↓qcL, ↓qcK, ↓qcM, ↓qb4, ↓qbk, ↓qbj, ↓qaF, ↓qaE, ↓qcN, ↓qcO, ↓qa8, ↓qa7, ↓qbc, ↓qcT, ↓qcP, ↓qcR, ↓qcS, ↓qcQ, ↓qbl, ↓qbt, ↓qbs, ↓qbm, ↓qbo, ↓qbq, ↓qbu, ↓qbp, ↓qbr, ↓qbn, ↓qbW, ↓qbX, ↓qaf, ↓qae, ↓qag, ↓qaP, ↓qaO, ↓qaK, ↓qaJ, ↓qaL, ↓qaM, ↓qaN, ↓qaZ, ↓qbU, ↓qbH, ↓qbI, ↓qbJ, ↓qbK, ↓qcf, ↓qcg, ↓qch, ↓qci, ↓qa1, ↓qa3, ↓qa0, ↓qa2, ↓qar, ↓qaA, ↓qaw, ↓qav, ↓qau, ↓qay, ↓qaz, ↓qas, ↓qax, ↓qaB, ↓qat, ↓qcV, ↓qcU, ↓qaQ, ↓qaW, ↓qaV, ↓qaU, ↓qcF, ↓qcC, ↓qcz, ↓qcG, ↓qcA, ↓qcD, ↓qcE, ↓qcH, ↓qcB, ↓qb5, ↓qb3, ↓qb2, ↓qb1, ↓qbZ, ↓qbY, ↓qb0, ↓qcx, ↓qcv, ↓qcw, ↓qcu, ↓qcy, ↓qb9, ↓qcb, ↓qb6, ↓qce, ↓qcc, ↓qb8, ↓qca, ↓qcd, ↓qb7, ↓qaY, ↓qan, ↓qai, ↓qaj, ↓qam, ↓qak, ↓qal, ↓qct, ↓qcs, ↓qcr, ↓qaq, ↓qao, ↓qap, ↓qbv, ↓qah, ↓qbS, ↓qbC, ↓qaD, ↓qaC, ↓qbx, ↓qbw, ↓qcW, ↓qbT, ↓qbM, ↓qbN, ↓qbL, ↓qbD, ↓qbE, ↓qbO, qad, qbB, qbA, qbz, ↓qck, ↓qcj, ↓qcm, ↓qcl, qbV, ↓qbQ, ↓qbP, ↓qbR, qby, qcI, qcJ, qaI, behindInMarks, lastMarks, Option.map_some, List.contains_cons, List.map_cons, List.map_nil, String.reduceBEq, String.reduceEq, Bool.and_true, Bool.true_and, Bool.and_false, Bool.false_and, Bool.or_true, Bool.true_or, Bool.or_false, Bool.false_or, Bool.not_true, Bool.not_false, and_true, true_and, exists_eq_left', exists_eq_left, beq_self_eq_true, List.length_cons, List.length_nil, Nat.reduceAdd, Nat.zero_add, Nat.reduceLeDiff, decide_true, decide_false, if_false, if_true, reduceCtorEq, N8, ↓U8, ↓in_calc]
          refine iteB_of (fun h5 => ?_) (fun h5 => ?_)
          · simp (maxSteps := 1000000) (dsimp := false) only [↓qaG, ↓qaH, ↓qcp, ↓qco, ↓qcn, ↓qcq, ↓qa4, ↓qbG, ↓qbF, ↓qaa, ↓qac, ↓qab, ↓qba, ↓qbe, ↓qa6, ↓qbi, ↓qa5, ↓qbf, ↓qbb, ↓qa9, ↓qbh, ↓qbd, ↓qbg, ↓qcL, ↓qcK, ↓qcM, ↓qb4, ↓qbk, ↓qbj, ↓qaF, ↓qaE, ↓qcN, ↓qcO, ↓qa8, ↓qa7, ↓qbc, ↓qcT, ↓qcP, ↓qcR, ↓qcS, ↓qcQ, ↓qbl, ↓qbt, ↓qbs, ↓qbm, ↓qbo, ↓qbq, ↓qbu, ↓qbp, ↓qbr, ↓qbn, ↓qbW, ↓qbX, ↓qaf, ↓qae, ↓qag, ↓qaP, ↓qaO, ↓qaK, ↓qaJ, ↓qaL, ↓qaM, ↓qaN, ↓qaZ, ↓qbU, ↓qbH, ↓qbI, ↓qbJ, ↓qbK, ↓qcf, ↓qcg, ↓qch, ↓qci, ↓qa1, ↓qa3, ↓qa0, ↓qa2, ↓qar, ↓qaA, ↓qaw, ↓qav, ↓qau, ↓qay, ↓qaz, ↓qas, ↓qax, ↓qaB, ↓qat, ↓qcV, ↓qcU, ↓qaQ, ↓qaW, ↓qaV, ↓qaU, ↓qcF, ↓qcC, ↓qcz, ↓qcG, ↓qcA, ↓qcD, ↓qcE, ↓qcH, ↓qcB, ↓qb5, ↓qb3, ↓qb2, ↓qb1, ↓qbZ, ↓qbY, ↓qb0, ↓qcx, ↓qcv, ↓qcw, ↓qcu, ↓qcy, ↓qb9, ↓qcb, ↓qb6, ↓qce, ↓qcc, ↓qb8, ↓qca, ↓qcd, ↓qb7, ↓qaY, ↓qan, ↓qai, ↓qaj, ↓qam, ↓qak, ↓qal, ↓qct, ↓qcs, ↓qcr, ↓qaq, ↓qao, ↓qap, ↓qbv, ↓qah, ↓qbS, ↓qbC, ↓qaD, ↓qaC, ↓qbx, ↓qbw, ↓qcW, ↓qbT, ↓qbM, ↓qbN, ↓qbL, ↓qbD, ↓qbE, ↓qbO, qad, qbB, qbA, qbz, ↓qck, ↓qcj, ↓qcm, ↓qcl, qbV, ↓qbQ, ↓qbP, ↓qbR, qby, qcI, qcJ, qaI, behindInMarks, lastMarks, Option.map_some, List.contains_cons, List.map_cons, List.map_nil, String.reduceBEq, String.reduceEq, Bool.and_true, Bool.true_and, Bool.and_false, Bool.false_and, Bool.or_true, Bool.true_or, Bool.or_false, Bool.false_or, Bool.not_true, Bool.not_false, and_true, true_and, exists_eq_left', exists_eq_left, beq_self_eq_true, List.length_cons, List.length_nil, Nat.reduceAdd, Nat.zero_add, Nat.reduceLeDiff, decide_true, decide_false, if_false, if_true, reduceCtorEq, N8, ↓U8]
            exact ⟨h.b0, h.bU, by decide, h.c0, h.cU, by decide, io (rset_reg h5).symm⟩
          · simp (maxSteps := 1000000) (dsimp := false) only [↓qaG, ↓qaH, ↓qcp, ↓qco, ↓qcn, ↓qcq, ↓qa4, ↓qbG, ↓qbF, ↓qaa, ↓qac, ↓qab, ↓qba, ↓qbe, ↓qa6, ↓qbi, ↓qa5, ↓qbf, ↓qbb, ↓qa9, ↓qbh, ↓qbd, ↓qbg, ↓qcL, ↓qcK, ↓qcM, ↓qb4, ↓qbk, ↓qbj, ↓qaF, ↓qaE, ↓qcN, ↓qcO, ↓qa8, ↓qa7, ↓qbc, ↓qcT, ↓qcP, ↓qcR, ↓qcS, ↓qcQ, ↓qbl, ↓qbt, ↓qbs, ↓qbm, ↓qbo, ↓qbq, ↓qbu, ↓qbp, ↓qbr, ↓qbn, ↓qbW, ↓qbX, ↓qaf, ↓qae, ↓qag, ↓qaP, ↓qaO, ↓qaK, ↓qaJ, ↓qaL, ↓qaM, ↓qaN, ↓qaZ, ↓qbU, ↓qbH, ↓qbI, ↓qbJ, ↓qbK, ↓qcf, ↓qcg, ↓qch, ↓qci, ↓qa1, ↓qa3, ↓qa0, ↓qa2, ↓qar, ↓qaA, ↓qaw, ↓qav, ↓qau, ↓qay, ↓qaz, ↓qas, ↓qax, ↓qaB, ↓qat, ↓qcV, ↓qcU, ↓qaQ, ↓qaW, ↓qaV, ↓qaU, ↓qcF, ↓qcC, ↓qcz, ↓qcG, ↓qcA, ↓qcD, ↓qcE, ↓qcH, ↓qcB, ↓qb5, ↓qb3, ↓qb2, ↓qb1, ↓qbZ, ↓qbY, ↓qb0, ↓qcx, ↓qcv, ↓qcw, ↓qcu, ↓qcy, ↓qb9, ↓qcb, ↓qb6, ↓qce, ↓qcc, ↓qb8, ↓qca, ↓qcd, ↓qb7, ↓qaY, ↓qan, ↓qai, ↓qaj, ↓qam, ↓qak, ↓qal, ↓qct, ↓qcs, ↓qcr, ↓qaq, ↓qao, ↓qap, ↓qbv, ↓qah, ↓qbS, ↓qbC, ↓qaD, ↓qaC, ↓qbx, ↓qbw, ↓qcW, ↓qbT, ↓qbM, ↓qbN, ↓qbL, ↓qbD, ↓qbE, ↓qbO, qad, qbB, qbA, qbz, ↓qck, ↓qcj, ↓qcm, ↓qcl, qbV, ↓qbQ, ↓qbP, ↓qbR, qby, qcI, qcJ, qaI, behindInMarks, lastMarks, Option.map_some, List.contains_cons, List.map_cons, List.map_nil, String.reduceBEq, String.reduceEq, Bool.and_true, Bool.true_and, Bool.and_false, Bool.false_and, Bool.or_true, Bool.true_or, Bool.or_false, Bool.false_or, Bool.not_true, Bool.not_false, and_true, true_and, exists_eq_left', exists_eq_left, beq_self_eq_true, List.length_cons, List.length_nil, Nat.reduceAdd, Nat.zero_add, Nat.reduceLeDiff, decide_true, decide_false, if_false, if_true, reduceCtorEq, N8, ↓U8]
            have hb := c_base_name hS hp r (by unfold Op.isMem; rw [h1, h2]; rfl)
            refine ⟨(hb).isFn, useC_of ((hb).le (by decide)) ?_⟩
            simp (maxSteps := 1000000) (dsimp := false) only [↓qaG, ↓qaH, ↓qcp, ↓qco, ↓qcn, ↓qcq, ↓qa4, ↓qbG, ↓qbF, ↓qaa, ↓qac, ↓qab, ↓qba, ↓qbe, ↓qa6, ↓qbi, ↓qa5, ↓qbf, ↓qbb, ↓qa9, ↓qbh, ↓qbd, ↓qbg, ↓qcL, ↓qcK, ↓qcM, ↓qb4, ↓qbk, ↓qbj, ↓qaF, ↓qaE, ↓qcN, ↓qcO, ↓qa8, ↓qa7, ↓qbc, ↓qcT, ↓qcP, ↓qcR, ↓qcS, ↓qcQ, ↓qbl, ↓qbt, ↓qbs, ↓qbm, ↓qbo, ↓qbq, ↓qbu, ↓qbp, ↓qbr, ↓qbn, ↓qbW, ↓qbX, ↓qaf, ↓qae, ↓qag, ↓qaP, ↓qaO, ↓qaK, ↓qaJ, ↓qaL, ↓qaM, ↓qaN, ↓qaZ, ↓qbU, ↓qbH, ↓qbI, ↓qbJ, ↓qbK, ↓qcf, ↓qcg, ↓qch, ↓qci, ↓qa1, ↓qa3, ↓qa0, ↓qa2, ↓qar, ↓qaA, ↓qaw, ↓qav, ↓qau, ↓qay, ↓qaz, ↓qas, ↓qax, ↓qaB, ↓qat, ↓qcV, ↓qcU, ↓qaQ, ↓qaW, ↓qaV, ↓qaU, ↓qcF, ↓qcC, ↓qcz, ↓qcG, ↓qcA, ↓qcD, ↓qcE, ↓qcH, ↓qcB, ↓qb5, ↓qb3, ↓qb2, ↓qb1, ↓qbZ, ↓qbY, ↓qb0, ↓qcx, ↓qcv, ↓qcw, ↓qcu, ↓qcy, ↓qb9, ↓qcb, ↓qb6, ↓qce, ↓qcc, ↓qb8, ↓qca, ↓qcd, ↓qb7, ↓qaY, ↓qan, ↓qai, ↓qaj, ↓qam, ↓qak, ↓qal, ↓qct, ↓qcs, ↓qcr, ↓qaq, ↓qao, ↓qap, ↓qbv, ↓qah, ↓qbS, ↓qbC, ↓qaD, ↓qaC, ↓qbx, ↓qbw, ↓qcW, ↓qbT, ↓qbM, ↓qbN, ↓qbL, ↓qbD, ↓qbE, ↓qbO, qad, qbB, qbA, qbz, ↓qck, ↓qcj, ↓qcm, ↓qcl, qbV, ↓qbQ, ↓qbP, ↓qbR, qby, qcI, qcJ, qaI, behindInMarks, lastMarks, Option.map_some, List.contains_cons, List.map_cons, List.map_nil, String.reduceBEq, String.reduceEq, Bool.and_true, Bool.true_and, Bool.and_false, Bool.false_and, Bool.or_true, Bool.true_or, Bool.or_false, Bool.false_or, Bool.not_true, Bool.not_false, and_true, true_and, exists_eq_left', exists_eq_left, beq_self_eq_true, List.length_cons, List.length_nil, Nat.reduceAdd, Nat.zero_add, Nat.reduceLeDiff, decide_true, decide_false, if_false, if_true, reduceCtorEq, N8, ↓U8, ↓ne_emp]
            refine iteB_of (fun h6 => ?_) (fun h6 => ?_)
            · simp (maxSteps := 1000000) (dsimp := false) only [↓qaG, ↓qaH, ↓qcp, ↓qco, ↓qcn, ↓qcq, ↓qa4, ↓qbG, ↓qbF, ↓qaa, ↓qac, ↓qab, ↓qba, ↓qbe, ↓qa6, ↓qbi, ↓qa5, ↓qbf, ↓qbb, ↓qa9, ↓qbh, ↓qbd, ↓qbg, ↓qcL, ↓qcK, ↓qcM, ↓qb4, ↓qbk, ↓qbj, ↓qaF, ↓qaE, ↓qcN, ↓qcO, ↓qa8, ↓qa7, ↓qbc, ↓qcT, ↓qcP, ↓qcR, ↓qcS, ↓qcQ, ↓qbl, ↓qbt, ↓qbs, ↓qbm, ↓qbo, ↓qbq, ↓qbu, ↓qbp, ↓qbr, ↓qbn, ↓qbW, ↓qbX, ↓qaf, ↓qae, ↓qag, ↓qaP, ↓qaO, ↓qaK, ↓qaJ, ↓qaL, ↓qaM, ↓qaN, ↓qaZ, ↓qbU, ↓qbH, ↓qbI, ↓qbJ, ↓qbK, ↓qcf, ↓qcg, ↓qch, ↓qci, ↓qa1, ↓qa3, ↓qa0, ↓qa2, ↓qar, ↓qaA, ↓qaw, ↓qav, ↓qau, ↓qay, ↓qaz, ↓qas, ↓qax, ↓qaB, ↓qat, ↓qcV, ↓qcU, ↓qaQ, ↓qaW, ↓qaV, ↓qaU, ↓qcF, ↓qcC, ↓qcz, ↓qcG, ↓qcA, ↓qcD, ↓qcE, ↓qcH, ↓qcB, ↓qb5, ↓qb3, ↓qb2, ↓qb1, ↓qbZ, ↓qbY, ↓qb0, ↓qcx, ↓qcv, ↓qcw, ↓qcu, ↓qcy, ↓qb9, ↓qcb, ↓qb6, ↓qce, ↓qcc, ↓qb8, ↓qca, ↓qcd, ↓qb7, ↓qaY, ↓qan, ↓qai, ↓qaj, ↓qam, ↓qak, ↓qal, ↓qct, ↓qcs, ↓qcr, ↓qaq, ↓qao, ↓qap, ↓qbv, ↓qah, ↓qbS, ↓qbC, ↓qaD, ↓qaC, ↓qbx, ↓qbw, ↓qcW, ↓qbT, ↓qbM, ↓qbN, ↓qbL, ↓qbD, ↓qbE, ↓qbO, qad, qbB, qbA, qbz, ↓qck, ↓qcj, ↓qcm, ↓qcl, qbV, ↓qbQ, ↓qbP, ↓qbR, qby, qcI, qcJ, qaI, behindInMarks, lastMarks, Option.map_some, List.contains_cons, List.map_cons, List.map_nil, String.reduceBEq, String.reduceEq, Bool.and_true, Bool.true_and, Bool.and_false, Bool.false_and, Bool.or_true, Bool.true_or, Bool.or_false, Bool.false_or, Bool.not_true, Bool.not_false, and_true, true_and, exists_eq_left', exists_eq_left, beq_self_eq_true, List.length_cons, List.length_nil, Nat.reduceAdd, Nat.zero_add, Nat.reduceLeDiff, decide_true, decide_false, if_false, if_true, reduceCtorEq, N8, ↓U8]
              exact ⟨h.b0, h.bU, by decide, io (rset_imm h1 h2 h5 (bne_iff_ne.mp h6)).symm⟩
            · simp (maxSteps := 1000000) (dsimp := false) only [↓qaG, ↓qaH, ↓qcp, ↓qco, ↓qcn, ↓qcq, ↓qa4, ↓qbG, ↓qbF, ↓qaa, ↓qac, ↓qab, ↓qba, ↓qbe, ↓qa6, ↓qbi, ↓qa5, ↓qbf, ↓qbb, ↓qa9, ↓qbh, ↓qbd, ↓qbg, ↓qcL, ↓qcK, ↓qcM, ↓qb4, ↓qbk, ↓qbj, ↓qaF, ↓qaE, ↓qcN, ↓qcO, ↓qa8, ↓qa7, ↓qbc, ↓qcT, ↓qcP, ↓qcR, ↓qcS, ↓qcQ, ↓qbl, ↓qbt, ↓qbs, ↓qbm, ↓qbo, ↓qbq, ↓qbu, ↓qbp, ↓qbr, ↓qbn, ↓qbW, ↓qbX, ↓qaf, ↓qae, ↓qag, ↓qaP, ↓qaO, ↓qaK, ↓qaJ, ↓qaL, ↓qaM, ↓qaN, ↓qaZ, ↓qbU, ↓qbH, ↓qbI, ↓qbJ, ↓qbK, ↓qcf, ↓qcg, ↓qch, ↓qci, ↓qa1, ↓qa3, ↓qa0, ↓qa2, ↓qar, ↓qaA, ↓qaw, ↓qav, ↓qau, ↓qay, ↓qaz, ↓qas, ↓qax, ↓qaB, ↓qat, ↓qcV, ↓qcU, ↓qaQ, ↓qaW, ↓qaV, ↓qaU, ↓qcF, ↓qcC, ↓qcz, ↓qcG, ↓qcA, ↓qcD, ↓qcE, ↓qcH, ↓qcB, ↓qb5, ↓qb3, ↓qb2, ↓qb1, ↓qbZ, ↓qbY, ↓qb0, ↓qcx, ↓qcv, ↓qcw, ↓qcu, ↓qcy, ↓qb9, ↓qcb, ↓qb6, ↓qce, ↓qcc, ↓qb8, ↓qca, ↓qcd, ↓qb7, ↓qaY, ↓qan, ↓qai, ↓qaj, ↓qam, ↓qak, ↓qal, ↓qct, ↓qcs, ↓qcr, ↓qaq, ↓qao, ↓qap, ↓qbv, ↓qah, ↓qbS, ↓qbC, ↓qaD, ↓qaC, ↓qbx, ↓qbw, ↓qcW, ↓qbT, ↓qbM, ↓qbN, ↓qbL, ↓qbD, ↓qbE, ↓qbO, qad, qbB, qbA, qbz, ↓qck, ↓qcj, ↓qcm, ↓qcl, qbV, ↓qbQ, ↓qbP, ↓qbR, qby, qcI, qcJ, qaI, behindInMarks, lastMarks, Option.map_some, List.contains_cons, List.map_cons, List.map_nil, String.reduceBEq, String.reduceEq, Bool.and_true, Bool.true_and, Bool.and_false, Bool.false_and, Bool.or_true, Bool.true_or, Bool.or_false, Bool.false_or, Bool.not_true, Bool.not_false, and_true, true_and, exists_eq_left', exists_eq_left, beq_self_eq_true, List.length_cons, List.length_nil, Nat.reduceAdd, Nat.zero_add, Nat.reduceLeDiff, decide_true, decide_false, if_false, if_true, reduceCtorEq, N8, ↓U8]
              exact io (rset_no h1 h2 (of_decide_eq_false h3) (of_decide_eq_false h4) (bne_eq_false_iff_eq.mp h6)).symm
end
theorem p2_nat (i : Int) : p2 i = ((2 ^ i.toNat : Nat) : Int) := by
  unfold p2
  simp
def wN (r : Row) : Nat := match r.op with
  | .ldr => 2 ^ r.a.toNat | .ldb => 2 ^ r.a.toNat | .str => 0 | .stb => 0
  | .mul => 2 ^ r.a.toNat ||| 2 ^ 17 ||| 2 ^ 16
  | _ => 2 ^ r.a.toNat ||| 2 ^ 17
def rN (r : Row) : Nat := match r.op with
  | .ldr => 2 ^ r.b.toNat | .ldb => 2 ^ r.b.toNat | .str => 2 ^ r.a.toNat ||| 2 ^ r.b.toNat | .stb => 2 ^ r.a.toNat ||| 2 ^ r.b.toNat
  | .mov => 2 ^ r.c.toNat | .geth => 2 ^ 16 | .movi => 0
  | .addi => 2 ^ r.b.toNat | .lsli => 2 ^ r.b.toNat | .andi => 2 ^ r.b.toNat
  | _ => 2 ^ r.b.toNat ||| 2 ^ r.c.toNat
theorem wset_nat (r : Row) : wset r = (wN r : Int) := by
  unfold wset wN
  cases r.op <;> simp only [p2_nat, bitOr_nat] <;> rfl
theorem rset_nat (r : Row) : rset r = (rN r : Int) := by
  unfold rset rN
  cases r.op <;> simp only [p2_nat, bitOr_nat] <;> rfl
theorem wN_base {r : Row} (h : VR r) {k : Nat} (h1 : 4 ≤ k) (h2 : k < 16) : (wN r).testBit k = false := by
  have ha : r.a.toNat ≠ k := by have := h.a1; have := h.a0; omega
  have hk : 17 ≠ k := by omega
  have hk' : 16 ≠ k := by omega
  unfold wN
  cases r.op <;> simp only [Nat.testBit_or, Nat.testBit_two_pow, Nat.zero_testBit] <;> simp [ha, hk, hk']
theorem wN_flag {r : Row} (h : VR r) : (wN r).testBit 17 = !r.op.isMem := by
  have ha : r.a.toNat ≠ 17 := by have := h.a1; have := h.a0; omega
  unfold wN
  cases r.op <;> simp only [Nat.testBit_or, Nat.testBit_two_pow, Nat.zero_testBit] <;> simp [ha, Op.isMem, Op.isLd, Op.isSt]
def nby (r : Row) : Int := if r.op = .ldr ∨ r.op = .str then 4 else 1
def apartB (r q : Row) : Bool := decide (r.c + nby r ≤ q.c) || decide (q.c + nby q ≤ r.c)
def memM (r q : Row) : Bool := r.op.isMem && q.op.isMem && !(r.op.isLd && q.op.isLd) && (r.b != q.b || !apartB r q)
def thg : Int := 1 * 2 ^ Int.toNat 17 - 1
def regM (r q : Row) : Bool := (Builtin.bitAnd (Builtin.bitAnd (wset r) thg) (Builtin.bitOr (rset q) (Builtin.bitAnd (wset q) thg)) != 0) || (Builtin.bitAnd (rset r) (Builtin.bitAnd (wset q) thg) != 0)
def rowsD (rs : List Row) : PyData := .list (rs.map rowD)
theorem itemW_row {rs : List Row} {i : Int} {r : Row} {Q : PyData → Prop} (h0 : 0 ≤ i) (h1 : i < 100) (h : rs[i.toNat]? = some r) : itemW (rowsD rs) (.int i) Q = Q (rowD r) := by
  unfold itemW rowsD
  have h2 : i < 2 ^ 62 := by omega
  simp [h0, h]
  intro _
  omega
theorem itemW_rowL {rs : List Row} {i : Int} {r : Row} {Q : PyData → Prop} (h0 : 0 ≤ i) (h1 : i < 100) (h : rs[i.toNat]? = some r) : itemW (.list (rs.map rowD)) (.int i) Q = Q (rowD r) := itemW_row h0 h1 h
theorem intsUp_at {a b : Int} {t : Nat} {d : PyData} (h : (intsUp a b)[t]? = some d) : a + (t : Int) < b ∧ d = .int (a + (t : Int)) := by
  refine ⟨?_, intsUp_get h⟩
  obtain ⟨h1, _⟩ := List.getElem?_eq_some_iff.mp h
  rw [intsUp_len] at h1
  omega
theorem row_at {rs : List Row} {i : Int} (h0 : 0 ≤ i) (h1 : i < rs.length) : ∃ r, rs[i.toNat]? = some r ∧ r ∈ rs := by
  have h : i.toNat < rs.length := by omega
  exact ⟨rs[i.toNat], List.getElem?_eq_getElem h, List.getElem_mem h⟩
theorem pickL {α : Type} (xs : List α) (a k : Nat) : ((List.range k).map (a + ·)).filterMap (xs[·]?) = (xs.drop a).take k := by
  have := pick_run xs.toArray a k
  simpa using this
theorem slice_upto {ds : List PyData} {k : Int} {Q : PyData → Prop} (h : 0 ≤ k) : sliceW (.list ds) .none (.int k) Q = (ds.length ≤ 1000000 ∧ Q (.list (ds.take k.toNat))) := by
  unfold sliceW
  simp only [partOf]
  have e : sliceBounds none (some k) none ds.length = (((0 : Nat) : Int), ((min k.toNat ds.length : Nat) : Int), 1) := by
    simp only [sliceBounds, Option.getD_none]
    have h2 : ¬ (k < 0) := by omega
    simp only [h2, if_false, show (1 : Int) > 0 by decide, if_true]
    congr 1
    congr 1; omega
  rw [e]
  simp only [sliceRange_one, pickL]
  rw [List.drop_zero, Nat.sub_zero]
  congr 3
  rw [← List.take_eq_take_min]
theorem slice_from {ds : List PyData} {k : Int} {Q : PyData → Prop} (h : 0 ≤ k) : sliceW (.list ds) (.int k) .none Q = (ds.length ≤ 1000000 ∧ Q (.list (ds.drop k.toNat))) := by
  unfold sliceW
  simp only [partOf]
  have e : sliceBounds (some k) none none ds.length = (((min k.toNat ds.length : Nat) : Int), ((ds.length : Nat) : Int), 1) := by
    simp only [sliceBounds, Option.getD_none]
    have h2 : ¬ (k < 0) := by omega
    simp only [h2, if_false, show (1 : Int) > 0 by decide, if_true]
    congr 1
    omega
  rw [e]
  simp only [sliceRange_one, pickL]
  congr 3
  rw [List.take_of_length_le (by simp)]
  by_cases hk : k.toNat ≤ ds.length
  · rw [Nat.min_eq_left hk]
  · rw [Nat.min_eq_right (by omega), List.drop_of_length_le (Nat.le_refl _), List.drop_of_length_le (by omega)]
theorem fm0 (x : Int) {k : Int} (hk : 0 < k) : 0 ≤ x.fmod k := Int.fmod_nonneg_of_pos x hk
theorem fm1 (x : Int) {k : Int} (hk : 0 < k) : x.fmod k < k := Int.fmod_lt_of_pos x hk
section
variable {cx : Cx} (hS : SortOk cx) (hp : cx.p = vw)
include hS hp
theorem c_nby (r : Row) : CallsTo cx 1 "bytes_of" [rowD r] (.int (nby r)) := c_bytes_of hS hp r
theorem c_apart (r q : Row) : CallsTo cx 2 "apart" [rowD r, rowD q] (.bool (apartB r q)) := by
  refine fn_at2 hS hp 11 (own := []) (k := 1) (n := 6) (m := 6) (xs := [Str.ofString "first", Str.ofString "second"]) (ys := []) (tb := tb11) rfl (by kernel_rfl) rfl rfl (fun _ _ _ vs h => ?_) rfl (by kernel_rfl) (by simp [qcJ]) rfl ?_
  · rcases vs with _ | ⟨v1, _ | ⟨v2, _ | ⟨w, ws⟩⟩⟩ <;> first | rfl | simp at h
  simp (maxSteps := 1000000) (dsimp := false) only [↓qaG, ↓qaH, ↓qcp, ↓qco, ↓qcn, ↓qcq, ↓qa4, ↓qbG, ↓qbF, ↓qaa, ↓qac, ↓qab, ↓qba, ↓qbe, ↓qa6, ↓qbi, ↓qa5, ↓qbf, ↓qbb, ↓qa9, ↓qbh, ↓qbd, ↓qbg, ↓qcL, ↓qcK, ↓qcM, ↓qb4, ↓qbk, ↓qbj, ↓qaF, ↓qaE, ↓qcN, ↓qcO, ↓qa8, ↓qa7, ↓qbc, ↓qcT, ↓qcP, ↓qcR, ↓qcS, ↓qcQ, ↓qbl, ↓qbt, ↓qbs, ↓qbm, ↓qbo, ↓qbq, ↓qbu, ↓qbp, ↓qbr, ↓qbn, ↓qbW, ↓qbX, ↓qaf, ↓qae, ↓qag, ↓qaP, ↓qaO, ↓qaK, ↓qaJ, ↓qaL, ↓qaM, ↓qaN, ↓qaZ, ↓qbU, ↓qbH, ↓qbI, ↓qbJ, ↓qbK, ↓qcf, ↓qcg, ↓qch, ↓qci, ↓qa1, ↓qa3, ↓qa0, ↓qa2, ↓qar, ↓qaA, ↓qaw, ↓qav, ↓qau, ↓qay, ↓qaz, ↓qas, ↓qax, ↓qaB, ↓qat, ↓qcV, ↓qcU, ↓qaQ, ↓qaW, ↓qaV, ↓qaU, ↓qcF, ↓qcC, ↓qcz, ↓qcG, ↓qcA, ↓qcD, ↓qcE, ↓qcH, ↓qcB, ↓qb5, ↓qb3, ↓qb2, ↓qb1, ↓qbZ, ↓qbY, ↓qb0, ↓qcx, ↓qcv, ↓qcw, ↓qcu, ↓qcy, ↓qb9, ↓qcb, ↓qb6, ↓qce, ↓qcc, ↓qb8, ↓qca, ↓qcd, ↓qb7, ↓qaY, ↓qan, ↓qai, ↓qaj, ↓qam, ↓qak, ↓qal, ↓qct, ↓qcs, ↓qcr, ↓qaq, ↓qao, ↓qap, ↓qbv, ↓qah, ↓qbS, ↓qbC, ↓qaD, ↓qaC, ↓qbx, ↓qbw, ↓qcW, ↓qbT, ↓qbM, ↓qbN, ↓qbL, ↓qbD, ↓qbE, ↓qbO, qad, qbB, qbA, qbz, ↓qck, ↓qcj, ↓qcm, ↓qcl, qbV, ↓qbQ, ↓qbP, ↓qbR, qby, qcI, qcJ, qaI, behindInMarks, lastMarks, Option.map_some, List.contains_cons, List.map_cons, List.map_nil, String.reduceBEq, String.reduceEq, Bool.and_true, Bool.true_and, Bool.and_false, Bool.false_and, Bool.or_true, Bool.true_or, Bool.or_false, Bool.false_or, Bool.not_true, Bool.not_false, and_true, true_and, exists_eq_left', exists_eq_left, beq_self_eq_true, List.length_cons, List.length_nil, Nat.reduceAdd, Nat.zero_add, Nat.reduceLeDiff, decide_true, decide_false, if_false, if_true, reduceCtorEq, N11, ↓U11]
  refine ⟨(c_nby hS hp r).isFn, useC_of ((c_nby hS hp r).le (by decide)) ?_⟩
  simp (maxSteps := 1000000) (dsimp := false) only [↓qaG, ↓qaH, ↓qcp, ↓qco, ↓qcn, ↓qcq, ↓qa4, ↓qbG, ↓qbF, ↓qaa, ↓qac, ↓qab, ↓qba, ↓qbe, ↓qa6, ↓qbi, ↓qa5, ↓qbf, ↓qbb, ↓qa9, ↓qbh, ↓qbd, ↓qbg, ↓qcL, ↓qcK, ↓qcM, ↓qb4, ↓qbk, ↓qbj, ↓qaF, ↓qaE, ↓qcN, ↓qcO, ↓qa8, ↓qa7, ↓qbc, ↓qcT, ↓qcP, ↓qcR, ↓qcS, ↓qcQ, ↓qbl, ↓qbt, ↓qbs, ↓qbm, ↓qbo, ↓qbq, ↓qbu, ↓qbp, ↓qbr, ↓qbn, ↓qbW, ↓qbX, ↓qaf, ↓qae, ↓qag, ↓qaP, ↓qaO, ↓qaK, ↓qaJ, ↓qaL, ↓qaM, ↓qaN, ↓qaZ, ↓qbU, ↓qbH, ↓qbI, ↓qbJ, ↓qbK, ↓qcf, ↓qcg, ↓qch, ↓qci, ↓qa1, ↓qa3, ↓qa0, ↓qa2, ↓qar, ↓qaA, ↓qaw, ↓qav, ↓qau, ↓qay, ↓qaz, ↓qas, ↓qax, ↓qaB, ↓qat, ↓qcV, ↓qcU, ↓qaQ, ↓qaW, ↓qaV, ↓qaU, ↓qcF, ↓qcC, ↓qcz, ↓qcG, ↓qcA, ↓qcD, ↓qcE, ↓qcH, ↓qcB, ↓qb5, ↓qb3, ↓qb2, ↓qb1, ↓qbZ, ↓qbY, ↓qb0, ↓qcx, ↓qcv, ↓qcw, ↓qcu, ↓qcy, ↓qb9, ↓qcb, ↓qb6, ↓qce, ↓qcc, ↓qb8, ↓qca, ↓qcd, ↓qb7, ↓qaY, ↓qan, ↓qai, ↓qaj, ↓qam, ↓qak, ↓qal, ↓qct, ↓qcs, ↓qcr, ↓qaq, ↓qao, ↓qap, ↓qbv, ↓qah, ↓qbS, ↓qbC, ↓qaD, ↓qaC, ↓qbx, ↓qbw, ↓qcW, ↓qbT, ↓qbM, ↓qbN, ↓qbL, ↓qbD, ↓qbE, ↓qbO, qad, qbB, qbA, qbz, ↓qck, ↓qcj, ↓qcm, ↓qcl, qbV, ↓qbQ, ↓qbP, ↓qbR, qby, qcI, qcJ, qaI, behindInMarks, lastMarks, Option.map_some, List.contains_cons, List.map_cons, List.map_nil, String.reduceBEq, String.reduceEq, Bool.and_true, Bool.true_and, Bool.and_false, Bool.false_and, Bool.or_true, Bool.true_or, Bool.or_false, Bool.false_or, Bool.not_true, Bool.not_false, and_true, true_and, exists_eq_left', exists_eq_left, beq_self_eq_true, List.length_cons, List.length_nil, Nat.reduceAdd, Nat.zero_add, Nat.reduceLeDiff, decide_true, decide_false, if_false, if_true, reduceCtorEq, N11, ↓U11]
  refine iteB_of (fun h1 => ?_) (fun h1 => ?_)
  · simp (maxSteps := 1000000) (dsimp := false) only [↓qaG, ↓qaH, ↓qcp, ↓qco, ↓qcn, ↓qcq, ↓qa4, ↓qbG, ↓qbF, ↓qaa, ↓qac, ↓qab, ↓qba, ↓qbe, ↓qa6, ↓qbi, ↓qa5, ↓qbf, ↓qbb, ↓qa9, ↓qbh, ↓qbd, ↓qbg, ↓qcL, ↓qcK, ↓qcM, ↓qb4, ↓qbk, ↓qbj, ↓qaF, ↓qaE, ↓qcN, ↓qcO, ↓qa8, ↓qa7, ↓qbc, ↓qcT, ↓qcP, ↓qcR, ↓qcS, ↓qcQ, ↓qbl, ↓qbt, ↓qbs, ↓qbm, ↓qbo, ↓qbq, ↓qbu, ↓qbp, ↓qbr, ↓qbn, ↓qbW, ↓qbX, ↓qaf, ↓qae, ↓qag, ↓qaP, ↓qaO, ↓qaK, ↓qaJ, ↓qaL, ↓qaM, ↓qaN, ↓qaZ, ↓qbU, ↓qbH, ↓qbI, ↓qbJ, ↓qbK, ↓qcf, ↓qcg, ↓qch, ↓qci, ↓qa1, ↓qa3, ↓qa0, ↓qa2, ↓qar, ↓qaA, ↓qaw, ↓qav, ↓qau, ↓qay, ↓qaz, ↓qas, ↓qax, ↓qaB, ↓qat, ↓qcV, ↓qcU, ↓qaQ, ↓qaW, ↓qaV, ↓qaU, ↓qcF, ↓qcC, ↓qcz, ↓qcG, ↓qcA, ↓qcD, ↓qcE, ↓qcH, ↓qcB, ↓qb5, ↓qb3, ↓qb2, ↓qb1, ↓qbZ, ↓qbY, ↓qb0, ↓qcx, ↓qcv, ↓qcw, ↓qcu, ↓qcy, ↓qb9, ↓qcb, ↓qb6, ↓qce, ↓qcc, ↓qb8, ↓qca, ↓qcd, ↓qb7, ↓qaY, ↓qan, ↓qai, ↓qaj, ↓qam, ↓qak, ↓qal, ↓qct, ↓qcs, ↓qcr, ↓qaq, ↓qao, ↓qap, ↓qbv, ↓qah, ↓qbS, ↓qbC, ↓qaD, ↓qaC, ↓qbx, ↓qbw, ↓qcW, ↓qbT, ↓qbM, ↓qbN, ↓qbL, ↓qbD, ↓qbE, ↓qbO, qad, qbB, qbA, qbz, ↓qck, ↓qcj, ↓qcm, ↓qcl, qbV, ↓qbQ, ↓qbP, ↓qbR, qby, qcI, qcJ, qaI, behindInMarks, lastMarks, Option.map_some, List.contains_cons, List.map_cons, List.map_nil, String.reduceBEq, String.reduceEq, Bool.and_true, Bool.true_and, Bool.and_false, Bool.false_and, Bool.or_true, Bool.true_or, Bool.or_false, Bool.false_or, Bool.not_true, Bool.not_false, and_true, true_and, exists_eq_left', exists_eq_left, beq_self_eq_true, List.length_cons, List.length_nil, Nat.reduceAdd, Nat.zero_add, Nat.reduceLeDiff, decide_true, decide_false, if_false, if_true, reduceCtorEq, N11, ↓U11]
    exact bo (by unfold apartB; rw [h1]; rfl)
  · simp (maxSteps := 1000000) (dsimp := false) only [↓qaG, ↓qaH, ↓qcp, ↓qco, ↓qcn, ↓qcq, ↓qa4, ↓qbG, ↓qbF, ↓qaa, ↓qac, ↓qab, ↓qba, ↓qbe, ↓qa6, ↓qbi, ↓qa5, ↓qbf, ↓qbb, ↓qa9, ↓qbh, ↓qbd, ↓qbg, ↓qcL, ↓qcK, ↓qcM, ↓qb4, ↓qbk, ↓qbj, ↓qaF, ↓qaE, ↓qcN, ↓qcO, ↓qa8, ↓qa7, ↓qbc, ↓qcT, ↓qcP, ↓qcR, ↓qcS, ↓qcQ, ↓qbl, ↓qbt, ↓qbs, ↓qbm, ↓qbo, ↓qbq, ↓qbu, ↓qbp, ↓qbr, ↓qbn, ↓qbW, ↓qbX, ↓qaf, ↓qae, ↓qag, ↓qaP, ↓qaO, ↓qaK, ↓qaJ, ↓qaL, ↓qaM, ↓qaN, ↓qaZ, ↓qbU, ↓qbH, ↓qbI, ↓qbJ, ↓qbK, ↓qcf, ↓qcg, ↓qch, ↓qci, ↓qa1, ↓qa3, ↓qa0, ↓qa2, ↓qar, ↓qaA, ↓qaw, ↓qav, ↓qau, ↓qay, ↓qaz, ↓qas, ↓qax, ↓qaB, ↓qat, ↓qcV, ↓qcU, ↓qaQ, ↓qaW, ↓qaV, ↓qaU, ↓qcF, ↓qcC, ↓qcz, ↓qcG, ↓qcA, ↓qcD, ↓qcE, ↓qcH, ↓qcB, ↓qb5, ↓qb3, ↓qb2, ↓qb1, ↓qbZ, ↓qbY, ↓qb0, ↓qcx, ↓qcv, ↓qcw, ↓qcu, ↓qcy, ↓qb9, ↓qcb, ↓qb6, ↓qce, ↓qcc, ↓qb8, ↓qca, ↓qcd, ↓qb7, ↓qaY, ↓qan, ↓qai, ↓qaj, ↓qam, ↓qak, ↓qal, ↓qct, ↓qcs, ↓qcr, ↓qaq, ↓qao, ↓qap, ↓qbv, ↓qah, ↓qbS, ↓qbC, ↓qaD, ↓qaC, ↓qbx, ↓qbw, ↓qcW, ↓qbT, ↓qbM, ↓qbN, ↓qbL, ↓qbD, ↓qbE, ↓qbO, qad, qbB, qbA, qbz, ↓qck, ↓qcj, ↓qcm, ↓qcl, qbV, ↓qbQ, ↓qbP, ↓qbR, qby, qcI, qcJ, qaI, behindInMarks, lastMarks, Option.map_some, List.contains_cons, List.map_cons, List.map_nil, String.reduceBEq, String.reduceEq, Bool.and_true, Bool.true_and, Bool.and_false, Bool.false_and, Bool.or_true, Bool.true_or, Bool.or_false, Bool.false_or, Bool.not_true, Bool.not_false, and_true, true_and, exists_eq_left', exists_eq_left, beq_self_eq_true, List.length_cons, List.length_nil, Nat.reduceAdd, Nat.zero_add, Nat.reduceLeDiff, decide_true, decide_false, if_false, if_true, reduceCtorEq, N11, ↓U11]
    refine ⟨(c_nby hS hp q).isFn, useC_of ((c_nby hS hp q).le (by decide)) ?_⟩
    simp (maxSteps := 1000000) (dsimp := false) only [↓qaG, ↓qaH, ↓qcp, ↓qco, ↓qcn, ↓qcq, ↓qa4, ↓qbG, ↓qbF, ↓qaa, ↓qac, ↓qab, ↓qba, ↓qbe, ↓qa6, ↓qbi, ↓qa5, ↓qbf, ↓qbb, ↓qa9, ↓qbh, ↓qbd, ↓qbg, ↓qcL, ↓qcK, ↓qcM, ↓qb4, ↓qbk, ↓qbj, ↓qaF, ↓qaE, ↓qcN, ↓qcO, ↓qa8, ↓qa7, ↓qbc, ↓qcT, ↓qcP, ↓qcR, ↓qcS, ↓qcQ, ↓qbl, ↓qbt, ↓qbs, ↓qbm, ↓qbo, ↓qbq, ↓qbu, ↓qbp, ↓qbr, ↓qbn, ↓qbW, ↓qbX, ↓qaf, ↓qae, ↓qag, ↓qaP, ↓qaO, ↓qaK, ↓qaJ, ↓qaL, ↓qaM, ↓qaN, ↓qaZ, ↓qbU, ↓qbH, ↓qbI, ↓qbJ, ↓qbK, ↓qcf, ↓qcg, ↓qch, ↓qci, ↓qa1, ↓qa3, ↓qa0, ↓qa2, ↓qar, ↓qaA, ↓qaw, ↓qav, ↓qau, ↓qay, ↓qaz, ↓qas, ↓qax, ↓qaB, ↓qat, ↓qcV, ↓qcU, ↓qaQ, ↓qaW, ↓qaV, ↓qaU, ↓qcF, ↓qcC, ↓qcz, ↓qcG, ↓qcA, ↓qcD, ↓qcE, ↓qcH, ↓qcB, ↓qb5, ↓qb3, ↓qb2, ↓qb1, ↓qbZ, ↓qbY, ↓qb0, ↓qcx, ↓qcv, ↓qcw, ↓qcu, ↓qcy, ↓qb9, ↓qcb, ↓qb6, ↓qce, ↓qcc, ↓qb8, ↓qca, ↓qcd, ↓qb7, ↓qaY, ↓qan, ↓qai, ↓qaj, ↓qam, ↓qak, ↓qal, ↓qct, ↓qcs, ↓qcr, ↓qaq, ↓qao, ↓qap, ↓qbv, ↓qah, ↓qbS, ↓qbC, ↓qaD, ↓qaC, ↓qbx, ↓qbw, ↓qcW, ↓qbT, ↓qbM, ↓qbN, ↓qbL, ↓qbD, ↓qbE, ↓qbO, qad, qbB, qbA, qbz, ↓qck, ↓qcj, ↓qcm, ↓qcl, qbV, ↓qbQ, ↓qbP, ↓qbR, qby, qcI, qcJ, qaI, behindInMarks, lastMarks, Option.map_some, List.contains_cons, List.map_cons, List.map_nil, String.reduceBEq, String.reduceEq, Bool.and_true, Bool.true_and, Bool.and_false, Bool.false_and, Bool.or_true, Bool.true_or, Bool.or_false, Bool.false_or, Bool.not_true, Bool.not_false, and_true, true_and, exists_eq_left', exists_eq_left, beq_self_eq_true, List.length_cons, List.length_nil, Nat.reduceAdd, Nat.zero_add, Nat.reduceLeDiff, decide_true, decide_false, if_false, if_true, reduceCtorEq, N11, ↓U11]
    exact bo (by unfold apartB; rw [h1]; rfl)
theorem c_meet_in_registers (r q : Row) (hr : VR r) (hq : VR q) : CallsTo cx 4 "meet_in_registers" [rowD r, rowD q] (.bool (regM r q)) := by
  refine fn_at2 hS hp 14 (own := []) (k := 3) (n := 8) (m := 6) (xs := [Str.ofString "one", Str.ofString "other"]) (ys := [Str.ofString "things", Str.ofString "first", Str.ofString "second"]) (tb := tb14) rfl (by kernel_rfl) rfl rfl (fun _ _ _ vs h => ?_) rfl (by kernel_rfl) (by simp [qcJ]) rfl ?_
  · rcases vs with _ | ⟨v1, _ | ⟨v2, _ | ⟨w, ws⟩⟩⟩ <;> first | rfl | simp at h
  simp (maxSteps := 1000000) (dsimp := false) only [↓qaG, ↓qaH, ↓qcp, ↓qco, ↓qcn, ↓qcq, ↓qa4, ↓qbG, ↓qbF, ↓qaa, ↓qac, ↓qab, ↓qba, ↓qbe, ↓qa6, ↓qbi, ↓qa5, ↓qbf, ↓qbb, ↓qa9, ↓qbh, ↓qbd, ↓qbg, ↓qcL, ↓qcK, ↓qcM, ↓qb4, ↓qbk, ↓qbj, ↓qaF, ↓qaE, ↓qcN, ↓qcO, ↓qa8, ↓qa7, ↓qbc, ↓qcT, ↓qcP, ↓qcR, ↓qcS, ↓qcQ, ↓qbl, ↓qbt, ↓qbs, ↓qbm, ↓qbo, ↓qbq, ↓qbu, ↓qbp, ↓qbr, ↓qbn, ↓qbW, ↓qbX, ↓qaf, ↓qae, ↓qag, ↓qaP, ↓qaO, ↓qaK, ↓qaJ, ↓qaL, ↓qaM, ↓qaN, ↓qaZ, ↓qbU, ↓qbH, ↓qbI, ↓qbJ, ↓qbK, ↓qcf, ↓qcg, ↓qch, ↓qci, ↓qa1, ↓qa3, ↓qa0, ↓qa2, ↓qar, ↓qaA, ↓qaw, ↓qav, ↓qau, ↓qay, ↓qaz, ↓qas, ↓qax, ↓qaB, ↓qat, ↓qcV, ↓qcU, ↓qaQ, ↓qaW, ↓qaV, ↓qaU, ↓qcF, ↓qcC, ↓qcz, ↓qcG, ↓qcA, ↓qcD, ↓qcE, ↓qcH, ↓qcB, ↓qb5, ↓qb3, ↓qb2, ↓qb1, ↓qbZ, ↓qbY, ↓qb0, ↓qcx, ↓qcv, ↓qcw, ↓qcu, ↓qcy, ↓qb9, ↓qcb, ↓qb6, ↓qce, ↓qcc, ↓qb8, ↓qca, ↓qcd, ↓qb7, ↓qaY, ↓qan, ↓qai, ↓qaj, ↓qam, ↓qak, ↓qal, ↓qct, ↓qcs, ↓qcr, ↓qaq, ↓qao, ↓qap, ↓qbv, ↓qah, ↓qbS, ↓qbC, ↓qaD, ↓qaC, ↓qbx, ↓qbw, ↓qcW, ↓qbT, ↓qbM, ↓qbN, ↓qbL, ↓qbD, ↓qbE, ↓qbO, qad, qbB, qbA, qbz, ↓qck, ↓qcj, ↓qcm, ↓qcl, qbV, ↓qbQ, ↓qbP, ↓qbR, qby, qcI, qcJ, qaI, behindInMarks, lastMarks, Option.map_some, List.contains_cons, List.map_cons, List.map_nil, String.reduceBEq, String.reduceEq, Bool.and_true, Bool.true_and, Bool.and_false, Bool.false_and, Bool.or_true, Bool.true_or, Bool.or_false, Bool.false_or, Bool.not_true, Bool.not_false, and_true, true_and, exists_eq_left', exists_eq_left, beq_self_eq_true, List.length_cons, List.length_nil, Nat.reduceAdd, Nat.zero_add, Nat.reduceLeDiff, decide_true, decide_false, if_false, if_true, reduceCtorEq, N14, ↓U14]
  refine useG_of (g_flags hp) ?_
  simp (maxSteps := 1000000) (dsimp := false) only [↓qaG, ↓qaH, ↓qcp, ↓qco, ↓qcn, ↓qcq, ↓qa4, ↓qbG, ↓qbF, ↓qaa, ↓qac, ↓qab, ↓qba, ↓qbe, ↓qa6, ↓qbi, ↓qa5, ↓qbf, ↓qbb, ↓qa9, ↓qbh, ↓qbd, ↓qbg, ↓qcL, ↓qcK, ↓qcM, ↓qb4, ↓qbk, ↓qbj, ↓qaF, ↓qaE, ↓qcN, ↓qcO, ↓qa8, ↓qa7, ↓qbc, ↓qcT, ↓qcP, ↓qcR, ↓qcS, ↓qcQ, ↓qbl, ↓qbt, ↓qbs, ↓qbm, ↓qbo, ↓qbq, ↓qbu, ↓qbp, ↓qbr, ↓qbn, ↓qbW, ↓qbX, ↓qaf, ↓qae, ↓qag, ↓qaP, ↓qaO, ↓qaK, ↓qaJ, ↓qaL, ↓qaM, ↓qaN, ↓qaZ, ↓qbU, ↓qbH, ↓qbI, ↓qbJ, ↓qbK, ↓qcf, ↓qcg, ↓qch, ↓qci, ↓qa1, ↓qa3, ↓qa0, ↓qa2, ↓qar, ↓qaA, ↓qaw, ↓qav, ↓qau, ↓qay, ↓qaz, ↓qas, ↓qax, ↓qaB, ↓qat, ↓qcV, ↓qcU, ↓qaQ, ↓qaW, ↓qaV, ↓qaU, ↓qcF, ↓qcC, ↓qcz, ↓qcG, ↓qcA, ↓qcD, ↓qcE, ↓qcH, ↓qcB, ↓qb5, ↓qb3, ↓qb2, ↓qb1, ↓qbZ, ↓qbY, ↓qb0, ↓qcx, ↓qcv, ↓qcw, ↓qcu, ↓qcy, ↓qb9, ↓qcb, ↓qb6, ↓qce, ↓qcc, ↓qb8, ↓qca, ↓qcd, ↓qb7, ↓qaY, ↓qan, ↓qai, ↓qaj, ↓qam, ↓qak, ↓qal, ↓qct, ↓qcs, ↓qcr, ↓qaq, ↓qao, ↓qap, ↓qbv, ↓qah, ↓qbS, ↓qbC, ↓qaD, ↓qaC, ↓qbx, ↓qbw, ↓qcW, ↓qbT, ↓qbM, ↓qbN, ↓qbL, ↓qbD, ↓qbE, ↓qbO, qad, qbB, qbA, qbz, ↓qck, ↓qcj, ↓qcm, ↓qcl, qbV, ↓qbQ, ↓qbP, ↓qbR, qby, qcI, qcJ, qaI, behindInMarks, lastMarks, Option.map_some, List.contains_cons, List.map_cons, List.map_nil, String.reduceBEq, String.reduceEq, Bool.and_true, Bool.true_and, Bool.and_false, Bool.false_and, Bool.or_true, Bool.true_or, Bool.or_false, Bool.false_or, Bool.not_true, Bool.not_false, and_true, true_and, exists_eq_left', exists_eq_left, beq_self_eq_true, List.length_cons, List.length_nil, Nat.reduceAdd, Nat.zero_add, Nat.reduceLeDiff, decide_true, decide_false, if_false, if_true, reduceCtorEq, N14, ↓U14]
  refine ⟨by decide, by decide, by decide, (c_write_set hS hp r hr).isFn, useC_of ((c_write_set hS hp r hr).le (by decide)) ?_⟩
  simp (maxSteps := 1000000) (dsimp := false) only [↓qaG, ↓qaH, ↓qcp, ↓qco, ↓qcn, ↓qcq, ↓qa4, ↓qbG, ↓qbF, ↓qaa, ↓qac, ↓qab, ↓qba, ↓qbe, ↓qa6, ↓qbi, ↓qa5, ↓qbf, ↓qbb, ↓qa9, ↓qbh, ↓qbd, ↓qbg, ↓qcL, ↓qcK, ↓qcM, ↓qb4, ↓qbk, ↓qbj, ↓qaF, ↓qaE, ↓qcN, ↓qcO, ↓qa8, ↓qa7, ↓qbc, ↓qcT, ↓qcP, ↓qcR, ↓qcS, ↓qcQ, ↓qbl, ↓qbt, ↓qbs, ↓qbm, ↓qbo, ↓qbq, ↓qbu, ↓qbp, ↓qbr, ↓qbn, ↓qbW, ↓qbX, ↓qaf, ↓qae, ↓qag, ↓qaP, ↓qaO, ↓qaK, ↓qaJ, ↓qaL, ↓qaM, ↓qaN, ↓qaZ, ↓qbU, ↓qbH, ↓qbI, ↓qbJ, ↓qbK, ↓qcf, ↓qcg, ↓qch, ↓qci, ↓qa1, ↓qa3, ↓qa0, ↓qa2, ↓qar, ↓qaA, ↓qaw, ↓qav, ↓qau, ↓qay, ↓qaz, ↓qas, ↓qax, ↓qaB, ↓qat, ↓qcV, ↓qcU, ↓qaQ, ↓qaW, ↓qaV, ↓qaU, ↓qcF, ↓qcC, ↓qcz, ↓qcG, ↓qcA, ↓qcD, ↓qcE, ↓qcH, ↓qcB, ↓qb5, ↓qb3, ↓qb2, ↓qb1, ↓qbZ, ↓qbY, ↓qb0, ↓qcx, ↓qcv, ↓qcw, ↓qcu, ↓qcy, ↓qb9, ↓qcb, ↓qb6, ↓qce, ↓qcc, ↓qb8, ↓qca, ↓qcd, ↓qb7, ↓qaY, ↓qan, ↓qai, ↓qaj, ↓qam, ↓qak, ↓qal, ↓qct, ↓qcs, ↓qcr, ↓qaq, ↓qao, ↓qap, ↓qbv, ↓qah, ↓qbS, ↓qbC, ↓qaD, ↓qaC, ↓qbx, ↓qbw, ↓qcW, ↓qbT, ↓qbM, ↓qbN, ↓qbL, ↓qbD, ↓qbE, ↓qbO, qad, qbB, qbA, qbz, ↓qck, ↓qcj, ↓qcm, ↓qcl, qbV, ↓qbQ, ↓qbP, ↓qbR, qby, qcI, qcJ, qaI, behindInMarks, lastMarks, Option.map_some, List.contains_cons, List.map_cons, List.map_nil, String.reduceBEq, String.reduceEq, Bool.and_true, Bool.true_and, Bool.and_false, Bool.false_and, Bool.or_true, Bool.true_or, Bool.or_false, Bool.false_or, Bool.not_true, Bool.not_false, and_true, true_and, exists_eq_left', exists_eq_left, beq_self_eq_true, List.length_cons, List.length_nil, Nat.reduceAdd, Nat.zero_add, Nat.reduceLeDiff, decide_true, decide_false, if_false, if_true, reduceCtorEq, N14, ↓U14]
  refine ⟨(c_write_set hS hp q hq).isFn, useC_of ((c_write_set hS hp q hq).le (by decide)) ?_⟩
  simp (maxSteps := 1000000) (dsimp := false) only [↓qaG, ↓qaH, ↓qcp, ↓qco, ↓qcn, ↓qcq, ↓qa4, ↓qbG, ↓qbF, ↓qaa, ↓qac, ↓qab, ↓qba, ↓qbe, ↓qa6, ↓qbi, ↓qa5, ↓qbf, ↓qbb, ↓qa9, ↓qbh, ↓qbd, ↓qbg, ↓qcL, ↓qcK, ↓qcM, ↓qb4, ↓qbk, ↓qbj, ↓qaF, ↓qaE, ↓qcN, ↓qcO, ↓qa8, ↓qa7, ↓qbc, ↓qcT, ↓qcP, ↓qcR, ↓qcS, ↓qcQ, ↓qbl, ↓qbt, ↓qbs, ↓qbm, ↓qbo, ↓qbq, ↓qbu, ↓qbp, ↓qbr, ↓qbn, ↓qbW, ↓qbX, ↓qaf, ↓qae, ↓qag, ↓qaP, ↓qaO, ↓qaK, ↓qaJ, ↓qaL, ↓qaM, ↓qaN, ↓qaZ, ↓qbU, ↓qbH, ↓qbI, ↓qbJ, ↓qbK, ↓qcf, ↓qcg, ↓qch, ↓qci, ↓qa1, ↓qa3, ↓qa0, ↓qa2, ↓qar, ↓qaA, ↓qaw, ↓qav, ↓qau, ↓qay, ↓qaz, ↓qas, ↓qax, ↓qaB, ↓qat, ↓qcV, ↓qcU, ↓qaQ, ↓qaW, ↓qaV, ↓qaU, ↓qcF, ↓qcC, ↓qcz, ↓qcG, ↓qcA, ↓qcD, ↓qcE, ↓qcH, ↓qcB, ↓qb5, ↓qb3, ↓qb2, ↓qb1, ↓qbZ, ↓qbY, ↓qb0, ↓qcx, ↓qcv, ↓qcw, ↓qcu, ↓qcy, ↓qb9, ↓qcb, ↓qb6, ↓qce, ↓qcc, ↓qb8, ↓qca, ↓qcd, ↓qb7, ↓qaY, ↓qan, ↓qai, ↓qaj, ↓qam, ↓qak, ↓qal, ↓qct, ↓qcs, ↓qcr, ↓qaq, ↓qao, ↓qap, ↓qbv, ↓qah, ↓qbS, ↓qbC, ↓qaD, ↓qaC, ↓qbx, ↓qbw, ↓qcW, ↓qbT, ↓qbM, ↓qbN, ↓qbL, ↓qbD, ↓qbE, ↓qbO, qad, qbB, qbA, qbz, ↓qck, ↓qcj, ↓qcm, ↓qcl, qbV, ↓qbQ, ↓qbP, ↓qbR, qby, qcI, qcJ, qaI, behindInMarks, lastMarks, Option.map_some, List.contains_cons, List.map_cons, List.map_nil, String.reduceBEq, String.reduceEq, Bool.and_true, Bool.true_and, Bool.and_false, Bool.false_and, Bool.or_true, Bool.true_or, Bool.or_false, Bool.false_or, Bool.not_true, Bool.not_false, and_true, true_and, exists_eq_left', exists_eq_left, beq_self_eq_true, List.length_cons, List.length_nil, Nat.reduceAdd, Nat.zero_add, Nat.reduceLeDiff, decide_true, decide_false, if_false, if_true, reduceCtorEq, N14, ↓U14]
  refine ⟨(c_read_set hS hp q hq).isFn, useC_of ((c_read_set hS hp q hq).le (by decide)) ?_⟩
  simp (maxSteps := 1000000) (dsimp := false) only [↓qaG, ↓qaH, ↓qcp, ↓qco, ↓qcn, ↓qcq, ↓qa4, ↓qbG, ↓qbF, ↓qaa, ↓qac, ↓qab, ↓qba, ↓qbe, ↓qa6, ↓qbi, ↓qa5, ↓qbf, ↓qbb, ↓qa9, ↓qbh, ↓qbd, ↓qbg, ↓qcL, ↓qcK, ↓qcM, ↓qb4, ↓qbk, ↓qbj, ↓qaF, ↓qaE, ↓qcN, ↓qcO, ↓qa8, ↓qa7, ↓qbc, ↓qcT, ↓qcP, ↓qcR, ↓qcS, ↓qcQ, ↓qbl, ↓qbt, ↓qbs, ↓qbm, ↓qbo, ↓qbq, ↓qbu, ↓qbp, ↓qbr, ↓qbn, ↓qbW, ↓qbX, ↓qaf, ↓qae, ↓qag, ↓qaP, ↓qaO, ↓qaK, ↓qaJ, ↓qaL, ↓qaM, ↓qaN, ↓qaZ, ↓qbU, ↓qbH, ↓qbI, ↓qbJ, ↓qbK, ↓qcf, ↓qcg, ↓qch, ↓qci, ↓qa1, ↓qa3, ↓qa0, ↓qa2, ↓qar, ↓qaA, ↓qaw, ↓qav, ↓qau, ↓qay, ↓qaz, ↓qas, ↓qax, ↓qaB, ↓qat, ↓qcV, ↓qcU, ↓qaQ, ↓qaW, ↓qaV, ↓qaU, ↓qcF, ↓qcC, ↓qcz, ↓qcG, ↓qcA, ↓qcD, ↓qcE, ↓qcH, ↓qcB, ↓qb5, ↓qb3, ↓qb2, ↓qb1, ↓qbZ, ↓qbY, ↓qb0, ↓qcx, ↓qcv, ↓qcw, ↓qcu, ↓qcy, ↓qb9, ↓qcb, ↓qb6, ↓qce, ↓qcc, ↓qb8, ↓qca, ↓qcd, ↓qb7, ↓qaY, ↓qan, ↓qai, ↓qaj, ↓qam, ↓qak, ↓qal, ↓qct, ↓qcs, ↓qcr, ↓qaq, ↓qao, ↓qap, ↓qbv, ↓qah, ↓qbS, ↓qbC, ↓qaD, ↓qaC, ↓qbx, ↓qbw, ↓qcW, ↓qbT, ↓qbM, ↓qbN, ↓qbL, ↓qbD, ↓qbE, ↓qbO, qad, qbB, qbA, qbz, ↓qck, ↓qcj, ↓qcm, ↓qcl, qbV, ↓qbQ, ↓qbP, ↓qbR, qby, qcI, qcJ, qaI, behindInMarks, lastMarks, Option.map_some, List.contains_cons, List.map_cons, List.map_nil, String.reduceBEq, String.reduceEq, Bool.and_true, Bool.true_and, Bool.and_false, Bool.false_and, Bool.or_true, Bool.true_or, Bool.or_false, Bool.false_or, Bool.not_true, Bool.not_false, and_true, true_and, exists_eq_left', exists_eq_left, beq_self_eq_true, List.length_cons, List.length_nil, Nat.reduceAdd, Nat.zero_add, Nat.reduceLeDiff, decide_true, decide_false, if_false, if_true, reduceCtorEq, N14, ↓U14]
  refine iteB_of (fun h1 => ?_) (fun h1 => ?_)
  · simp (maxSteps := 1000000) (dsimp := false) only [↓qaG, ↓qaH, ↓qcp, ↓qco, ↓qcn, ↓qcq, ↓qa4, ↓qbG, ↓qbF, ↓qaa, ↓qac, ↓qab, ↓qba, ↓qbe, ↓qa6, ↓qbi, ↓qa5, ↓qbf, ↓qbb, ↓qa9, ↓qbh, ↓qbd, ↓qbg, ↓qcL, ↓qcK, ↓qcM, ↓qb4, ↓qbk, ↓qbj, ↓qaF, ↓qaE, ↓qcN, ↓qcO, ↓qa8, ↓qa7, ↓qbc, ↓qcT, ↓qcP, ↓qcR, ↓qcS, ↓qcQ, ↓qbl, ↓qbt, ↓qbs, ↓qbm, ↓qbo, ↓qbq, ↓qbu, ↓qbp, ↓qbr, ↓qbn, ↓qbW, ↓qbX, ↓qaf, ↓qae, ↓qag, ↓qaP, ↓qaO, ↓qaK, ↓qaJ, ↓qaL, ↓qaM, ↓qaN, ↓qaZ, ↓qbU, ↓qbH, ↓qbI, ↓qbJ, ↓qbK, ↓qcf, ↓qcg, ↓qch, ↓qci, ↓qa1, ↓qa3, ↓qa0, ↓qa2, ↓qar, ↓qaA, ↓qaw, ↓qav, ↓qau, ↓qay, ↓qaz, ↓qas, ↓qax, ↓qaB, ↓qat, ↓qcV, ↓qcU, ↓qaQ, ↓qaW, ↓qaV, ↓qaU, ↓qcF, ↓qcC, ↓qcz, ↓qcG, ↓qcA, ↓qcD, ↓qcE, ↓qcH, ↓qcB, ↓qb5, ↓qb3, ↓qb2, ↓qb1, ↓qbZ, ↓qbY, ↓qb0, ↓qcx, ↓qcv, ↓qcw, ↓qcu, ↓qcy, ↓qb9, ↓qcb, ↓qb6, ↓qce, ↓qcc, ↓qb8, ↓qca, ↓qcd, ↓qb7, ↓qaY, ↓qan, ↓qai, ↓qaj, ↓qam, ↓qak, ↓qal, ↓qct, ↓qcs, ↓qcr, ↓qaq, ↓qao, ↓qap, ↓qbv, ↓qah, ↓qbS, ↓qbC, ↓qaD, ↓qaC, ↓qbx, ↓qbw, ↓qcW, ↓qbT, ↓qbM, ↓qbN, ↓qbL, ↓qbD, ↓qbE, ↓qbO, qad, qbB, qbA, qbz, ↓qck, ↓qcj, ↓qcm, ↓qcl, qbV, ↓qbQ, ↓qbP, ↓qbR, qby, qcI, qcJ, qaI, behindInMarks, lastMarks, Option.map_some, List.contains_cons, List.map_cons, List.map_nil, String.reduceBEq, String.reduceEq, Bool.and_true, Bool.true_and, Bool.and_false, Bool.false_and, Bool.or_true, Bool.true_or, Bool.or_false, Bool.false_or, Bool.not_true, Bool.not_false, and_true, true_and, exists_eq_left', exists_eq_left, beq_self_eq_true, List.length_cons, List.length_nil, Nat.reduceAdd, Nat.zero_add, Nat.reduceLeDiff, decide_true, decide_false, if_false, if_true, reduceCtorEq, N14, ↓U14]
    exact bo (by unfold regM thg; rw [h1]; rfl)
  · simp (maxSteps := 1000000) (dsimp := false) only [↓qaG, ↓qaH, ↓qcp, ↓qco, ↓qcn, ↓qcq, ↓qa4, ↓qbG, ↓qbF, ↓qaa, ↓qac, ↓qab, ↓qba, ↓qbe, ↓qa6, ↓qbi, ↓qa5, ↓qbf, ↓qbb, ↓qa9, ↓qbh, ↓qbd, ↓qbg, ↓qcL, ↓qcK, ↓qcM, ↓qb4, ↓qbk, ↓qbj, ↓qaF, ↓qaE, ↓qcN, ↓qcO, ↓qa8, ↓qa7, ↓qbc, ↓qcT, ↓qcP, ↓qcR, ↓qcS, ↓qcQ, ↓qbl, ↓qbt, ↓qbs, ↓qbm, ↓qbo, ↓qbq, ↓qbu, ↓qbp, ↓qbr, ↓qbn, ↓qbW, ↓qbX, ↓qaf, ↓qae, ↓qag, ↓qaP, ↓qaO, ↓qaK, ↓qaJ, ↓qaL, ↓qaM, ↓qaN, ↓qaZ, ↓qbU, ↓qbH, ↓qbI, ↓qbJ, ↓qbK, ↓qcf, ↓qcg, ↓qch, ↓qci, ↓qa1, ↓qa3, ↓qa0, ↓qa2, ↓qar, ↓qaA, ↓qaw, ↓qav, ↓qau, ↓qay, ↓qaz, ↓qas, ↓qax, ↓qaB, ↓qat, ↓qcV, ↓qcU, ↓qaQ, ↓qaW, ↓qaV, ↓qaU, ↓qcF, ↓qcC, ↓qcz, ↓qcG, ↓qcA, ↓qcD, ↓qcE, ↓qcH, ↓qcB, ↓qb5, ↓qb3, ↓qb2, ↓qb1, ↓qbZ, ↓qbY, ↓qb0, ↓qcx, ↓qcv, ↓qcw, ↓qcu, ↓qcy, ↓qb9, ↓qcb, ↓qb6, ↓qce, ↓qcc, ↓qb8, ↓qca, ↓qcd, ↓qb7, ↓qaY, ↓qan, ↓qai, ↓qaj, ↓qam, ↓qak, ↓qal, ↓qct, ↓qcs, ↓qcr, ↓qaq, ↓qao, ↓qap, ↓qbv, ↓qah, ↓qbS, ↓qbC, ↓qaD, ↓qaC, ↓qbx, ↓qbw, ↓qcW, ↓qbT, ↓qbM, ↓qbN, ↓qbL, ↓qbD, ↓qbE, ↓qbO, qad, qbB, qbA, qbz, ↓qck, ↓qcj, ↓qcm, ↓qcl, qbV, ↓qbQ, ↓qbP, ↓qbR, qby, qcI, qcJ, qaI, behindInMarks, lastMarks, Option.map_some, List.contains_cons, List.map_cons, List.map_nil, String.reduceBEq, String.reduceEq, Bool.and_true, Bool.true_and, Bool.and_false, Bool.false_and, Bool.or_true, Bool.true_or, Bool.or_false, Bool.false_or, Bool.not_true, Bool.not_false, and_true, true_and, exists_eq_left', exists_eq_left, beq_self_eq_true, List.length_cons, List.length_nil, Nat.reduceAdd, Nat.zero_add, Nat.reduceLeDiff, decide_true, decide_false, if_false, if_true, reduceCtorEq, N14, ↓U14]
    refine ⟨(c_read_set hS hp r hr).isFn, useC_of ((c_read_set hS hp r hr).le (by decide)) ?_⟩
    simp (maxSteps := 1000000) (dsimp := false) only [↓qaG, ↓qaH, ↓qcp, ↓qco, ↓qcn, ↓qcq, ↓qa4, ↓qbG, ↓qbF, ↓qaa, ↓qac, ↓qab, ↓qba, ↓qbe, ↓qa6, ↓qbi, ↓qa5, ↓qbf, ↓qbb, ↓qa9, ↓qbh, ↓qbd, ↓qbg, ↓qcL, ↓qcK, ↓qcM, ↓qb4, ↓qbk, ↓qbj, ↓qaF, ↓qaE, ↓qcN, ↓qcO, ↓qa8, ↓qa7, ↓qbc, ↓qcT, ↓qcP, ↓qcR, ↓qcS, ↓qcQ, ↓qbl, ↓qbt, ↓qbs, ↓qbm, ↓qbo, ↓qbq, ↓qbu, ↓qbp, ↓qbr, ↓qbn, ↓qbW, ↓qbX, ↓qaf, ↓qae, ↓qag, ↓qaP, ↓qaO, ↓qaK, ↓qaJ, ↓qaL, ↓qaM, ↓qaN, ↓qaZ, ↓qbU, ↓qbH, ↓qbI, ↓qbJ, ↓qbK, ↓qcf, ↓qcg, ↓qch, ↓qci, ↓qa1, ↓qa3, ↓qa0, ↓qa2, ↓qar, ↓qaA, ↓qaw, ↓qav, ↓qau, ↓qay, ↓qaz, ↓qas, ↓qax, ↓qaB, ↓qat, ↓qcV, ↓qcU, ↓qaQ, ↓qaW, ↓qaV, ↓qaU, ↓qcF, ↓qcC, ↓qcz, ↓qcG, ↓qcA, ↓qcD, ↓qcE, ↓qcH, ↓qcB, ↓qb5, ↓qb3, ↓qb2, ↓qb1, ↓qbZ, ↓qbY, ↓qb0, ↓qcx, ↓qcv, ↓qcw, ↓qcu, ↓qcy, ↓qb9, ↓qcb, ↓qb6, ↓qce, ↓qcc, ↓qb8, ↓qca, ↓qcd, ↓qb7, ↓qaY, ↓qan, ↓qai, ↓qaj, ↓qam, ↓qak, ↓qal, ↓qct, ↓qcs, ↓qcr, ↓qaq, ↓qao, ↓qap, ↓qbv, ↓qah, ↓qbS, ↓qbC, ↓qaD, ↓qaC, ↓qbx, ↓qbw, ↓qcW, ↓qbT, ↓qbM, ↓qbN, ↓qbL, ↓qbD, ↓qbE, ↓qbO, qad, qbB, qbA, qbz, ↓qck, ↓qcj, ↓qcm, ↓qcl, qbV, ↓qbQ, ↓qbP, ↓qbR, qby, qcI, qcJ, qaI, behindInMarks, lastMarks, Option.map_some, List.contains_cons, List.map_cons, List.map_nil, String.reduceBEq, String.reduceEq, Bool.and_true, Bool.true_and, Bool.and_false, Bool.false_and, Bool.or_true, Bool.true_or, Bool.or_false, Bool.false_or, Bool.not_true, Bool.not_false, and_true, true_and, exists_eq_left', exists_eq_left, beq_self_eq_true, List.length_cons, List.length_nil, Nat.reduceAdd, Nat.zero_add, Nat.reduceLeDiff, decide_true, decide_false, if_false, if_true, reduceCtorEq, N14, ↓U14]
    exact bo (by unfold regM thg; rw [h1]; rfl)
theorem c_is_changed (rs : List Row) (hv : ∀ r ∈ rs, VR r) (hn : rs.length < 100) (reg i j : Int) (h1 : 4 ≤ reg) (h2 : reg < 16) (hi : 0 ≤ i) (hi' : i < 100) (hj0 : 0 ≤ j) (hj : j ≤ rs.length) : CallsTo cx 4 "is_changed" [rowsD rs, .int reg, .int i, .int j] (.bool false) := by
  refine fn_at2 hS hp 12 (own := []) (k := 3) (n := 8) (m := 6) (xs := [Str.ofString "rows", Str.ofString "register", Str.ofString "first", Str.ofString "second"]) (ys := [Str.ofString "place"]) (tb := tb12) rfl (by kernel_rfl) rfl rfl (fun _ _ _ vs h => ?_) rfl (by kernel_rfl) (by simp [qcJ]) rfl ?_
  · rcases vs with _ | ⟨v1, _ | ⟨v2, _ | ⟨v3, _ | ⟨v4, _ | ⟨w, ws⟩⟩⟩⟩⟩ <;> first | rfl | simp at h
  simp (maxSteps := 1000000) (dsimp := false) only [↓qaG, ↓qaH, ↓qcp, ↓qco, ↓qcn, ↓qcq, ↓qa4, ↓qbG, ↓qbF, ↓qaa, ↓qac, ↓qab, ↓qba, ↓qbe, ↓qa6, ↓qbi, ↓qa5, ↓qbf, ↓qbb, ↓qa9, ↓qbh, ↓qbd, ↓qbg, ↓qcL, ↓qcK, ↓qcM, ↓qb4, ↓qbk, ↓qbj, ↓qaF, ↓qaE, ↓qcN, ↓qcO, ↓qa8, ↓qa7, ↓qbc, ↓qcT, ↓qcP, ↓qcR, ↓qcS, ↓qcQ, ↓qbl, ↓qbt, ↓qbs, ↓qbm, ↓qbo, ↓qbq, ↓qbu, ↓qbp, ↓qbr, ↓qbn, ↓qbW, ↓qbX, ↓qaf, ↓qae, ↓qag, ↓qaP, ↓qaO, ↓qaK, ↓qaJ, ↓qaL, ↓qaM, ↓qaN, ↓qaZ, ↓qbU, ↓qbH, ↓qbI, ↓qbJ, ↓qbK, ↓qcf, ↓qcg, ↓qch, ↓qci, ↓qa1, ↓qa3, ↓qa0, ↓qa2, ↓qar, ↓qaA, ↓qaw, ↓qav, ↓qau, ↓qay, ↓qaz, ↓qas, ↓qax, ↓qaB, ↓qat, ↓qcV, ↓qcU, ↓qaQ, ↓qaW, ↓qaV, ↓qaU, ↓qcF, ↓qcC, ↓qcz, ↓qcG, ↓qcA, ↓qcD, ↓qcE, ↓qcH, ↓qcB, ↓qb5, ↓qb3, ↓qb2, ↓qb1, ↓qbZ, ↓qbY, ↓qb0, ↓qcx, ↓qcv, ↓qcw, ↓qcu, ↓qcy, ↓qb9, ↓qcb, ↓qb6, ↓qce, ↓qcc, ↓qb8, ↓qca, ↓qcd, ↓qb7, ↓qaY, ↓qan, ↓qai, ↓qaj, ↓qam, ↓qak, ↓qal, ↓qct, ↓qcs, ↓qcr, ↓qaq, ↓qao, ↓qap, ↓qbv, ↓qah, ↓qbS, ↓qbC, ↓qaD, ↓qaC, ↓qbx, ↓qbw, ↓qcW, ↓qbT, ↓qbM, ↓qbN, ↓qbL, ↓qbD, ↓qbE, ↓qbO, qad, qbB, qbA, qbz, ↓qck, ↓qcj, ↓qcm, ↓qcl, qbV, ↓qbQ, ↓qbP, ↓qbR, qby, qcI, qcJ, qaI, behindInMarks, lastMarks, Option.map_some, List.contains_cons, List.map_cons, List.map_nil, String.reduceBEq, String.reduceEq, Bool.and_true, Bool.true_and, Bool.and_false, Bool.false_and, Bool.or_true, Bool.true_or, Bool.or_false, Bool.false_or, Bool.not_true, Bool.not_false, and_true, true_and, exists_eq_left', exists_eq_left, beq_self_eq_true, List.length_cons, List.length_nil, Nat.reduceAdd, Nat.zero_add, Nat.reduceLeDiff, decide_true, decide_false, if_false, if_true, reduceCtorEq, N12, ↓U12]
  refine forH_of (items := intsUp i j) (own_none rfl) (fun K hK => ?_) (fun _ τ => τ = (Z tb12 [Slot.val (rowsD rs), Slot.val (.int reg), Slot.val (.int i), Slot.val (.int j)])) rfl (fun t d τ hd hτ => ?_) (fun τ hτ => ?_)
  · simp (maxSteps := 1000000) (dsimp := false) only [↓qaG, ↓qaH, ↓qcp, ↓qco, ↓qcn, ↓qcq, ↓qa4, ↓qbG, ↓qbF, ↓qaa, ↓qac, ↓qab, ↓qba, ↓qbe, ↓qa6, ↓qbi, ↓qa5, ↓qbf, ↓qbb, ↓qa9, ↓qbh, ↓qbd, ↓qbg, ↓qcL, ↓qcK, ↓qcM, ↓qb4, ↓qbk, ↓qbj, ↓qaF, ↓qaE, ↓qcN, ↓qcO, ↓qa8, ↓qa7, ↓qbc, ↓qcT, ↓qcP, ↓qcR, ↓qcS, ↓qcQ, ↓qbl, ↓qbt, ↓qbs, ↓qbm, ↓qbo, ↓qbq, ↓qbu, ↓qbp, ↓qbr, ↓qbn, ↓qbW, ↓qbX, ↓qaf, ↓qae, ↓qag, ↓qaP, ↓qaO, ↓qaK, ↓qaJ, ↓qaL, ↓qaM, ↓qaN, ↓qaZ, ↓qbU, ↓qbH, ↓qbI, ↓qbJ, ↓qbK, ↓qcf, ↓qcg, ↓qch, ↓qci, ↓qa1, ↓qa3, ↓qa0, ↓qa2, ↓qar, ↓qaA, ↓qaw, ↓qav, ↓qau, ↓qay, ↓qaz, ↓qas, ↓qax, ↓qaB, ↓qat, ↓qcV, ↓qcU, ↓qaQ, ↓qaW, ↓qaV, ↓qaU, ↓qcF, ↓qcC, ↓qcz, ↓qcG, ↓qcA, ↓qcD, ↓qcE, ↓qcH, ↓qcB, ↓qb5, ↓qb3, ↓qb2, ↓qb1, ↓qbZ, ↓qbY, ↓qb0, ↓qcx, ↓qcv, ↓qcw, ↓qcu, ↓qcy, ↓qb9, ↓qcb, ↓qb6, ↓qce, ↓qcc, ↓qb8, ↓qca, ↓qcd, ↓qb7, ↓qaY, ↓qan, ↓qai, ↓qaj, ↓qam, ↓qak, ↓qal, ↓qct, ↓qcs, ↓qcr, ↓qaq, ↓qao, ↓qap, ↓qbv, ↓qah, ↓qbS, ↓qbC, ↓qaD, ↓qaC, ↓qbx, ↓qbw, ↓qcW, ↓qbT, ↓qbM, ↓qbN, ↓qbL, ↓qbD, ↓qbE, ↓qbO, qad, qbB, qbA, qbz, ↓qck, ↓qcj, ↓qcm, ↓qcl, qbV, ↓qbQ, ↓qbP, ↓qbR, qby, qcI, qcJ, qaI, behindInMarks, lastMarks, Option.map_some, List.contains_cons, List.map_cons, List.map_nil, String.reduceBEq, String.reduceEq, Bool.and_true, Bool.true_and, Bool.and_false, Bool.false_and, Bool.or_true, Bool.true_or, Bool.or_false, Bool.false_or, Bool.not_true, Bool.not_false, and_true, true_and, exists_eq_left', exists_eq_left, beq_self_eq_true, List.length_cons, List.length_nil, Nat.reduceAdd, Nat.zero_add, Nat.reduceLeDiff, decide_true, decide_false, if_false, if_true, reduceCtorEq, N12, ↓U12]
    exact ⟨by omega, by omega, by omega, by omega, hK⟩
  · obtain ⟨ht, rfl⟩ := intsUp_at hd
    subst hτ
    obtain ⟨r, hr, hm⟩ := row_at (rs := rs) (i := i + t) (by omega) (by omega)
    have vr := hv r hm
    simp (maxSteps := 1000000) (dsimp := false) only [↓qaG, ↓qaH, ↓qcp, ↓qco, ↓qcn, ↓qcq, ↓qa4, ↓qbG, ↓qbF, ↓qaa, ↓qac, ↓qab, ↓qba, ↓qbe, ↓qa6, ↓qbi, ↓qa5, ↓qbf, ↓qbb, ↓qa9, ↓qbh, ↓qbd, ↓qbg, ↓qcL, ↓qcK, ↓qcM, ↓qb4, ↓qbk, ↓qbj, ↓qaF, ↓qaE, ↓qcN, ↓qcO, ↓qa8, ↓qa7, ↓qbc, ↓qcT, ↓qcP, ↓qcR, ↓qcS, ↓qcQ, ↓qbl, ↓qbt, ↓qbs, ↓qbm, ↓qbo, ↓qbq, ↓qbu, ↓qbp, ↓qbr, ↓qbn, ↓qbW, ↓qbX, ↓qaf, ↓qae, ↓qag, ↓qaP, ↓qaO, ↓qaK, ↓qaJ, ↓qaL, ↓qaM, ↓qaN, ↓qaZ, ↓qbU, ↓qbH, ↓qbI, ↓qbJ, ↓qbK, ↓qcf, ↓qcg, ↓qch, ↓qci, ↓qa1, ↓qa3, ↓qa0, ↓qa2, ↓qar, ↓qaA, ↓qaw, ↓qav, ↓qau, ↓qay, ↓qaz, ↓qas, ↓qax, ↓qaB, ↓qat, ↓qcV, ↓qcU, ↓qaQ, ↓qaW, ↓qaV, ↓qaU, ↓qcF, ↓qcC, ↓qcz, ↓qcG, ↓qcA, ↓qcD, ↓qcE, ↓qcH, ↓qcB, ↓qb5, ↓qb3, ↓qb2, ↓qb1, ↓qbZ, ↓qbY, ↓qb0, ↓qcx, ↓qcv, ↓qcw, ↓qcu, ↓qcy, ↓qb9, ↓qcb, ↓qb6, ↓qce, ↓qcc, ↓qb8, ↓qca, ↓qcd, ↓qb7, ↓qaY, ↓qan, ↓qai, ↓qaj, ↓qam, ↓qak, ↓qal, ↓qct, ↓qcs, ↓qcr, ↓qaq, ↓qao, ↓qap, ↓qbv, ↓qah, ↓qbS, ↓qbC, ↓qaD, ↓qaC, ↓qbx, ↓qbw, ↓qcW, ↓qbT, ↓qbM, ↓qbN, ↓qbL, ↓qbD, ↓qbE, ↓qbO, qad, qbB, qbA, qbz, ↓qck, ↓qcj, ↓qcm, ↓qcl, qbV, ↓qbQ, ↓qbP, ↓qbR, qby, qcI, qcJ, qaI, behindInMarks, lastMarks, Option.map_some, List.contains_cons, List.map_cons, List.map_nil, String.reduceBEq, String.reduceEq, Bool.and_true, Bool.true_and, Bool.and_false, Bool.false_and, Bool.or_true, Bool.true_or, Bool.or_false, Bool.false_or, Bool.not_true, Bool.not_false, and_true, true_and, exists_eq_left', exists_eq_left, beq_self_eq_true, List.length_cons, List.length_nil, Nat.reduceAdd, Nat.zero_add, Nat.reduceLeDiff, decide_true, decide_false, if_false, if_true, reduceCtorEq, N12, ↓U12, ↓itemW_row (by omega) (by omega) hr]
    refine ⟨(c_is_control hS hp r).isFn, useC_of ((c_is_control hS hp r).le (by decide)) ?_⟩
    simp (maxSteps := 1000000) (dsimp := false) only [↓qaG, ↓qaH, ↓qcp, ↓qco, ↓qcn, ↓qcq, ↓qa4, ↓qbG, ↓qbF, ↓qaa, ↓qac, ↓qab, ↓qba, ↓qbe, ↓qa6, ↓qbi, ↓qa5, ↓qbf, ↓qbb, ↓qa9, ↓qbh, ↓qbd, ↓qbg, ↓qcL, ↓qcK, ↓qcM, ↓qb4, ↓qbk, ↓qbj, ↓qaF, ↓qaE, ↓qcN, ↓qcO, ↓qa8, ↓qa7, ↓qbc, ↓qcT, ↓qcP, ↓qcR, ↓qcS, ↓qcQ, ↓qbl, ↓qbt, ↓qbs, ↓qbm, ↓qbo, ↓qbq, ↓qbu, ↓qbp, ↓qbr, ↓qbn, ↓qbW, ↓qbX, ↓qaf, ↓qae, ↓qag, ↓qaP, ↓qaO, ↓qaK, ↓qaJ, ↓qaL, ↓qaM, ↓qaN, ↓qaZ, ↓qbU, ↓qbH, ↓qbI, ↓qbJ, ↓qbK, ↓qcf, ↓qcg, ↓qch, ↓qci, ↓qa1, ↓qa3, ↓qa0, ↓qa2, ↓qar, ↓qaA, ↓qaw, ↓qav, ↓qau, ↓qay, ↓qaz, ↓qas, ↓qax, ↓qaB, ↓qat, ↓qcV, ↓qcU, ↓qaQ, ↓qaW, ↓qaV, ↓qaU, ↓qcF, ↓qcC, ↓qcz, ↓qcG, ↓qcA, ↓qcD, ↓qcE, ↓qcH, ↓qcB, ↓qb5, ↓qb3, ↓qb2, ↓qb1, ↓qbZ, ↓qbY, ↓qb0, ↓qcx, ↓qcv, ↓qcw, ↓qcu, ↓qcy, ↓qb9, ↓qcb, ↓qb6, ↓qce, ↓qcc, ↓qb8, ↓qca, ↓qcd, ↓qb7, ↓qaY, ↓qan, ↓qai, ↓qaj, ↓qam, ↓qak, ↓qal, ↓qct, ↓qcs, ↓qcr, ↓qaq, ↓qao, ↓qap, ↓qbv, ↓qah, ↓qbS, ↓qbC, ↓qaD, ↓qaC, ↓qbx, ↓qbw, ↓qcW, ↓qbT, ↓qbM, ↓qbN, ↓qbL, ↓qbD, ↓qbE, ↓qbO, qad, qbB, qbA, qbz, ↓qck, ↓qcj, ↓qcm, ↓qcl, qbV, ↓qbQ, ↓qbP, ↓qbR, qby, qcI, qcJ, qaI, behindInMarks, lastMarks, Option.map_some, List.contains_cons, List.map_cons, List.map_nil, String.reduceBEq, String.reduceEq, Bool.and_true, Bool.true_and, Bool.and_false, Bool.false_and, Bool.or_true, Bool.true_or, Bool.or_false, Bool.false_or, Bool.not_true, Bool.not_false, and_true, true_and, exists_eq_left', exists_eq_left, beq_self_eq_true, List.length_cons, List.length_nil, Nat.reduceAdd, Nat.zero_add, Nat.reduceLeDiff, decide_true, decide_false, if_false, if_true, reduceCtorEq, N12, ↓U12, ↓itemW_row (by omega) (by omega) hr]
    refine ⟨(c_write_set hS hp r vr).isFn, useC_of ((c_write_set hS hp r vr).le (by decide)) ?_⟩
    simp (maxSteps := 1000000) (dsimp := false) only [↓qaG, ↓qaH, ↓qcp, ↓qco, ↓qcn, ↓qcq, ↓qa4, ↓qbG, ↓qbF, ↓qaa, ↓qac, ↓qab, ↓qba, ↓qbe, ↓qa6, ↓qbi, ↓qa5, ↓qbf, ↓qbb, ↓qa9, ↓qbh, ↓qbd, ↓qbg, ↓qcL, ↓qcK, ↓qcM, ↓qb4, ↓qbk, ↓qbj, ↓qaF, ↓qaE, ↓qcN, ↓qcO, ↓qa8, ↓qa7, ↓qbc, ↓qcT, ↓qcP, ↓qcR, ↓qcS, ↓qcQ, ↓qbl, ↓qbt, ↓qbs, ↓qbm, ↓qbo, ↓qbq, ↓qbu, ↓qbp, ↓qbr, ↓qbn, ↓qbW, ↓qbX, ↓qaf, ↓qae, ↓qag, ↓qaP, ↓qaO, ↓qaK, ↓qaJ, ↓qaL, ↓qaM, ↓qaN, ↓qaZ, ↓qbU, ↓qbH, ↓qbI, ↓qbJ, ↓qbK, ↓qcf, ↓qcg, ↓qch, ↓qci, ↓qa1, ↓qa3, ↓qa0, ↓qa2, ↓qar, ↓qaA, ↓qaw, ↓qav, ↓qau, ↓qay, ↓qaz, ↓qas, ↓qax, ↓qaB, ↓qat, ↓qcV, ↓qcU, ↓qaQ, ↓qaW, ↓qaV, ↓qaU, ↓qcF, ↓qcC, ↓qcz, ↓qcG, ↓qcA, ↓qcD, ↓qcE, ↓qcH, ↓qcB, ↓qb5, ↓qb3, ↓qb2, ↓qb1, ↓qbZ, ↓qbY, ↓qb0, ↓qcx, ↓qcv, ↓qcw, ↓qcu, ↓qcy, ↓qb9, ↓qcb, ↓qb6, ↓qce, ↓qcc, ↓qb8, ↓qca, ↓qcd, ↓qb7, ↓qaY, ↓qan, ↓qai, ↓qaj, ↓qam, ↓qak, ↓qal, ↓qct, ↓qcs, ↓qcr, ↓qaq, ↓qao, ↓qap, ↓qbv, ↓qah, ↓qbS, ↓qbC, ↓qaD, ↓qaC, ↓qbx, ↓qbw, ↓qcW, ↓qbT, ↓qbM, ↓qbN, ↓qbL, ↓qbD, ↓qbE, ↓qbO, qad, qbB, qbA, qbz, ↓qck, ↓qcj, ↓qcm, ↓qcl, qbV, ↓qbQ, ↓qbP, ↓qbR, qby, qcI, qcJ, qaI, behindInMarks, lastMarks, Option.map_some, List.contains_cons, List.map_cons, List.map_nil, String.reduceBEq, String.reduceEq, Bool.and_true, Bool.true_and, Bool.and_false, Bool.false_and, Bool.or_true, Bool.true_or, Bool.or_false, Bool.false_or, Bool.not_true, Bool.not_false, and_true, true_and, exists_eq_left', exists_eq_left, beq_self_eq_true, List.length_cons, List.length_nil, Nat.reduceAdd, Nat.zero_add, Nat.reduceLeDiff, decide_true, decide_false, if_false, if_true, reduceCtorEq, N12, ↓U12]
    have hw : (Builtin.bitAnd ((wset r).fdiv (2 ^ reg.toNat)) 1 == 1) = false := by
      rw [wset_nat, bit_at]; exact wN_base vr (by omega) (by omega)
    simp (maxSteps := 1000000) (dsimp := false) only [↓qaG, ↓qaH, ↓qcp, ↓qco, ↓qcn, ↓qcq, ↓qa4, ↓qbG, ↓qbF, ↓qaa, ↓qac, ↓qab, ↓qba, ↓qbe, ↓qa6, ↓qbi, ↓qa5, ↓qbf, ↓qbb, ↓qa9, ↓qbh, ↓qbd, ↓qbg, ↓qcL, ↓qcK, ↓qcM, ↓qb4, ↓qbk, ↓qbj, ↓qaF, ↓qaE, ↓qcN, ↓qcO, ↓qa8, ↓qa7, ↓qbc, ↓qcT, ↓qcP, ↓qcR, ↓qcS, ↓qcQ, ↓qbl, ↓qbt, ↓qbs, ↓qbm, ↓qbo, ↓qbq, ↓qbu, ↓qbp, ↓qbr, ↓qbn, ↓qbW, ↓qbX, ↓qaf, ↓qae, ↓qag, ↓qaP, ↓qaO, ↓qaK, ↓qaJ, ↓qaL, ↓qaM, ↓qaN, ↓qaZ, ↓qbU, ↓qbH, ↓qbI, ↓qbJ, ↓qbK, ↓qcf, ↓qcg, ↓qch, ↓qci, ↓qa1, ↓qa3, ↓qa0, ↓qa2, ↓qar, ↓qaA, ↓qaw, ↓qav, ↓qau, ↓qay, ↓qaz, ↓qas, ↓qax, ↓qaB, ↓qat, ↓qcV, ↓qcU, ↓qaQ, ↓qaW, ↓qaV, ↓qaU, ↓qcF, ↓qcC, ↓qcz, ↓qcG, ↓qcA, ↓qcD, ↓qcE, ↓qcH, ↓qcB, ↓qb5, ↓qb3, ↓qb2, ↓qb1, ↓qbZ, ↓qbY, ↓qb0, ↓qcx, ↓qcv, ↓qcw, ↓qcu, ↓qcy, ↓qb9, ↓qcb, ↓qb6, ↓qce, ↓qcc, ↓qb8, ↓qca, ↓qcd, ↓qb7, ↓qaY, ↓qan, ↓qai, ↓qaj, ↓qam, ↓qak, ↓qal, ↓qct, ↓qcs, ↓qcr, ↓qaq, ↓qao, ↓qap, ↓qbv, ↓qah, ↓qbS, ↓qbC, ↓qaD, ↓qaC, ↓qbx, ↓qbw, ↓qcW, ↓qbT, ↓qbM, ↓qbN, ↓qbL, ↓qbD, ↓qbE, ↓qbO, qad, qbB, qbA, qbz, ↓qck, ↓qcj, ↓qcm, ↓qcl, qbV, ↓qbQ, ↓qbP, ↓qbR, qby, qcI, qcJ, qaI, behindInMarks, lastMarks, Option.map_some, List.contains_cons, List.map_cons, List.map_nil, String.reduceBEq, String.reduceEq, Bool.and_true, Bool.true_and, Bool.and_false, Bool.false_and, Bool.or_true, Bool.true_or, Bool.or_false, Bool.false_or, Bool.not_true, Bool.not_false, and_true, true_and, exists_eq_left', exists_eq_left, beq_self_eq_true, List.length_cons, List.length_nil, Nat.reduceAdd, Nat.zero_add, Nat.reduceLeDiff, decide_true, decide_false, if_false, if_true, reduceCtorEq, N12, ↓U12, hw]
    refine ⟨by omega, ?_⟩
    (refine ⟨_, sub_Z ?_, rfl⟩; repeat (first | exact subV_n | refine subV_e ?_ | refine subV_d ?_))
  · subst hτ
    simp (maxSteps := 1000000) (dsimp := false) only [↓qaG, ↓qaH, ↓qcp, ↓qco, ↓qcn, ↓qcq, ↓qa4, ↓qbG, ↓qbF, ↓qaa, ↓qac, ↓qab, ↓qba, ↓qbe, ↓qa6, ↓qbi, ↓qa5, ↓qbf, ↓qbb, ↓qa9, ↓qbh, ↓qbd, ↓qbg, ↓qcL, ↓qcK, ↓qcM, ↓qb4, ↓qbk, ↓qbj, ↓qaF, ↓qaE, ↓qcN, ↓qcO, ↓qa8, ↓qa7, ↓qbc, ↓qcT, ↓qcP, ↓qcR, ↓qcS, ↓qcQ, ↓qbl, ↓qbt, ↓qbs, ↓qbm, ↓qbo, ↓qbq, ↓qbu, ↓qbp, ↓qbr, ↓qbn, ↓qbW, ↓qbX, ↓qaf, ↓qae, ↓qag, ↓qaP, ↓qaO, ↓qaK, ↓qaJ, ↓qaL, ↓qaM, ↓qaN, ↓qaZ, ↓qbU, ↓qbH, ↓qbI, ↓qbJ, ↓qbK, ↓qcf, ↓qcg, ↓qch, ↓qci, ↓qa1, ↓qa3, ↓qa0, ↓qa2, ↓qar, ↓qaA, ↓qaw, ↓qav, ↓qau, ↓qay, ↓qaz, ↓qas, ↓qax, ↓qaB, ↓qat, ↓qcV, ↓qcU, ↓qaQ, ↓qaW, ↓qaV, ↓qaU, ↓qcF, ↓qcC, ↓qcz, ↓qcG, ↓qcA, ↓qcD, ↓qcE, ↓qcH, ↓qcB, ↓qb5, ↓qb3, ↓qb2, ↓qb1, ↓qbZ, ↓qbY, ↓qb0, ↓qcx, ↓qcv, ↓qcw, ↓qcu, ↓qcy, ↓qb9, ↓qcb, ↓qb6, ↓qce, ↓qcc, ↓qb8, ↓qca, ↓qcd, ↓qb7, ↓qaY, ↓qan, ↓qai, ↓qaj, ↓qam, ↓qak, ↓qal, ↓qct, ↓qcs, ↓qcr, ↓qaq, ↓qao, ↓qap, ↓qbv, ↓qah, ↓qbS, ↓qbC, ↓qaD, ↓qaC, ↓qbx, ↓qbw, ↓qcW, ↓qbT, ↓qbM, ↓qbN, ↓qbL, ↓qbD, ↓qbE, ↓qbO, qad, qbB, qbA, qbz, ↓qck, ↓qcj, ↓qcm, ↓qcl, qbV, ↓qbQ, ↓qbP, ↓qbR, qby, qcI, qcJ, qaI, behindInMarks, lastMarks, Option.map_some, List.contains_cons, List.map_cons, List.map_nil, String.reduceBEq, String.reduceEq, Bool.and_true, Bool.true_and, Bool.and_false, Bool.false_and, Bool.or_true, Bool.true_or, Bool.or_false, Bool.false_or, Bool.not_true, Bool.not_false, and_true, true_and, exists_eq_left', exists_eq_left, beq_self_eq_true, List.length_cons, List.length_nil, Nat.reduceAdd, Nat.zero_add, Nat.reduceLeDiff, decide_true, decide_false, if_false, if_true, reduceCtorEq, N12, ↓U12]
theorem c_meet_in_memory (rs : List Row) (hv : ∀ r ∈ rs, VR r) (hn : rs.length < 100) (i j : Int) (r q : Row) (hi : 0 ≤ i) (hi' : i < 100) (hj0 : 0 ≤ j) (hj : j < rs.length) (hr : rs[i.toNat]? = some r) (hq : rs[j.toNat]? = some q) :
    CallsTo cx 5 "meet_in_memory" [rowsD rs, .int i, .int j] (.bool (memM r q)) := by
  have vr := hv r (List.mem_of_getElem? hr)
  have vq := hv q (List.mem_of_getElem? hq)
  refine fn_at2 hS hp 13 (own := []) (k := 4) (n := 8) (m := 6) (xs := [Str.ofString "rows", Str.ofString "first", Str.ofString "second"]) (ys := [Str.ofString "one", Str.ofString "other"]) (tb := tb13) rfl (by kernel_rfl) rfl rfl (fun _ _ _ vs h => ?_) rfl (by kernel_rfl) (by simp [qcJ]) rfl ?_
  · rcases vs with _ | ⟨v1, _ | ⟨v2, _ | ⟨v3, _ | ⟨w, ws⟩⟩⟩⟩ <;> first | rfl | simp at h
  simp (maxSteps := 1000000) (dsimp := false) only [↓qaG, ↓qaH, ↓qcp, ↓qco, ↓qcn, ↓qcq, ↓qa4, ↓qbG, ↓qbF, ↓qaa, ↓qac, ↓qab, ↓qba, ↓qbe, ↓qa6, ↓qbi, ↓qa5, ↓qbf, ↓qbb, ↓qa9, ↓qbh, ↓qbd, ↓qbg, ↓qcL, ↓qcK, ↓qcM, ↓qb4, ↓qbk, ↓qbj, ↓qaF, ↓qaE, ↓qcN, ↓qcO, ↓qa8, ↓qa7, ↓qbc, ↓qcT, ↓qcP, ↓qcR, ↓qcS, ↓qcQ, ↓qbl, ↓qbt, ↓qbs, ↓qbm, ↓qbo, ↓qbq, ↓qbu, ↓qbp, ↓qbr, ↓qbn, ↓qbW, ↓qbX, ↓qaf, ↓qae, ↓qag, ↓qaP, ↓qaO, ↓qaK, ↓qaJ, ↓qaL, ↓qaM, ↓qaN, ↓qaZ, ↓qbU, ↓qbH, ↓qbI, ↓qbJ, ↓qbK, ↓qcf, ↓qcg, ↓qch, ↓qci, ↓qa1, ↓qa3, ↓qa0, ↓qa2, ↓qar, ↓qaA, ↓qaw, ↓qav, ↓qau, ↓qay, ↓qaz, ↓qas, ↓qax, ↓qaB, ↓qat, ↓qcV, ↓qcU, ↓qaQ, ↓qaW, ↓qaV, ↓qaU, ↓qcF, ↓qcC, ↓qcz, ↓qcG, ↓qcA, ↓qcD, ↓qcE, ↓qcH, ↓qcB, ↓qb5, ↓qb3, ↓qb2, ↓qb1, ↓qbZ, ↓qbY, ↓qb0, ↓qcx, ↓qcv, ↓qcw, ↓qcu, ↓qcy, ↓qb9, ↓qcb, ↓qb6, ↓qce, ↓qcc, ↓qb8, ↓qca, ↓qcd, ↓qb7, ↓qaY, ↓qan, ↓qai, ↓qaj, ↓qam, ↓qak, ↓qal, ↓qct, ↓qcs, ↓qcr, ↓qaq, ↓qao, ↓qap, ↓qbv, ↓qah, ↓qbS, ↓qbC, ↓qaD, ↓qaC, ↓qbx, ↓qbw, ↓qcW, ↓qbT, ↓qbM, ↓qbN, ↓qbL, ↓qbD, ↓qbE, ↓qbO, qad, qbB, qbA, qbz, ↓qck, ↓qcj, ↓qcm, ↓qcl, qbV, ↓qbQ, ↓qbP, ↓qbR, qby, qcI, qcJ, qaI, behindInMarks, lastMarks, Option.map_some, List.contains_cons, List.map_cons, List.map_nil, String.reduceBEq, String.reduceEq, Bool.and_true, Bool.true_and, Bool.and_false, Bool.false_and, Bool.or_true, Bool.true_or, Bool.or_false, Bool.false_or, Bool.not_true, Bool.not_false, and_true, true_and, exists_eq_left', exists_eq_left, beq_self_eq_true, List.length_cons, List.length_nil, Nat.reduceAdd, Nat.zero_add, Nat.reduceLeDiff, decide_true, decide_false, if_false, if_true, reduceCtorEq, N13, ↓U13, ↓itemW_row hi hi' hr, ↓itemW_row hj0 (by omega) hq]
  refine ⟨(c_is_memory hS hp r).isFn, useC_of ((c_is_memory hS hp r).le (by decide)) ?_⟩
  simp (maxSteps := 1000000) (dsimp := false) only [↓qaG, ↓qaH, ↓qcp, ↓qco, ↓qcn, ↓qcq, ↓qa4, ↓qbG, ↓qbF, ↓qaa, ↓qac, ↓qab, ↓qba, ↓qbe, ↓qa6, ↓qbi, ↓qa5, ↓qbf, ↓qbb, ↓qa9, ↓qbh, ↓qbd, ↓qbg, ↓qcL, ↓qcK, ↓qcM, ↓qb4, ↓qbk, ↓qbj, ↓qaF, ↓qaE, ↓qcN, ↓qcO, ↓qa8, ↓qa7, ↓qbc, ↓qcT, ↓qcP, ↓qcR, ↓qcS, ↓qcQ, ↓qbl, ↓qbt, ↓qbs, ↓qbm, ↓qbo, ↓qbq, ↓qbu, ↓qbp, ↓qbr, ↓qbn, ↓qbW, ↓qbX, ↓qaf, ↓qae, ↓qag, ↓qaP, ↓qaO, ↓qaK, ↓qaJ, ↓qaL, ↓qaM, ↓qaN, ↓qaZ, ↓qbU, ↓qbH, ↓qbI, ↓qbJ, ↓qbK, ↓qcf, ↓qcg, ↓qch, ↓qci, ↓qa1, ↓qa3, ↓qa0, ↓qa2, ↓qar, ↓qaA, ↓qaw, ↓qav, ↓qau, ↓qay, ↓qaz, ↓qas, ↓qax, ↓qaB, ↓qat, ↓qcV, ↓qcU, ↓qaQ, ↓qaW, ↓qaV, ↓qaU, ↓qcF, ↓qcC, ↓qcz, ↓qcG, ↓qcA, ↓qcD, ↓qcE, ↓qcH, ↓qcB, ↓qb5, ↓qb3, ↓qb2, ↓qb1, ↓qbZ, ↓qbY, ↓qb0, ↓qcx, ↓qcv, ↓qcw, ↓qcu, ↓qcy, ↓qb9, ↓qcb, ↓qb6, ↓qce, ↓qcc, ↓qb8, ↓qca, ↓qcd, ↓qb7, ↓qaY, ↓qan, ↓qai, ↓qaj, ↓qam, ↓qak, ↓qal, ↓qct, ↓qcs, ↓qcr, ↓qaq, ↓qao, ↓qap, ↓qbv, ↓qah, ↓qbS, ↓qbC, ↓qaD, ↓qaC, ↓qbx, ↓qbw, ↓qcW, ↓qbT, ↓qbM, ↓qbN, ↓qbL, ↓qbD, ↓qbE, ↓qbO, qad, qbB, qbA, qbz, ↓qck, ↓qcj, ↓qcm, ↓qcl, qbV, ↓qbQ, ↓qbP, ↓qbR, qby, qcI, qcJ, qaI, behindInMarks, lastMarks, Option.map_some, List.contains_cons, List.map_cons, List.map_nil, String.reduceBEq, String.reduceEq, Bool.and_true, Bool.true_and, Bool.and_false, Bool.false_and, Bool.or_true, Bool.true_or, Bool.or_false, Bool.false_or, Bool.not_true, Bool.not_false, and_true, true_and, exists_eq_left', exists_eq_left, beq_self_eq_true, List.length_cons, List.length_nil, Nat.reduceAdd, Nat.zero_add, Nat.reduceLeDiff, decide_true, decide_false, if_false, if_true, reduceCtorEq, N13, ↓U13]
  refine iteB_of (fun h1 => ?_) (fun h1 => ?_)
  · simp (maxSteps := 1000000) (dsimp := false) only [↓qaG, ↓qaH, ↓qcp, ↓qco, ↓qcn, ↓qcq, ↓qa4, ↓qbG, ↓qbF, ↓qaa, ↓qac, ↓qab, ↓qba, ↓qbe, ↓qa6, ↓qbi, ↓qa5, ↓qbf, ↓qbb, ↓qa9, ↓qbh, ↓qbd, ↓qbg, ↓qcL, ↓qcK, ↓qcM, ↓qb4, ↓qbk, ↓qbj, ↓qaF, ↓qaE, ↓qcN, ↓qcO, ↓qa8, ↓qa7, ↓qbc, ↓qcT, ↓qcP, ↓qcR, ↓qcS, ↓qcQ, ↓qbl, ↓qbt, ↓qbs, ↓qbm, ↓qbo, ↓qbq, ↓qbu, ↓qbp, ↓qbr, ↓qbn, ↓qbW, ↓qbX, ↓qaf, ↓qae, ↓qag, ↓qaP, ↓qaO, ↓qaK, ↓qaJ, ↓qaL, ↓qaM, ↓qaN, ↓qaZ, ↓qbU, ↓qbH, ↓qbI, ↓qbJ, ↓qbK, ↓qcf, ↓qcg, ↓qch, ↓qci, ↓qa1, ↓qa3, ↓qa0, ↓qa2, ↓qar, ↓qaA, ↓qaw, ↓qav, ↓qau, ↓qay, ↓qaz, ↓qas, ↓qax, ↓qaB, ↓qat, ↓qcV, ↓qcU, ↓qaQ, ↓qaW, ↓qaV, ↓qaU, ↓qcF, ↓qcC, ↓qcz, ↓qcG, ↓qcA, ↓qcD, ↓qcE, ↓qcH, ↓qcB, ↓qb5, ↓qb3, ↓qb2, ↓qb1, ↓qbZ, ↓qbY, ↓qb0, ↓qcx, ↓qcv, ↓qcw, ↓qcu, ↓qcy, ↓qb9, ↓qcb, ↓qb6, ↓qce, ↓qcc, ↓qb8, ↓qca, ↓qcd, ↓qb7, ↓qaY, ↓qan, ↓qai, ↓qaj, ↓qam, ↓qak, ↓qal, ↓qct, ↓qcs, ↓qcr, ↓qaq, ↓qao, ↓qap, ↓qbv, ↓qah, ↓qbS, ↓qbC, ↓qaD, ↓qaC, ↓qbx, ↓qbw, ↓qcW, ↓qbT, ↓qbM, ↓qbN, ↓qbL, ↓qbD, ↓qbE, ↓qbO, qad, qbB, qbA, qbz, ↓qck, ↓qcj, ↓qcm, ↓qcl, qbV, ↓qbQ, ↓qbP, ↓qbR, qby, qcI, qcJ, qaI, behindInMarks, lastMarks, Option.map_some, List.contains_cons, List.map_cons, List.map_nil, String.reduceBEq, String.reduceEq, Bool.and_true, Bool.true_and, Bool.and_false, Bool.false_and, Bool.or_true, Bool.true_or, Bool.or_false, Bool.false_or, Bool.not_true, Bool.not_false, and_true, true_and, exists_eq_left', exists_eq_left, beq_self_eq_true, List.length_cons, List.length_nil, Nat.reduceAdd, Nat.zero_add, Nat.reduceLeDiff, decide_true, decide_false, if_false, if_true, reduceCtorEq, N13, ↓U13]
    exact bo (by unfold memM; rw [show r.op.isMem = false by simpa using h1]; rfl)
  · have h1' : r.op.isMem = true := by simpa using h1
    simp (maxSteps := 1000000) (dsimp := false) only [↓qaG, ↓qaH, ↓qcp, ↓qco, ↓qcn, ↓qcq, ↓qa4, ↓qbG, ↓qbF, ↓qaa, ↓qac, ↓qab, ↓qba, ↓qbe, ↓qa6, ↓qbi, ↓qa5, ↓qbf, ↓qbb, ↓qa9, ↓qbh, ↓qbd, ↓qbg, ↓qcL, ↓qcK, ↓qcM, ↓qb4, ↓qbk, ↓qbj, ↓qaF, ↓qaE, ↓qcN, ↓qcO, ↓qa8, ↓qa7, ↓qbc, ↓qcT, ↓qcP, ↓qcR, ↓qcS, ↓qcQ, ↓qbl, ↓qbt, ↓qbs, ↓qbm, ↓qbo, ↓qbq, ↓qbu, ↓qbp, ↓qbr, ↓qbn, ↓qbW, ↓qbX, ↓qaf, ↓qae, ↓qag, ↓qaP, ↓qaO, ↓qaK, ↓qaJ, ↓qaL, ↓qaM, ↓qaN, ↓qaZ, ↓qbU, ↓qbH, ↓qbI, ↓qbJ, ↓qbK, ↓qcf, ↓qcg, ↓qch, ↓qci, ↓qa1, ↓qa3, ↓qa0, ↓qa2, ↓qar, ↓qaA, ↓qaw, ↓qav, ↓qau, ↓qay, ↓qaz, ↓qas, ↓qax, ↓qaB, ↓qat, ↓qcV, ↓qcU, ↓qaQ, ↓qaW, ↓qaV, ↓qaU, ↓qcF, ↓qcC, ↓qcz, ↓qcG, ↓qcA, ↓qcD, ↓qcE, ↓qcH, ↓qcB, ↓qb5, ↓qb3, ↓qb2, ↓qb1, ↓qbZ, ↓qbY, ↓qb0, ↓qcx, ↓qcv, ↓qcw, ↓qcu, ↓qcy, ↓qb9, ↓qcb, ↓qb6, ↓qce, ↓qcc, ↓qb8, ↓qca, ↓qcd, ↓qb7, ↓qaY, ↓qan, ↓qai, ↓qaj, ↓qam, ↓qak, ↓qal, ↓qct, ↓qcs, ↓qcr, ↓qaq, ↓qao, ↓qap, ↓qbv, ↓qah, ↓qbS, ↓qbC, ↓qaD, ↓qaC, ↓qbx, ↓qbw, ↓qcW, ↓qbT, ↓qbM, ↓qbN, ↓qbL, ↓qbD, ↓qbE, ↓qbO, qad, qbB, qbA, qbz, ↓qck, ↓qcj, ↓qcm, ↓qcl, qbV, ↓qbQ, ↓qbP, ↓qbR, qby, qcI, qcJ, qaI, behindInMarks, lastMarks, Option.map_some, List.contains_cons, List.map_cons, List.map_nil, String.reduceBEq, String.reduceEq, Bool.and_true, Bool.true_and, Bool.and_false, Bool.false_and, Bool.or_true, Bool.true_or, Bool.or_false, Bool.false_or, Bool.not_true, Bool.not_false, and_true, true_and, exists_eq_left', exists_eq_left, beq_self_eq_true, List.length_cons, List.length_nil, Nat.reduceAdd, Nat.zero_add, Nat.reduceLeDiff, decide_true, decide_false, if_false, if_true, reduceCtorEq, N13, ↓U13]
    refine ⟨(c_is_memory hS hp q).isFn, useC_of ((c_is_memory hS hp q).le (by decide)) ?_⟩
    simp (maxSteps := 1000000) (dsimp := false) only [↓qaG, ↓qaH, ↓qcp, ↓qco, ↓qcn, ↓qcq, ↓qa4, ↓qbG, ↓qbF, ↓qaa, ↓qac, ↓qab, ↓qba, ↓qbe, ↓qa6, ↓qbi, ↓qa5, ↓qbf, ↓qbb, ↓qa9, ↓qbh, ↓qbd, ↓qbg, ↓qcL, ↓qcK, ↓qcM, ↓qb4, ↓qbk, ↓qbj, ↓qaF, ↓qaE, ↓qcN, ↓qcO, ↓qa8, ↓qa7, ↓qbc, ↓qcT, ↓qcP, ↓qcR, ↓qcS, ↓qcQ, ↓qbl, ↓qbt, ↓qbs, ↓qbm, ↓qbo, ↓qbq, ↓qbu, ↓qbp, ↓qbr, ↓qbn, ↓qbW, ↓qbX, ↓qaf, ↓qae, ↓qag, ↓qaP, ↓qaO, ↓qaK, ↓qaJ, ↓qaL, ↓qaM, ↓qaN, ↓qaZ, ↓qbU, ↓qbH, ↓qbI, ↓qbJ, ↓qbK, ↓qcf, ↓qcg, ↓qch, ↓qci, ↓qa1, ↓qa3, ↓qa0, ↓qa2, ↓qar, ↓qaA, ↓qaw, ↓qav, ↓qau, ↓qay, ↓qaz, ↓qas, ↓qax, ↓qaB, ↓qat, ↓qcV, ↓qcU, ↓qaQ, ↓qaW, ↓qaV, ↓qaU, ↓qcF, ↓qcC, ↓qcz, ↓qcG, ↓qcA, ↓qcD, ↓qcE, ↓qcH, ↓qcB, ↓qb5, ↓qb3, ↓qb2, ↓qb1, ↓qbZ, ↓qbY, ↓qb0, ↓qcx, ↓qcv, ↓qcw, ↓qcu, ↓qcy, ↓qb9, ↓qcb, ↓qb6, ↓qce, ↓qcc, ↓qb8, ↓qca, ↓qcd, ↓qb7, ↓qaY, ↓qan, ↓qai, ↓qaj, ↓qam, ↓qak, ↓qal, ↓qct, ↓qcs, ↓qcr, ↓qaq, ↓qao, ↓qap, ↓qbv, ↓qah, ↓qbS, ↓qbC, ↓qaD, ↓qaC, ↓qbx, ↓qbw, ↓qcW, ↓qbT, ↓qbM, ↓qbN, ↓qbL, ↓qbD, ↓qbE, ↓qbO, qad, qbB, qbA, qbz, ↓qck, ↓qcj, ↓qcm, ↓qcl, qbV, ↓qbQ, ↓qbP, ↓qbR, qby, qcI, qcJ, qaI, behindInMarks, lastMarks, Option.map_some, List.contains_cons, List.map_cons, List.map_nil, String.reduceBEq, String.reduceEq, Bool.and_true, Bool.true_and, Bool.and_false, Bool.false_and, Bool.or_true, Bool.true_or, Bool.or_false, Bool.false_or, Bool.not_true, Bool.not_false, and_true, true_and, exists_eq_left', exists_eq_left, beq_self_eq_true, List.length_cons, List.length_nil, Nat.reduceAdd, Nat.zero_add, Nat.reduceLeDiff, decide_true, decide_false, if_false, if_true, reduceCtorEq, N13, ↓U13]
    refine iteB_of (fun h2 => ?_) (fun h2 => ?_)
    · simp (maxSteps := 1000000) (dsimp := false) only [↓qaG, ↓qaH, ↓qcp, ↓qco, ↓qcn, ↓qcq, ↓qa4, ↓qbG, ↓qbF, ↓qaa, ↓qac, ↓qab, ↓qba, ↓qbe, ↓qa6, ↓qbi, ↓qa5, ↓qbf, ↓qbb, ↓qa9, ↓qbh, ↓qbd, ↓qbg, ↓qcL, ↓qcK, ↓qcM, ↓qb4, ↓qbk, ↓qbj, ↓qaF, ↓qaE, ↓qcN, ↓qcO, ↓qa8, ↓qa7, ↓qbc, ↓qcT, ↓qcP, ↓qcR, ↓qcS, ↓qcQ, ↓qbl, ↓qbt, ↓qbs, ↓qbm, ↓qbo, ↓qbq, ↓qbu, ↓qbp, ↓qbr, ↓qbn, ↓qbW, ↓qbX, ↓qaf, ↓qae, ↓qag, ↓qaP, ↓qaO, ↓qaK, ↓qaJ, ↓qaL, ↓qaM, ↓qaN, ↓qaZ, ↓qbU, ↓qbH, ↓qbI, ↓qbJ, ↓qbK, ↓qcf, ↓qcg, ↓qch, ↓qci, ↓qa1, ↓qa3, ↓qa0, ↓qa2, ↓qar, ↓qaA, ↓qaw, ↓qav, ↓qau, ↓qay, ↓qaz, ↓qas, ↓qax, ↓qaB, ↓qat, ↓qcV, ↓qcU, ↓qaQ, ↓qaW, ↓qaV, ↓qaU, ↓qcF, ↓qcC, ↓qcz, ↓qcG, ↓qcA, ↓qcD, ↓qcE, ↓qcH, ↓qcB, ↓qb5, ↓qb3, ↓qb2, ↓qb1, ↓qbZ, ↓qbY, ↓qb0, ↓qcx, ↓qcv, ↓qcw, ↓qcu, ↓qcy, ↓qb9, ↓qcb, ↓qb6, ↓qce, ↓qcc, ↓qb8, ↓qca, ↓qcd, ↓qb7, ↓qaY, ↓qan, ↓qai, ↓qaj, ↓qam, ↓qak, ↓qal, ↓qct, ↓qcs, ↓qcr, ↓qaq, ↓qao, ↓qap, ↓qbv, ↓qah, ↓qbS, ↓qbC, ↓qaD, ↓qaC, ↓qbx, ↓qbw, ↓qcW, ↓qbT, ↓qbM, ↓qbN, ↓qbL, ↓qbD, ↓qbE, ↓qbO, qad, qbB, qbA, qbz, ↓qck, ↓qcj, ↓qcm, ↓qcl, qbV, ↓qbQ, ↓qbP, ↓qbR, qby, qcI, qcJ, qaI, behindInMarks, lastMarks, Option.map_some, List.contains_cons, List.map_cons, List.map_nil, String.reduceBEq, String.reduceEq, Bool.and_true, Bool.true_and, Bool.and_false, Bool.false_and, Bool.or_true, Bool.true_or, Bool.or_false, Bool.false_or, Bool.not_true, Bool.not_false, and_true, true_and, exists_eq_left', exists_eq_left, beq_self_eq_true, List.length_cons, List.length_nil, Nat.reduceAdd, Nat.zero_add, Nat.reduceLeDiff, decide_true, decide_false, if_false, if_true, reduceCtorEq, N13, ↓U13]
      exact bo (by unfold memM; rw [show q.op.isMem = false by simpa using h2, h1']; rfl)
    · have h2' : q.op.isMem = true := by simpa using h2
      have hb := vr.mb h1'
      have hb' := vr.b1
      simp (maxSteps := 1000000) (dsimp := false) only [↓qaG, ↓qaH, ↓qcp, ↓qco, ↓qcn, ↓qcq, ↓qa4, ↓qbG, ↓qbF, ↓qaa, ↓qac, ↓qab, ↓qba, ↓qbe, ↓qa6, ↓qbi, ↓qa5, ↓qbf, ↓qbb, ↓qa9, ↓qbh, ↓qbd, ↓qbg, ↓qcL, ↓qcK, ↓qcM, ↓qb4, ↓qbk, ↓qbj, ↓qaF, ↓qaE, ↓qcN, ↓qcO, ↓qa8, ↓qa7, ↓qbc, ↓qcT, ↓qcP, ↓qcR, ↓qcS, ↓qcQ, ↓qbl, ↓qbt, ↓qbs, ↓qbm, ↓qbo, ↓qbq, ↓qbu, ↓qbp, ↓qbr, ↓qbn, ↓qbW, ↓qbX, ↓qaf, ↓qae, ↓qag, ↓qaP, ↓qaO, ↓qaK, ↓qaJ, ↓qaL, ↓qaM, ↓qaN, ↓qaZ, ↓qbU, ↓qbH, ↓qbI, ↓qbJ, ↓qbK, ↓qcf, ↓qcg, ↓qch, ↓qci, ↓qa1, ↓qa3, ↓qa0, ↓qa2, ↓qar, ↓qaA, ↓qaw, ↓qav, ↓qau, ↓qay, ↓qaz, ↓qas, ↓qax, ↓qaB, ↓qat, ↓qcV, ↓qcU, ↓qaQ, ↓qaW, ↓qaV, ↓qaU, ↓qcF, ↓qcC, ↓qcz, ↓qcG, ↓qcA, ↓qcD, ↓qcE, ↓qcH, ↓qcB, ↓qb5, ↓qb3, ↓qb2, ↓qb1, ↓qbZ, ↓qbY, ↓qb0, ↓qcx, ↓qcv, ↓qcw, ↓qcu, ↓qcy, ↓qb9, ↓qcb, ↓qb6, ↓qce, ↓qcc, ↓qb8, ↓qca, ↓qcd, ↓qb7, ↓qaY, ↓qan, ↓qai, ↓qaj, ↓qam, ↓qak, ↓qal, ↓qct, ↓qcs, ↓qcr, ↓qaq, ↓qao, ↓qap, ↓qbv, ↓qah, ↓qbS, ↓qbC, ↓qaD, ↓qaC, ↓qbx, ↓qbw, ↓qcW, ↓qbT, ↓qbM, ↓qbN, ↓qbL, ↓qbD, ↓qbE, ↓qbO, qad, qbB, qbA, qbz, ↓qck, ↓qcj, ↓qcm, ↓qcl, qbV, ↓qbQ, ↓qbP, ↓qbR, qby, qcI, qcJ, qaI, behindInMarks, lastMarks, Option.map_some, List.contains_cons, List.map_cons, List.map_nil, String.reduceBEq, String.reduceEq, Bool.and_true, Bool.true_and, Bool.and_false, Bool.false_and, Bool.or_true, Bool.true_or, Bool.or_false, Bool.false_or, Bool.not_true, Bool.not_false, and_true, true_and, exists_eq_left', exists_eq_left, beq_self_eq_true, List.length_cons, List.length_nil, Nat.reduceAdd, Nat.zero_add, Nat.reduceLeDiff, decide_true, decide_false, if_false, if_true, reduceCtorEq, N13, ↓U13]
      refine ⟨(c_is_load hS hp r).isFn, useC_of ((c_is_load hS hp r).le (by decide)) ?_⟩
      simp (maxSteps := 1000000) (dsimp := false) only [↓qaG, ↓qaH, ↓qcp, ↓qco, ↓qcn, ↓qcq, ↓qa4, ↓qbG, ↓qbF, ↓qaa, ↓qac, ↓qab, ↓qba, ↓qbe, ↓qa6, ↓qbi, ↓qa5, ↓qbf, ↓qbb, ↓qa9, ↓qbh, ↓qbd, ↓qbg, ↓qcL, ↓qcK, ↓qcM, ↓qb4, ↓qbk, ↓qbj, ↓qaF, ↓qaE, ↓qcN, ↓qcO, ↓qa8, ↓qa7, ↓qbc, ↓qcT, ↓qcP, ↓qcR, ↓qcS, ↓qcQ, ↓qbl, ↓qbt, ↓qbs, ↓qbm, ↓qbo, ↓qbq, ↓qbu, ↓qbp, ↓qbr, ↓qbn, ↓qbW, ↓qbX, ↓qaf, ↓qae, ↓qag, ↓qaP, ↓qaO, ↓qaK, ↓qaJ, ↓qaL, ↓qaM, ↓qaN, ↓qaZ, ↓qbU, ↓qbH, ↓qbI, ↓qbJ, ↓qbK, ↓qcf, ↓qcg, ↓qch, ↓qci, ↓qa1, ↓qa3, ↓qa0, ↓qa2, ↓qar, ↓qaA, ↓qaw, ↓qav, ↓qau, ↓qay, ↓qaz, ↓qas, ↓qax, ↓qaB, ↓qat, ↓qcV, ↓qcU, ↓qaQ, ↓qaW, ↓qaV, ↓qaU, ↓qcF, ↓qcC, ↓qcz, ↓qcG, ↓qcA, ↓qcD, ↓qcE, ↓qcH, ↓qcB, ↓qb5, ↓qb3, ↓qb2, ↓qb1, ↓qbZ, ↓qbY, ↓qb0, ↓qcx, ↓qcv, ↓qcw, ↓qcu, ↓qcy, ↓qb9, ↓qcb, ↓qb6, ↓qce, ↓qcc, ↓qb8, ↓qca, ↓qcd, ↓qb7, ↓qaY, ↓qan, ↓qai, ↓qaj, ↓qam, ↓qak, ↓qal, ↓qct, ↓qcs, ↓qcr, ↓qaq, ↓qao, ↓qap, ↓qbv, ↓qah, ↓qbS, ↓qbC, ↓qaD, ↓qaC, ↓qbx, ↓qbw, ↓qcW, ↓qbT, ↓qbM, ↓qbN, ↓qbL, ↓qbD, ↓qbE, ↓qbO, qad, qbB, qbA, qbz, ↓qck, ↓qcj, ↓qcm, ↓qcl, qbV, ↓qbQ, ↓qbP, ↓qbR, qby, qcI, qcJ, qaI, behindInMarks, lastMarks, Option.map_some, List.contains_cons, List.map_cons, List.map_nil, String.reduceBEq, String.reduceEq, Bool.and_true, Bool.true_and, Bool.and_false, Bool.false_and, Bool.or_true, Bool.true_or, Bool.or_false, Bool.false_or, Bool.not_true, Bool.not_false, and_true, true_and, exists_eq_left', exists_eq_left, beq_self_eq_true, List.length_cons, List.length_nil, Nat.reduceAdd, Nat.zero_add, Nat.reduceLeDiff, decide_true, decide_false, if_false, if_true, reduceCtorEq, N13, ↓U13]
      have rest : (r.op.isLd && q.op.isLd) = false → memM r q = (r.b != q.b || !apartB r q) := fun h => by unfold memM; rw [h1', h2', h]; rfl
      refine iteB_of (fun h3 => ?_) (fun h3 => ?_)
      · simp (maxSteps := 1000000) (dsimp := false) only [↓qaG, ↓qaH, ↓qcp, ↓qco, ↓qcn, ↓qcq, ↓qa4, ↓qbG, ↓qbF, ↓qaa, ↓qac, ↓qab, ↓qba, ↓qbe, ↓qa6, ↓qbi, ↓qa5, ↓qbf, ↓qbb, ↓qa9, ↓qbh, ↓qbd, ↓qbg, ↓qcL, ↓qcK, ↓qcM, ↓qb4, ↓qbk, ↓qbj, ↓qaF, ↓qaE, ↓qcN, ↓qcO, ↓qa8, ↓qa7, ↓qbc, ↓qcT, ↓qcP, ↓qcR, ↓qcS, ↓qcQ, ↓qbl, ↓qbt, ↓qbs, ↓qbm, ↓qbo, ↓qbq, ↓qbu, ↓qbp, ↓qbr, ↓qbn, ↓qbW, ↓qbX, ↓qaf, ↓qae, ↓qag, ↓qaP, ↓qaO, ↓qaK, ↓qaJ, ↓qaL, ↓qaM, ↓qaN, ↓qaZ, ↓qbU, ↓qbH, ↓qbI, ↓qbJ, ↓qbK, ↓qcf, ↓qcg, ↓qch, ↓qci, ↓qa1, ↓qa3, ↓qa0, ↓qa2, ↓qar, ↓qaA, ↓qaw, ↓qav, ↓qau, ↓qay, ↓qaz, ↓qas, ↓qax, ↓qaB, ↓qat, ↓qcV, ↓qcU, ↓qaQ, ↓qaW, ↓qaV, ↓qaU, ↓qcF, ↓qcC, ↓qcz, ↓qcG, ↓qcA, ↓qcD, ↓qcE, ↓qcH, ↓qcB, ↓qb5, ↓qb3, ↓qb2, ↓qb1, ↓qbZ, ↓qbY, ↓qb0, ↓qcx, ↓qcv, ↓qcw, ↓qcu, ↓qcy, ↓qb9, ↓qcb, ↓qb6, ↓qce, ↓qcc, ↓qb8, ↓qca, ↓qcd, ↓qb7, ↓qaY, ↓qan, ↓qai, ↓qaj, ↓qam, ↓qak, ↓qal, ↓qct, ↓qcs, ↓qcr, ↓qaq, ↓qao, ↓qap, ↓qbv, ↓qah, ↓qbS, ↓qbC, ↓qaD, ↓qaC, ↓qbx, ↓qbw, ↓qcW, ↓qbT, ↓qbM, ↓qbN, ↓qbL, ↓qbD, ↓qbE, ↓qbO, qad, qbB, qbA, qbz, ↓qck, ↓qcj, ↓qcm, ↓qcl, qbV, ↓qbQ, ↓qbP, ↓qbR, qby, qcI, qcJ, qaI, behindInMarks, lastMarks, Option.map_some, List.contains_cons, List.map_cons, List.map_nil, String.reduceBEq, String.reduceEq, Bool.and_true, Bool.true_and, Bool.and_false, Bool.false_and, Bool.or_true, Bool.true_or, Bool.or_false, Bool.false_or, Bool.not_true, Bool.not_false, and_true, true_and, exists_eq_left', exists_eq_left, beq_self_eq_true, List.length_cons, List.length_nil, Nat.reduceAdd, Nat.zero_add, Nat.reduceLeDiff, decide_true, decide_false, if_false, if_true, reduceCtorEq, N13, ↓U13]
        refine ⟨(c_is_load hS hp q).isFn, useC_of ((c_is_load hS hp q).le (by decide)) ?_⟩
        simp (maxSteps := 1000000) (dsimp := false) only [↓qaG, ↓qaH, ↓qcp, ↓qco, ↓qcn, ↓qcq, ↓qa4, ↓qbG, ↓qbF, ↓qaa, ↓qac, ↓qab, ↓qba, ↓qbe, ↓qa6, ↓qbi, ↓qa5, ↓qbf, ↓qbb, ↓qa9, ↓qbh, ↓qbd, ↓qbg, ↓qcL, ↓qcK, ↓qcM, ↓qb4, ↓qbk, ↓qbj, ↓qaF, ↓qaE, ↓qcN, ↓qcO, ↓qa8, ↓qa7, ↓qbc, ↓qcT, ↓qcP, ↓qcR, ↓qcS, ↓qcQ, ↓qbl, ↓qbt, ↓qbs, ↓qbm, ↓qbo, ↓qbq, ↓qbu, ↓qbp, ↓qbr, ↓qbn, ↓qbW, ↓qbX, ↓qaf, ↓qae, ↓qag, ↓qaP, ↓qaO, ↓qaK, ↓qaJ, ↓qaL, ↓qaM, ↓qaN, ↓qaZ, ↓qbU, ↓qbH, ↓qbI, ↓qbJ, ↓qbK, ↓qcf, ↓qcg, ↓qch, ↓qci, ↓qa1, ↓qa3, ↓qa0, ↓qa2, ↓qar, ↓qaA, ↓qaw, ↓qav, ↓qau, ↓qay, ↓qaz, ↓qas, ↓qax, ↓qaB, ↓qat, ↓qcV, ↓qcU, ↓qaQ, ↓qaW, ↓qaV, ↓qaU, ↓qcF, ↓qcC, ↓qcz, ↓qcG, ↓qcA, ↓qcD, ↓qcE, ↓qcH, ↓qcB, ↓qb5, ↓qb3, ↓qb2, ↓qb1, ↓qbZ, ↓qbY, ↓qb0, ↓qcx, ↓qcv, ↓qcw, ↓qcu, ↓qcy, ↓qb9, ↓qcb, ↓qb6, ↓qce, ↓qcc, ↓qb8, ↓qca, ↓qcd, ↓qb7, ↓qaY, ↓qan, ↓qai, ↓qaj, ↓qam, ↓qak, ↓qal, ↓qct, ↓qcs, ↓qcr, ↓qaq, ↓qao, ↓qap, ↓qbv, ↓qah, ↓qbS, ↓qbC, ↓qaD, ↓qaC, ↓qbx, ↓qbw, ↓qcW, ↓qbT, ↓qbM, ↓qbN, ↓qbL, ↓qbD, ↓qbE, ↓qbO, qad, qbB, qbA, qbz, ↓qck, ↓qcj, ↓qcm, ↓qcl, qbV, ↓qbQ, ↓qbP, ↓qbR, qby, qcI, qcJ, qaI, behindInMarks, lastMarks, Option.map_some, List.contains_cons, List.map_cons, List.map_nil, String.reduceBEq, String.reduceEq, Bool.and_true, Bool.true_and, Bool.and_false, Bool.false_and, Bool.or_true, Bool.true_or, Bool.or_false, Bool.false_or, Bool.not_true, Bool.not_false, and_true, true_and, exists_eq_left', exists_eq_left, beq_self_eq_true, List.length_cons, List.length_nil, Nat.reduceAdd, Nat.zero_add, Nat.reduceLeDiff, decide_true, decide_false, if_false, if_true, reduceCtorEq, N13, ↓U13]
        refine iteB_of (fun h4 => ?_) (fun h4 => ?_)
        · simp (maxSteps := 1000000) (dsimp := false) only [↓qaG, ↓qaH, ↓qcp, ↓qco, ↓qcn, ↓qcq, ↓qa4, ↓qbG, ↓qbF, ↓qaa, ↓qac, ↓qab, ↓qba, ↓qbe, ↓qa6, ↓qbi, ↓qa5, ↓qbf, ↓qbb, ↓qa9, ↓qbh, ↓qbd, ↓qbg, ↓qcL, ↓qcK, ↓qcM, ↓qb4, ↓qbk, ↓qbj, ↓qaF, ↓qaE, ↓qcN, ↓qcO, ↓qa8, ↓qa7, ↓qbc, ↓qcT, ↓qcP, ↓qcR, ↓qcS, ↓qcQ, ↓qbl, ↓qbt, ↓qbs, ↓qbm, ↓qbo, ↓qbq, ↓qbu, ↓qbp, ↓qbr, ↓qbn, ↓qbW, ↓qbX, ↓qaf, ↓qae, ↓qag, ↓qaP, ↓qaO, ↓qaK, ↓qaJ, ↓qaL, ↓qaM, ↓qaN, ↓qaZ, ↓qbU, ↓qbH, ↓qbI, ↓qbJ, ↓qbK, ↓qcf, ↓qcg, ↓qch, ↓qci, ↓qa1, ↓qa3, ↓qa0, ↓qa2, ↓qar, ↓qaA, ↓qaw, ↓qav, ↓qau, ↓qay, ↓qaz, ↓qas, ↓qax, ↓qaB, ↓qat, ↓qcV, ↓qcU, ↓qaQ, ↓qaW, ↓qaV, ↓qaU, ↓qcF, ↓qcC, ↓qcz, ↓qcG, ↓qcA, ↓qcD, ↓qcE, ↓qcH, ↓qcB, ↓qb5, ↓qb3, ↓qb2, ↓qb1, ↓qbZ, ↓qbY, ↓qb0, ↓qcx, ↓qcv, ↓qcw, ↓qcu, ↓qcy, ↓qb9, ↓qcb, ↓qb6, ↓qce, ↓qcc, ↓qb8, ↓qca, ↓qcd, ↓qb7, ↓qaY, ↓qan, ↓qai, ↓qaj, ↓qam, ↓qak, ↓qal, ↓qct, ↓qcs, ↓qcr, ↓qaq, ↓qao, ↓qap, ↓qbv, ↓qah, ↓qbS, ↓qbC, ↓qaD, ↓qaC, ↓qbx, ↓qbw, ↓qcW, ↓qbT, ↓qbM, ↓qbN, ↓qbL, ↓qbD, ↓qbE, ↓qbO, qad, qbB, qbA, qbz, ↓qck, ↓qcj, ↓qcm, ↓qcl, qbV, ↓qbQ, ↓qbP, ↓qbR, qby, qcI, qcJ, qaI, behindInMarks, lastMarks, Option.map_some, List.contains_cons, List.map_cons, List.map_nil, String.reduceBEq, String.reduceEq, Bool.and_true, Bool.true_and, Bool.and_false, Bool.false_and, Bool.or_true, Bool.true_or, Bool.or_false, Bool.false_or, Bool.not_true, Bool.not_false, and_true, true_and, exists_eq_left', exists_eq_left, beq_self_eq_true, List.length_cons, List.length_nil, Nat.reduceAdd, Nat.zero_add, Nat.reduceLeDiff, decide_true, decide_false, if_false, if_true, reduceCtorEq, N13, ↓U13]
          exact bo (by unfold memM; rw [h1', h2', h3, h4]; rfl)
        · simp (maxSteps := 1000000) (dsimp := false) only [↓qaG, ↓qaH, ↓qcp, ↓qco, ↓qcn, ↓qcq, ↓qa4, ↓qbG, ↓qbF, ↓qaa, ↓qac, ↓qab, ↓qba, ↓qbe, ↓qa6, ↓qbi, ↓qa5, ↓qbf, ↓qbb, ↓qa9, ↓qbh, ↓qbd, ↓qbg, ↓qcL, ↓qcK, ↓qcM, ↓qb4, ↓qbk, ↓qbj, ↓qaF, ↓qaE, ↓qcN, ↓qcO, ↓qa8, ↓qa7, ↓qbc, ↓qcT, ↓qcP, ↓qcR, ↓qcS, ↓qcQ, ↓qbl, ↓qbt, ↓qbs, ↓qbm, ↓qbo, ↓qbq, ↓qbu, ↓qbp, ↓qbr, ↓qbn, ↓qbW, ↓qbX, ↓qaf, ↓qae, ↓qag, ↓qaP, ↓qaO, ↓qaK, ↓qaJ, ↓qaL, ↓qaM, ↓qaN, ↓qaZ, ↓qbU, ↓qbH, ↓qbI, ↓qbJ, ↓qbK, ↓qcf, ↓qcg, ↓qch, ↓qci, ↓qa1, ↓qa3, ↓qa0, ↓qa2, ↓qar, ↓qaA, ↓qaw, ↓qav, ↓qau, ↓qay, ↓qaz, ↓qas, ↓qax, ↓qaB, ↓qat, ↓qcV, ↓qcU, ↓qaQ, ↓qaW, ↓qaV, ↓qaU, ↓qcF, ↓qcC, ↓qcz, ↓qcG, ↓qcA, ↓qcD, ↓qcE, ↓qcH, ↓qcB, ↓qb5, ↓qb3, ↓qb2, ↓qb1, ↓qbZ, ↓qbY, ↓qb0, ↓qcx, ↓qcv, ↓qcw, ↓qcu, ↓qcy, ↓qb9, ↓qcb, ↓qb6, ↓qce, ↓qcc, ↓qb8, ↓qca, ↓qcd, ↓qb7, ↓qaY, ↓qan, ↓qai, ↓qaj, ↓qam, ↓qak, ↓qal, ↓qct, ↓qcs, ↓qcr, ↓qaq, ↓qao, ↓qap, ↓qbv, ↓qah, ↓qbS, ↓qbC, ↓qaD, ↓qaC, ↓qbx, ↓qbw, ↓qcW, ↓qbT, ↓qbM, ↓qbN, ↓qbL, ↓qbD, ↓qbE, ↓qbO, qad, qbB, qbA, qbz, ↓qck, ↓qcj, ↓qcm, ↓qcl, qbV, ↓qbQ, ↓qbP, ↓qbR, qby, qcI, qcJ, qaI, behindInMarks, lastMarks, Option.map_some, List.contains_cons, List.map_cons, List.map_nil, String.reduceBEq, String.reduceEq, Bool.and_true, Bool.true_and, Bool.and_false, Bool.false_and, Bool.or_true, Bool.true_or, Bool.or_false, Bool.false_or, Bool.not_true, Bool.not_false, and_true, true_and, exists_eq_left', exists_eq_left, beq_self_eq_true, List.length_cons, List.length_nil, Nat.reduceAdd, Nat.zero_add, Nat.reduceLeDiff, decide_true, decide_false, if_false, if_true, reduceCtorEq, N13, ↓U13]
          refine iteB_of (fun h5 => ?_) (fun h5 => ?_)
          · simp (maxSteps := 1000000) (dsimp := false) only [↓qaG, ↓qaH, ↓qcp, ↓qco, ↓qcn, ↓qcq, ↓qa4, ↓qbG, ↓qbF, ↓qaa, ↓qac, ↓qab, ↓qba, ↓qbe, ↓qa6, ↓qbi, ↓qa5, ↓qbf, ↓qbb, ↓qa9, ↓qbh, ↓qbd, ↓qbg, ↓qcL, ↓qcK, ↓qcM, ↓qb4, ↓qbk, ↓qbj, ↓qaF, ↓qaE, ↓qcN, ↓qcO, ↓qa8, ↓qa7, ↓qbc, ↓qcT, ↓qcP, ↓qcR, ↓qcS, ↓qcQ, ↓qbl, ↓qbt, ↓qbs, ↓qbm, ↓qbo, ↓qbq, ↓qbu, ↓qbp, ↓qbr, ↓qbn, ↓qbW, ↓qbX, ↓qaf, ↓qae, ↓qag, ↓qaP, ↓qaO, ↓qaK, ↓qaJ, ↓qaL, ↓qaM, ↓qaN, ↓qaZ, ↓qbU, ↓qbH, ↓qbI, ↓qbJ, ↓qbK, ↓qcf, ↓qcg, ↓qch, ↓qci, ↓qa1, ↓qa3, ↓qa0, ↓qa2, ↓qar, ↓qaA, ↓qaw, ↓qav, ↓qau, ↓qay, ↓qaz, ↓qas, ↓qax, ↓qaB, ↓qat, ↓qcV, ↓qcU, ↓qaQ, ↓qaW, ↓qaV, ↓qaU, ↓qcF, ↓qcC, ↓qcz, ↓qcG, ↓qcA, ↓qcD, ↓qcE, ↓qcH, ↓qcB, ↓qb5, ↓qb3, ↓qb2, ↓qb1, ↓qbZ, ↓qbY, ↓qb0, ↓qcx, ↓qcv, ↓qcw, ↓qcu, ↓qcy, ↓qb9, ↓qcb, ↓qb6, ↓qce, ↓qcc, ↓qb8, ↓qca, ↓qcd, ↓qb7, ↓qaY, ↓qan, ↓qai, ↓qaj, ↓qam, ↓qak, ↓qal, ↓qct, ↓qcs, ↓qcr, ↓qaq, ↓qao, ↓qap, ↓qbv, ↓qah, ↓qbS, ↓qbC, ↓qaD, ↓qaC, ↓qbx, ↓qbw, ↓qcW, ↓qbT, ↓qbM, ↓qbN, ↓qbL, ↓qbD, ↓qbE, ↓qbO, qad, qbB, qbA, qbz, ↓qck, ↓qcj, ↓qcm, ↓qcl, qbV, ↓qbQ, ↓qbP, ↓qbR, qby, qcI, qcJ, qaI, behindInMarks, lastMarks, Option.map_some, List.contains_cons, List.map_cons, List.map_nil, String.reduceBEq, String.reduceEq, Bool.and_true, Bool.true_and, Bool.and_false, Bool.false_and, Bool.or_true, Bool.true_or, Bool.or_false, Bool.false_or, Bool.not_true, Bool.not_false, and_true, true_and, exists_eq_left', exists_eq_left, beq_self_eq_true, List.length_cons, List.length_nil, Nat.reduceAdd, Nat.zero_add, Nat.reduceLeDiff, decide_true, decide_false, if_false, if_true, reduceCtorEq, N13, ↓U13]
            exact bo (by rw [rest (by rw [h3, h4]; rfl), h5]; rfl)
          · simp (maxSteps := 1000000) (dsimp := false) only [↓qaG, ↓qaH, ↓qcp, ↓qco, ↓qcn, ↓qcq, ↓qa4, ↓qbG, ↓qbF, ↓qaa, ↓qac, ↓qab, ↓qba, ↓qbe, ↓qa6, ↓qbi, ↓qa5, ↓qbf, ↓qbb, ↓qa9, ↓qbh, ↓qbd, ↓qbg, ↓qcL, ↓qcK, ↓qcM, ↓qb4, ↓qbk, ↓qbj, ↓qaF, ↓qaE, ↓qcN, ↓qcO, ↓qa8, ↓qa7, ↓qbc, ↓qcT, ↓qcP, ↓qcR, ↓qcS, ↓qcQ, ↓qbl, ↓qbt, ↓qbs, ↓qbm, ↓qbo, ↓qbq, ↓qbu, ↓qbp, ↓qbr, ↓qbn, ↓qbW, ↓qbX, ↓qaf, ↓qae, ↓qag, ↓qaP, ↓qaO, ↓qaK, ↓qaJ, ↓qaL, ↓qaM, ↓qaN, ↓qaZ, ↓qbU, ↓qbH, ↓qbI, ↓qbJ, ↓qbK, ↓qcf, ↓qcg, ↓qch, ↓qci, ↓qa1, ↓qa3, ↓qa0, ↓qa2, ↓qar, ↓qaA, ↓qaw, ↓qav, ↓qau, ↓qay, ↓qaz, ↓qas, ↓qax, ↓qaB, ↓qat, ↓qcV, ↓qcU, ↓qaQ, ↓qaW, ↓qaV, ↓qaU, ↓qcF, ↓qcC, ↓qcz, ↓qcG, ↓qcA, ↓qcD, ↓qcE, ↓qcH, ↓qcB, ↓qb5, ↓qb3, ↓qb2, ↓qb1, ↓qbZ, ↓qbY, ↓qb0, ↓qcx, ↓qcv, ↓qcw, ↓qcu, ↓qcy, ↓qb9, ↓qcb, ↓qb6, ↓qce, ↓qcc, ↓qb8, ↓qca, ↓qcd, ↓qb7, ↓qaY, ↓qan, ↓qai, ↓qaj, ↓qam, ↓qak, ↓qal, ↓qct, ↓qcs, ↓qcr, ↓qaq, ↓qao, ↓qap, ↓qbv, ↓qah, ↓qbS, ↓qbC, ↓qaD, ↓qaC, ↓qbx, ↓qbw, ↓qcW, ↓qbT, ↓qbM, ↓qbN, ↓qbL, ↓qbD, ↓qbE, ↓qbO, qad, qbB, qbA, qbz, ↓qck, ↓qcj, ↓qcm, ↓qcl, qbV, ↓qbQ, ↓qbP, ↓qbR, qby, qcI, qcJ, qaI, behindInMarks, lastMarks, Option.map_some, List.contains_cons, List.map_cons, List.map_nil, String.reduceBEq, String.reduceEq, Bool.and_true, Bool.true_and, Bool.and_false, Bool.false_and, Bool.or_true, Bool.true_or, Bool.or_false, Bool.false_or, Bool.not_true, Bool.not_false, and_true, true_and, exists_eq_left', exists_eq_left, beq_self_eq_true, List.length_cons, List.length_nil, Nat.reduceAdd, Nat.zero_add, Nat.reduceLeDiff, decide_true, decide_false, if_false, if_true, reduceCtorEq, N13, ↓U13]
            refine ⟨(c_is_changed hS hp rs hv hn r.b i j hb (by omega) hi hi' hj0 (by omega)).isFn, useC_of ((c_is_changed hS hp rs hv hn r.b i j hb (by omega) hi hi' hj0 (by omega)).le (by decide)) ?_⟩
            simp (maxSteps := 1000000) (dsimp := false) only [↓qaG, ↓qaH, ↓qcp, ↓qco, ↓qcn, ↓qcq, ↓qa4, ↓qbG, ↓qbF, ↓qaa, ↓qac, ↓qab, ↓qba, ↓qbe, ↓qa6, ↓qbi, ↓qa5, ↓qbf, ↓qbb, ↓qa9, ↓qbh, ↓qbd, ↓qbg, ↓qcL, ↓qcK, ↓qcM, ↓qb4, ↓qbk, ↓qbj, ↓qaF, ↓qaE, ↓qcN, ↓qcO, ↓qa8, ↓qa7, ↓qbc, ↓qcT, ↓qcP, ↓qcR, ↓qcS, ↓qcQ, ↓qbl, ↓qbt, ↓qbs, ↓qbm, ↓qbo, ↓qbq, ↓qbu, ↓qbp, ↓qbr, ↓qbn, ↓qbW, ↓qbX, ↓qaf, ↓qae, ↓qag, ↓qaP, ↓qaO, ↓qaK, ↓qaJ, ↓qaL, ↓qaM, ↓qaN, ↓qaZ, ↓qbU, ↓qbH, ↓qbI, ↓qbJ, ↓qbK, ↓qcf, ↓qcg, ↓qch, ↓qci, ↓qa1, ↓qa3, ↓qa0, ↓qa2, ↓qar, ↓qaA, ↓qaw, ↓qav, ↓qau, ↓qay, ↓qaz, ↓qas, ↓qax, ↓qaB, ↓qat, ↓qcV, ↓qcU, ↓qaQ, ↓qaW, ↓qaV, ↓qaU, ↓qcF, ↓qcC, ↓qcz, ↓qcG, ↓qcA, ↓qcD, ↓qcE, ↓qcH, ↓qcB, ↓qb5, ↓qb3, ↓qb2, ↓qb1, ↓qbZ, ↓qbY, ↓qb0, ↓qcx, ↓qcv, ↓qcw, ↓qcu, ↓qcy, ↓qb9, ↓qcb, ↓qb6, ↓qce, ↓qcc, ↓qb8, ↓qca, ↓qcd, ↓qb7, ↓qaY, ↓qan, ↓qai, ↓qaj, ↓qam, ↓qak, ↓qal, ↓qct, ↓qcs, ↓qcr, ↓qaq, ↓qao, ↓qap, ↓qbv, ↓qah, ↓qbS, ↓qbC, ↓qaD, ↓qaC, ↓qbx, ↓qbw, ↓qcW, ↓qbT, ↓qbM, ↓qbN, ↓qbL, ↓qbD, ↓qbE, ↓qbO, qad, qbB, qbA, qbz, ↓qck, ↓qcj, ↓qcm, ↓qcl, qbV, ↓qbQ, ↓qbP, ↓qbR, qby, qcI, qcJ, qaI, behindInMarks, lastMarks, Option.map_some, List.contains_cons, List.map_cons, List.map_nil, String.reduceBEq, String.reduceEq, Bool.and_true, Bool.true_and, Bool.and_false, Bool.false_and, Bool.or_true, Bool.true_or, Bool.or_false, Bool.false_or, Bool.not_true, Bool.not_false, and_true, true_and, exists_eq_left', exists_eq_left, beq_self_eq_true, List.length_cons, List.length_nil, Nat.reduceAdd, Nat.zero_add, Nat.reduceLeDiff, decide_true, decide_false, if_false, if_true, reduceCtorEq, N13, ↓U13]
            refine ⟨(c_apart hS hp r q).isFn, useC_of ((c_apart hS hp r q).le (by decide)) ?_⟩
            simp (maxSteps := 1000000) (dsimp := false) only [↓qaG, ↓qaH, ↓qcp, ↓qco, ↓qcn, ↓qcq, ↓qa4, ↓qbG, ↓qbF, ↓qaa, ↓qac, ↓qab, ↓qba, ↓qbe, ↓qa6, ↓qbi, ↓qa5, ↓qbf, ↓qbb, ↓qa9, ↓qbh, ↓qbd, ↓qbg, ↓qcL, ↓qcK, ↓qcM, ↓qb4, ↓qbk, ↓qbj, ↓qaF, ↓qaE, ↓qcN, ↓qcO, ↓qa8, ↓qa7, ↓qbc, ↓qcT, ↓qcP, ↓qcR, ↓qcS, ↓qcQ, ↓qbl, ↓qbt, ↓qbs, ↓qbm, ↓qbo, ↓qbq, ↓qbu, ↓qbp, ↓qbr, ↓qbn, ↓qbW, ↓qbX, ↓qaf, ↓qae, ↓qag, ↓qaP, ↓qaO, ↓qaK, ↓qaJ, ↓qaL, ↓qaM, ↓qaN, ↓qaZ, ↓qbU, ↓qbH, ↓qbI, ↓qbJ, ↓qbK, ↓qcf, ↓qcg, ↓qch, ↓qci, ↓qa1, ↓qa3, ↓qa0, ↓qa2, ↓qar, ↓qaA, ↓qaw, ↓qav, ↓qau, ↓qay, ↓qaz, ↓qas, ↓qax, ↓qaB, ↓qat, ↓qcV, ↓qcU, ↓qaQ, ↓qaW, ↓qaV, ↓qaU, ↓qcF, ↓qcC, ↓qcz, ↓qcG, ↓qcA, ↓qcD, ↓qcE, ↓qcH, ↓qcB, ↓qb5, ↓qb3, ↓qb2, ↓qb1, ↓qbZ, ↓qbY, ↓qb0, ↓qcx, ↓qcv, ↓qcw, ↓qcu, ↓qcy, ↓qb9, ↓qcb, ↓qb6, ↓qce, ↓qcc, ↓qb8, ↓qca, ↓qcd, ↓qb7, ↓qaY, ↓qan, ↓qai, ↓qaj, ↓qam, ↓qak, ↓qal, ↓qct, ↓qcs, ↓qcr, ↓qaq, ↓qao, ↓qap, ↓qbv, ↓qah, ↓qbS, ↓qbC, ↓qaD, ↓qaC, ↓qbx, ↓qbw, ↓qcW, ↓qbT, ↓qbM, ↓qbN, ↓qbL, ↓qbD, ↓qbE, ↓qbO, qad, qbB, qbA, qbz, ↓qck, ↓qcj, ↓qcm, ↓qcl, qbV, ↓qbQ, ↓qbP, ↓qbR, qby, qcI, qcJ, qaI, behindInMarks, lastMarks, Option.map_some, List.contains_cons, List.map_cons, List.map_nil, String.reduceBEq, String.reduceEq, Bool.and_true, Bool.true_and, Bool.and_false, Bool.false_and, Bool.or_true, Bool.true_or, Bool.or_false, Bool.false_or, Bool.not_true, Bool.not_false, and_true, true_and, exists_eq_left', exists_eq_left, beq_self_eq_true, List.length_cons, List.length_nil, Nat.reduceAdd, Nat.zero_add, Nat.reduceLeDiff, decide_true, decide_false, if_false, if_true, reduceCtorEq, N13, ↓U13]
            exact bo (by rw [rest (by rw [h3, h4]; rfl), h5]; rfl)
      · simp (maxSteps := 1000000) (dsimp := false) only [↓qaG, ↓qaH, ↓qcp, ↓qco, ↓qcn, ↓qcq, ↓qa4, ↓qbG, ↓qbF, ↓qaa, ↓qac, ↓qab, ↓qba, ↓qbe, ↓qa6, ↓qbi, ↓qa5, ↓qbf, ↓qbb, ↓qa9, ↓qbh, ↓qbd, ↓qbg, ↓qcL, ↓qcK, ↓qcM, ↓qb4, ↓qbk, ↓qbj, ↓qaF, ↓qaE, ↓qcN, ↓qcO, ↓qa8, ↓qa7, ↓qbc, ↓qcT, ↓qcP, ↓qcR, ↓qcS, ↓qcQ, ↓qbl, ↓qbt, ↓qbs, ↓qbm, ↓qbo, ↓qbq, ↓qbu, ↓qbp, ↓qbr, ↓qbn, ↓qbW, ↓qbX, ↓qaf, ↓qae, ↓qag, ↓qaP, ↓qaO, ↓qaK, ↓qaJ, ↓qaL, ↓qaM, ↓qaN, ↓qaZ, ↓qbU, ↓qbH, ↓qbI, ↓qbJ, ↓qbK, ↓qcf, ↓qcg, ↓qch, ↓qci, ↓qa1, ↓qa3, ↓qa0, ↓qa2, ↓qar, ↓qaA, ↓qaw, ↓qav, ↓qau, ↓qay, ↓qaz, ↓qas, ↓qax, ↓qaB, ↓qat, ↓qcV, ↓qcU, ↓qaQ, ↓qaW, ↓qaV, ↓qaU, ↓qcF, ↓qcC, ↓qcz, ↓qcG, ↓qcA, ↓qcD, ↓qcE, ↓qcH, ↓qcB, ↓qb5, ↓qb3, ↓qb2, ↓qb1, ↓qbZ, ↓qbY, ↓qb0, ↓qcx, ↓qcv, ↓qcw, ↓qcu, ↓qcy, ↓qb9, ↓qcb, ↓qb6, ↓qce, ↓qcc, ↓qb8, ↓qca, ↓qcd, ↓qb7, ↓qaY, ↓qan, ↓qai, ↓qaj, ↓qam, ↓qak, ↓qal, ↓qct, ↓qcs, ↓qcr, ↓qaq, ↓qao, ↓qap, ↓qbv, ↓qah, ↓qbS, ↓qbC, ↓qaD, ↓qaC, ↓qbx, ↓qbw, ↓qcW, ↓qbT, ↓qbM, ↓qbN, ↓qbL, ↓qbD, ↓qbE, ↓qbO, qad, qbB, qbA, qbz, ↓qck, ↓qcj, ↓qcm, ↓qcl, qbV, ↓qbQ, ↓qbP, ↓qbR, qby, qcI, qcJ, qaI, behindInMarks, lastMarks, Option.map_some, List.contains_cons, List.map_cons, List.map_nil, String.reduceBEq, String.reduceEq, Bool.and_true, Bool.true_and, Bool.and_false, Bool.false_and, Bool.or_true, Bool.true_or, Bool.or_false, Bool.false_or, Bool.not_true, Bool.not_false, and_true, true_and, exists_eq_left', exists_eq_left, beq_self_eq_true, List.length_cons, List.length_nil, Nat.reduceAdd, Nat.zero_add, Nat.reduceLeDiff, decide_true, decide_false, if_false, if_true, reduceCtorEq, N13, ↓U13]
        refine iteB_of (fun h5 => ?_) (fun h5 => ?_)
        · simp (maxSteps := 1000000) (dsimp := false) only [↓qaG, ↓qaH, ↓qcp, ↓qco, ↓qcn, ↓qcq, ↓qa4, ↓qbG, ↓qbF, ↓qaa, ↓qac, ↓qab, ↓qba, ↓qbe, ↓qa6, ↓qbi, ↓qa5, ↓qbf, ↓qbb, ↓qa9, ↓qbh, ↓qbd, ↓qbg, ↓qcL, ↓qcK, ↓qcM, ↓qb4, ↓qbk, ↓qbj, ↓qaF, ↓qaE, ↓qcN, ↓qcO, ↓qa8, ↓qa7, ↓qbc, ↓qcT, ↓qcP, ↓qcR, ↓qcS, ↓qcQ, ↓qbl, ↓qbt, ↓qbs, ↓qbm, ↓qbo, ↓qbq, ↓qbu, ↓qbp, ↓qbr, ↓qbn, ↓qbW, ↓qbX, ↓qaf, ↓qae, ↓qag, ↓qaP, ↓qaO, ↓qaK, ↓qaJ, ↓qaL, ↓qaM, ↓qaN, ↓qaZ, ↓qbU, ↓qbH, ↓qbI, ↓qbJ, ↓qbK, ↓qcf, ↓qcg, ↓qch, ↓qci, ↓qa1, ↓qa3, ↓qa0, ↓qa2, ↓qar, ↓qaA, ↓qaw, ↓qav, ↓qau, ↓qay, ↓qaz, ↓qas, ↓qax, ↓qaB, ↓qat, ↓qcV, ↓qcU, ↓qaQ, ↓qaW, ↓qaV, ↓qaU, ↓qcF, ↓qcC, ↓qcz, ↓qcG, ↓qcA, ↓qcD, ↓qcE, ↓qcH, ↓qcB, ↓qb5, ↓qb3, ↓qb2, ↓qb1, ↓qbZ, ↓qbY, ↓qb0, ↓qcx, ↓qcv, ↓qcw, ↓qcu, ↓qcy, ↓qb9, ↓qcb, ↓qb6, ↓qce, ↓qcc, ↓qb8, ↓qca, ↓qcd, ↓qb7, ↓qaY, ↓qan, ↓qai, ↓qaj, ↓qam, ↓qak, ↓qal, ↓qct, ↓qcs, ↓qcr, ↓qaq, ↓qao, ↓qap, ↓qbv, ↓qah, ↓qbS, ↓qbC, ↓qaD, ↓qaC, ↓qbx, ↓qbw, ↓qcW, ↓qbT, ↓qbM, ↓qbN, ↓qbL, ↓qbD, ↓qbE, ↓qbO, qad, qbB, qbA, qbz, ↓qck, ↓qcj, ↓qcm, ↓qcl, qbV, ↓qbQ, ↓qbP, ↓qbR, qby, qcI, qcJ, qaI, behindInMarks, lastMarks, Option.map_some, List.contains_cons, List.map_cons, List.map_nil, String.reduceBEq, String.reduceEq, Bool.and_true, Bool.true_and, Bool.and_false, Bool.false_and, Bool.or_true, Bool.true_or, Bool.or_false, Bool.false_or, Bool.not_true, Bool.not_false, and_true, true_and, exists_eq_left', exists_eq_left, beq_self_eq_true, List.length_cons, List.length_nil, Nat.reduceAdd, Nat.zero_add, Nat.reduceLeDiff, decide_true, decide_false, if_false, if_true, reduceCtorEq, N13, ↓U13]
          exact bo (by rw [rest (by rw [h3]; rfl), h5]; rfl)
        · simp (maxSteps := 1000000) (dsimp := false) only [↓qaG, ↓qaH, ↓qcp, ↓qco, ↓qcn, ↓qcq, ↓qa4, ↓qbG, ↓qbF, ↓qaa, ↓qac, ↓qab, ↓qba, ↓qbe, ↓qa6, ↓qbi, ↓qa5, ↓qbf, ↓qbb, ↓qa9, ↓qbh, ↓qbd, ↓qbg, ↓qcL, ↓qcK, ↓qcM, ↓qb4, ↓qbk, ↓qbj, ↓qaF, ↓qaE, ↓qcN, ↓qcO, ↓qa8, ↓qa7, ↓qbc, ↓qcT, ↓qcP, ↓qcR, ↓qcS, ↓qcQ, ↓qbl, ↓qbt, ↓qbs, ↓qbm, ↓qbo, ↓qbq, ↓qbu, ↓qbp, ↓qbr, ↓qbn, ↓qbW, ↓qbX, ↓qaf, ↓qae, ↓qag, ↓qaP, ↓qaO, ↓qaK, ↓qaJ, ↓qaL, ↓qaM, ↓qaN, ↓qaZ, ↓qbU, ↓qbH, ↓qbI, ↓qbJ, ↓qbK, ↓qcf, ↓qcg, ↓qch, ↓qci, ↓qa1, ↓qa3, ↓qa0, ↓qa2, ↓qar, ↓qaA, ↓qaw, ↓qav, ↓qau, ↓qay, ↓qaz, ↓qas, ↓qax, ↓qaB, ↓qat, ↓qcV, ↓qcU, ↓qaQ, ↓qaW, ↓qaV, ↓qaU, ↓qcF, ↓qcC, ↓qcz, ↓qcG, ↓qcA, ↓qcD, ↓qcE, ↓qcH, ↓qcB, ↓qb5, ↓qb3, ↓qb2, ↓qb1, ↓qbZ, ↓qbY, ↓qb0, ↓qcx, ↓qcv, ↓qcw, ↓qcu, ↓qcy, ↓qb9, ↓qcb, ↓qb6, ↓qce, ↓qcc, ↓qb8, ↓qca, ↓qcd, ↓qb7, ↓qaY, ↓qan, ↓qai, ↓qaj, ↓qam, ↓qak, ↓qal, ↓qct, ↓qcs, ↓qcr, ↓qaq, ↓qao, ↓qap, ↓qbv, ↓qah, ↓qbS, ↓qbC, ↓qaD, ↓qaC, ↓qbx, ↓qbw, ↓qcW, ↓qbT, ↓qbM, ↓qbN, ↓qbL, ↓qbD, ↓qbE, ↓qbO, qad, qbB, qbA, qbz, ↓qck, ↓qcj, ↓qcm, ↓qcl, qbV, ↓qbQ, ↓qbP, ↓qbR, qby, qcI, qcJ, qaI, behindInMarks, lastMarks, Option.map_some, List.contains_cons, List.map_cons, List.map_nil, String.reduceBEq, String.reduceEq, Bool.and_true, Bool.true_and, Bool.and_false, Bool.false_and, Bool.or_true, Bool.true_or, Bool.or_false, Bool.false_or, Bool.not_true, Bool.not_false, and_true, true_and, exists_eq_left', exists_eq_left, beq_self_eq_true, List.length_cons, List.length_nil, Nat.reduceAdd, Nat.zero_add, Nat.reduceLeDiff, decide_true, decide_false, if_false, if_true, reduceCtorEq, N13, ↓U13]
          refine ⟨(c_is_changed hS hp rs hv hn r.b i j hb (by omega) hi hi' hj0 (by omega)).isFn, useC_of ((c_is_changed hS hp rs hv hn r.b i j hb (by omega) hi hi' hj0 (by omega)).le (by decide)) ?_⟩
          simp (maxSteps := 1000000) (dsimp := false) only [↓qaG, ↓qaH, ↓qcp, ↓qco, ↓qcn, ↓qcq, ↓qa4, ↓qbG, ↓qbF, ↓qaa, ↓qac, ↓qab, ↓qba, ↓qbe, ↓qa6, ↓qbi, ↓qa5, ↓qbf, ↓qbb, ↓qa9, ↓qbh, ↓qbd, ↓qbg, ↓qcL, ↓qcK, ↓qcM, ↓qb4, ↓qbk, ↓qbj, ↓qaF, ↓qaE, ↓qcN, ↓qcO, ↓qa8, ↓qa7, ↓qbc, ↓qcT, ↓qcP, ↓qcR, ↓qcS, ↓qcQ, ↓qbl, ↓qbt, ↓qbs, ↓qbm, ↓qbo, ↓qbq, ↓qbu, ↓qbp, ↓qbr, ↓qbn, ↓qbW, ↓qbX, ↓qaf, ↓qae, ↓qag, ↓qaP, ↓qaO, ↓qaK, ↓qaJ, ↓qaL, ↓qaM, ↓qaN, ↓qaZ, ↓qbU, ↓qbH, ↓qbI, ↓qbJ, ↓qbK, ↓qcf, ↓qcg, ↓qch, ↓qci, ↓qa1, ↓qa3, ↓qa0, ↓qa2, ↓qar, ↓qaA, ↓qaw, ↓qav, ↓qau, ↓qay, ↓qaz, ↓qas, ↓qax, ↓qaB, ↓qat, ↓qcV, ↓qcU, ↓qaQ, ↓qaW, ↓qaV, ↓qaU, ↓qcF, ↓qcC, ↓qcz, ↓qcG, ↓qcA, ↓qcD, ↓qcE, ↓qcH, ↓qcB, ↓qb5, ↓qb3, ↓qb2, ↓qb1, ↓qbZ, ↓qbY, ↓qb0, ↓qcx, ↓qcv, ↓qcw, ↓qcu, ↓qcy, ↓qb9, ↓qcb, ↓qb6, ↓qce, ↓qcc, ↓qb8, ↓qca, ↓qcd, ↓qb7, ↓qaY, ↓qan, ↓qai, ↓qaj, ↓qam, ↓qak, ↓qal, ↓qct, ↓qcs, ↓qcr, ↓qaq, ↓qao, ↓qap, ↓qbv, ↓qah, ↓qbS, ↓qbC, ↓qaD, ↓qaC, ↓qbx, ↓qbw, ↓qcW, ↓qbT, ↓qbM, ↓qbN, ↓qbL, ↓qbD, ↓qbE, ↓qbO, qad, qbB, qbA, qbz, ↓qck, ↓qcj, ↓qcm, ↓qcl, qbV, ↓qbQ, ↓qbP, ↓qbR, qby, qcI, qcJ, qaI, behindInMarks, lastMarks, Option.map_some, List.contains_cons, List.map_cons, List.map_nil, String.reduceBEq, String.reduceEq, Bool.and_true, Bool.true_and, Bool.and_false, Bool.false_and, Bool.or_true, Bool.true_or, Bool.or_false, Bool.false_or, Bool.not_true, Bool.not_false, and_true, true_and, exists_eq_left', exists_eq_left, beq_self_eq_true, List.length_cons, List.length_nil, Nat.reduceAdd, Nat.zero_add, Nat.reduceLeDiff, decide_true, decide_false, if_false, if_true, reduceCtorEq, N13, ↓U13]
          refine ⟨(c_apart hS hp r q).isFn, useC_of ((c_apart hS hp r q).le (by decide)) ?_⟩
          simp (maxSteps := 1000000) (dsimp := false) only [↓qaG, ↓qaH, ↓qcp, ↓qco, ↓qcn, ↓qcq, ↓qa4, ↓qbG, ↓qbF, ↓qaa, ↓qac, ↓qab, ↓qba, ↓qbe, ↓qa6, ↓qbi, ↓qa5, ↓qbf, ↓qbb, ↓qa9, ↓qbh, ↓qbd, ↓qbg, ↓qcL, ↓qcK, ↓qcM, ↓qb4, ↓qbk, ↓qbj, ↓qaF, ↓qaE, ↓qcN, ↓qcO, ↓qa8, ↓qa7, ↓qbc, ↓qcT, ↓qcP, ↓qcR, ↓qcS, ↓qcQ, ↓qbl, ↓qbt, ↓qbs, ↓qbm, ↓qbo, ↓qbq, ↓qbu, ↓qbp, ↓qbr, ↓qbn, ↓qbW, ↓qbX, ↓qaf, ↓qae, ↓qag, ↓qaP, ↓qaO, ↓qaK, ↓qaJ, ↓qaL, ↓qaM, ↓qaN, ↓qaZ, ↓qbU, ↓qbH, ↓qbI, ↓qbJ, ↓qbK, ↓qcf, ↓qcg, ↓qch, ↓qci, ↓qa1, ↓qa3, ↓qa0, ↓qa2, ↓qar, ↓qaA, ↓qaw, ↓qav, ↓qau, ↓qay, ↓qaz, ↓qas, ↓qax, ↓qaB, ↓qat, ↓qcV, ↓qcU, ↓qaQ, ↓qaW, ↓qaV, ↓qaU, ↓qcF, ↓qcC, ↓qcz, ↓qcG, ↓qcA, ↓qcD, ↓qcE, ↓qcH, ↓qcB, ↓qb5, ↓qb3, ↓qb2, ↓qb1, ↓qbZ, ↓qbY, ↓qb0, ↓qcx, ↓qcv, ↓qcw, ↓qcu, ↓qcy, ↓qb9, ↓qcb, ↓qb6, ↓qce, ↓qcc, ↓qb8, ↓qca, ↓qcd, ↓qb7, ↓qaY, ↓qan, ↓qai, ↓qaj, ↓qam, ↓qak, ↓qal, ↓qct, ↓qcs, ↓qcr, ↓qaq, ↓qao, ↓qap, ↓qbv, ↓qah, ↓qbS, ↓qbC, ↓qaD, ↓qaC, ↓qbx, ↓qbw, ↓qcW, ↓qbT, ↓qbM, ↓qbN, ↓qbL, ↓qbD, ↓qbE, ↓qbO, qad, qbB, qbA, qbz, ↓qck, ↓qcj, ↓qcm, ↓qcl, qbV, ↓qbQ, ↓qbP, ↓qbR, qby, qcI, qcJ, qaI, behindInMarks, lastMarks, Option.map_some, List.contains_cons, List.map_cons, List.map_nil, String.reduceBEq, String.reduceEq, Bool.and_true, Bool.true_and, Bool.and_false, Bool.false_and, Bool.or_true, Bool.true_or, Bool.or_false, Bool.false_or, Bool.not_true, Bool.not_false, and_true, true_and, exists_eq_left', exists_eq_left, beq_self_eq_true, List.length_cons, List.length_nil, Nat.reduceAdd, Nat.zero_add, Nat.reduceLeDiff, decide_true, decide_false, if_false, if_true, reduceCtorEq, N13, ↓U13]
          exact bo (by rw [rest (by rw [h3]; rfl), h5]; rfl)
end
def setF (r : Row) : Bool := Builtin.bitAnd ((wset r).fdiv (2 ^ Int.toNat 17)) 1 == 1
def lastN (rs : List Row) : Nat → Int
  | 0 => -1
  | n + 1 => match rs[n]? with
    | some r => bif setF r then (n : Int) else lastN rs n
    | none => lastN rs n
section
variable {cx : Cx} (hS : SortOk cx) (hp : cx.p = vw)
include hS hp
theorem c_last_setter (rs : List Row) (hv : ∀ r ∈ rs, VR r) (hn : rs.length < 100) : CallsTo cx 4 "last_setter" [rowsD rs] (.int (lastN rs rs.length)) := by
  refine fn_at2 hS hp 15 (own := []) (k := 3) (n := 8) (m := 6) (xs := [Str.ofString "rows"]) (ys := [Str.ofString "found", Str.ofString "place"]) (tb := tb15) rfl (by kernel_rfl) rfl rfl (fun _ _ _ vs h => ?_) rfl (by kernel_rfl) (by simp [qcJ]) rfl ?_
  · rcases vs with _ | ⟨v1, _ | ⟨w, ws⟩⟩ <;> first | rfl | simp at h
  simp (maxSteps := 1000000) (dsimp := false) only [↓qaG, ↓qaH, ↓qcp, ↓qco, ↓qcn, ↓qcq, ↓qa4, ↓qbG, ↓qbF, ↓qaa, ↓qac, ↓qab, ↓qba, ↓qbe, ↓qa6, ↓qbi, ↓qa5, ↓qbf, ↓qbb, ↓qa9, ↓qbh, ↓qbd, ↓qbg, ↓qcL, ↓qcK, ↓qcM, ↓qb4, ↓qbk, ↓qbj, ↓qaF, ↓qaE, ↓qcN, ↓qcO, ↓qa8, ↓qa7, ↓qbc, ↓qcT, ↓qcP, ↓qcR, ↓qcS, ↓qcQ, ↓qbl, ↓qbt, ↓qbs, ↓qbm, ↓qbo, ↓qbq, ↓qbu, ↓qbp, ↓qbr, ↓qbn, ↓qbW, ↓qbX, ↓qaf, ↓qae, ↓qag, ↓qaP, ↓qaO, ↓qaK, ↓qaJ, ↓qaL, ↓qaM, ↓qaN, ↓qaZ, ↓qbU, ↓qbH, ↓qbI, ↓qbJ, ↓qbK, ↓qcf, ↓qcg, ↓qch, ↓qci, ↓qa1, ↓qa3, ↓qa0, ↓qa2, ↓qar, ↓qaA, ↓qaw, ↓qav, ↓qau, ↓qay, ↓qaz, ↓qas, ↓qax, ↓qaB, ↓qat, ↓qcV, ↓qcU, ↓qaQ, ↓qaW, ↓qaV, ↓qaU, ↓qcF, ↓qcC, ↓qcz, ↓qcG, ↓qcA, ↓qcD, ↓qcE, ↓qcH, ↓qcB, ↓qb5, ↓qb3, ↓qb2, ↓qb1, ↓qbZ, ↓qbY, ↓qb0, ↓qcx, ↓qcv, ↓qcw, ↓qcu, ↓qcy, ↓qb9, ↓qcb, ↓qb6, ↓qce, ↓qcc, ↓qb8, ↓qca, ↓qcd, ↓qb7, ↓qaY, ↓qan, ↓qai, ↓qaj, ↓qam, ↓qak, ↓qal, ↓qct, ↓qcs, ↓qcr, ↓qaq, ↓qao, ↓qap, ↓qbv, ↓qah, ↓qbS, ↓qbC, ↓qaD, ↓qaC, ↓qbx, ↓qbw, ↓qcW, ↓qbT, ↓qbM, ↓qbN, ↓qbL, ↓qbD, ↓qbE, ↓qbO, qad, qbB, qbA, qbz, ↓qck, ↓qcj, ↓qcm, ↓qcl, qbV, ↓qbQ, ↓qbP, ↓qbR, qby, qcI, qcJ, qaI, behindInMarks, lastMarks, Option.map_some, List.contains_cons, List.map_cons, List.map_nil, String.reduceBEq, String.reduceEq, Bool.and_true, Bool.true_and, Bool.and_false, Bool.false_and, Bool.or_true, Bool.true_or, Bool.or_false, Bool.false_or, Bool.not_true, Bool.not_false, and_true, true_and, exists_eq_left', exists_eq_left, beq_self_eq_true, List.length_cons, List.length_nil, Nat.reduceAdd, Nat.zero_add, Nat.reduceLeDiff, decide_true, decide_false, if_false, if_true, reduceCtorEq, N15, ↓U15]
  refine forH_of (items := intsUp 0 rs.length) (own_none rfl) (fun K hK => ?_) (fun t τ => τ = (Z tb15 [Slot.val (rowsD rs), Slot.val (.int (lastN rs t))])) rfl (fun t d τ hd hτ => ?_) (fun τ hτ => ?_)
  · simp (maxSteps := 1000000) (dsimp := false) only [↓qaG, ↓qaH, ↓qcp, ↓qco, ↓qcn, ↓qcq, ↓qa4, ↓qbG, ↓qbF, ↓qaa, ↓qac, ↓qab, ↓qba, ↓qbe, ↓qa6, ↓qbi, ↓qa5, ↓qbf, ↓qbb, ↓qa9, ↓qbh, ↓qbd, ↓qbg, ↓qcL, ↓qcK, ↓qcM, ↓qb4, ↓qbk, ↓qbj, ↓qaF, ↓qaE, ↓qcN, ↓qcO, ↓qa8, ↓qa7, ↓qbc, ↓qcT, ↓qcP, ↓qcR, ↓qcS, ↓qcQ, ↓qbl, ↓qbt, ↓qbs, ↓qbm, ↓qbo, ↓qbq, ↓qbu, ↓qbp, ↓qbr, ↓qbn, ↓qbW, ↓qbX, ↓qaf, ↓qae, ↓qag, ↓qaP, ↓qaO, ↓qaK, ↓qaJ, ↓qaL, ↓qaM, ↓qaN, ↓qaZ, ↓qbU, ↓qbH, ↓qbI, ↓qbJ, ↓qbK, ↓qcf, ↓qcg, ↓qch, ↓qci, ↓qa1, ↓qa3, ↓qa0, ↓qa2, ↓qar, ↓qaA, ↓qaw, ↓qav, ↓qau, ↓qay, ↓qaz, ↓qas, ↓qax, ↓qaB, ↓qat, ↓qcV, ↓qcU, ↓qaQ, ↓qaW, ↓qaV, ↓qaU, ↓qcF, ↓qcC, ↓qcz, ↓qcG, ↓qcA, ↓qcD, ↓qcE, ↓qcH, ↓qcB, ↓qb5, ↓qb3, ↓qb2, ↓qb1, ↓qbZ, ↓qbY, ↓qb0, ↓qcx, ↓qcv, ↓qcw, ↓qcu, ↓qcy, ↓qb9, ↓qcb, ↓qb6, ↓qce, ↓qcc, ↓qb8, ↓qca, ↓qcd, ↓qb7, ↓qaY, ↓qan, ↓qai, ↓qaj, ↓qam, ↓qak, ↓qal, ↓qct, ↓qcs, ↓qcr, ↓qaq, ↓qao, ↓qap, ↓qbv, ↓qah, ↓qbS, ↓qbC, ↓qaD, ↓qaC, ↓qbx, ↓qbw, ↓qcW, ↓qbT, ↓qbM, ↓qbN, ↓qbL, ↓qbD, ↓qbE, ↓qbO, qad, qbB, qbA, qbz, ↓qck, ↓qcj, ↓qcm, ↓qcl, qbV, ↓qbQ, ↓qbP, ↓qbR, qby, qcI, qcJ, qaI, behindInMarks, lastMarks, Option.map_some, List.contains_cons, List.map_cons, List.map_nil, String.reduceBEq, String.reduceEq, Bool.and_true, Bool.true_and, Bool.and_false, Bool.false_and, Bool.or_true, Bool.true_or, Bool.or_false, Bool.false_or, Bool.not_true, Bool.not_false, and_true, true_and, exists_eq_left', exists_eq_left, beq_self_eq_true, List.length_cons, List.length_nil, Nat.reduceAdd, Nat.zero_add, Nat.reduceLeDiff, decide_true, decide_false, if_false, if_true, reduceCtorEq, N15, ↓U15, rowsD, List.length_map]
    exact ⟨by omega, by omega, by omega, hK⟩
  · obtain ⟨ht, rfl⟩ := intsUp_at hd
    subst hτ
    obtain ⟨r, hr, hm⟩ := row_at (rs := rs) (i := 0 + t) (by omega) (by omega)
    have vr := hv r hm
    have hr' : rs[t]? = some r := by simpa using hr
    simp (maxSteps := 1000000) (dsimp := false) only [↓qaG, ↓qaH, ↓qcp, ↓qco, ↓qcn, ↓qcq, ↓qa4, ↓qbG, ↓qbF, ↓qaa, ↓qac, ↓qab, ↓qba, ↓qbe, ↓qa6, ↓qbi, ↓qa5, ↓qbf, ↓qbb, ↓qa9, ↓qbh, ↓qbd, ↓qbg, ↓qcL, ↓qcK, ↓qcM, ↓qb4, ↓qbk, ↓qbj, ↓qaF, ↓qaE, ↓qcN, ↓qcO, ↓qa8, ↓qa7, ↓qbc, ↓qcT, ↓qcP, ↓qcR, ↓qcS, ↓qcQ, ↓qbl, ↓qbt, ↓qbs, ↓qbm, ↓qbo, ↓qbq, ↓qbu, ↓qbp, ↓qbr, ↓qbn, ↓qbW, ↓qbX, ↓qaf, ↓qae, ↓qag, ↓qaP, ↓qaO, ↓qaK, ↓qaJ, ↓qaL, ↓qaM, ↓qaN, ↓qaZ, ↓qbU, ↓qbH, ↓qbI, ↓qbJ, ↓qbK, ↓qcf, ↓qcg, ↓qch, ↓qci, ↓qa1, ↓qa3, ↓qa0, ↓qa2, ↓qar, ↓qaA, ↓qaw, ↓qav, ↓qau, ↓qay, ↓qaz, ↓qas, ↓qax, ↓qaB, ↓qat, ↓qcV, ↓qcU, ↓qaQ, ↓qaW, ↓qaV, ↓qaU, ↓qcF, ↓qcC, ↓qcz, ↓qcG, ↓qcA, ↓qcD, ↓qcE, ↓qcH, ↓qcB, ↓qb5, ↓qb3, ↓qb2, ↓qb1, ↓qbZ, ↓qbY, ↓qb0, ↓qcx, ↓qcv, ↓qcw, ↓qcu, ↓qcy, ↓qb9, ↓qcb, ↓qb6, ↓qce, ↓qcc, ↓qb8, ↓qca, ↓qcd, ↓qb7, ↓qaY, ↓qan, ↓qai, ↓qaj, ↓qam, ↓qak, ↓qal, ↓qct, ↓qcs, ↓qcr, ↓qaq, ↓qao, ↓qap, ↓qbv, ↓qah, ↓qbS, ↓qbC, ↓qaD, ↓qaC, ↓qbx, ↓qbw, ↓qcW, ↓qbT, ↓qbM, ↓qbN, ↓qbL, ↓qbD, ↓qbE, ↓qbO, qad, qbB, qbA, qbz, ↓qck, ↓qcj, ↓qcm, ↓qcl, qbV, ↓qbQ, ↓qbP, ↓qbR, qby, qcI, qcJ, qaI, behindInMarks, lastMarks, Option.map_some, List.contains_cons, List.map_cons, List.map_nil, String.reduceBEq, String.reduceEq, Bool.and_true, Bool.true_and, Bool.and_false, Bool.false_and, Bool.or_true, Bool.true_or, Bool.or_false, Bool.false_or, Bool.not_true, Bool.not_false, and_true, true_and, exists_eq_left', exists_eq_left, beq_self_eq_true, List.length_cons, List.length_nil, Nat.reduceAdd, Nat.zero_add, Nat.reduceLeDiff, decide_true, decide_false, if_false, if_true, reduceCtorEq, N15, ↓U15, ↓itemW_row (by omega) (by omega) hr]
    refine ⟨(c_write_set hS hp r vr).isFn, useC_of ((c_write_set hS hp r vr).le (by decide)) ?_⟩
    simp (maxSteps := 1000000) (dsimp := false) only [↓qaG, ↓qaH, ↓qcp, ↓qco, ↓qcn, ↓qcq, ↓qa4, ↓qbG, ↓qbF, ↓qaa, ↓qac, ↓qab, ↓qba, ↓qbe, ↓qa6, ↓qbi, ↓qa5, ↓qbf, ↓qbb, ↓qa9, ↓qbh, ↓qbd, ↓qbg, ↓qcL, ↓qcK, ↓qcM, ↓qb4, ↓qbk, ↓qbj, ↓qaF, ↓qaE, ↓qcN, ↓qcO, ↓qa8, ↓qa7, ↓qbc, ↓qcT, ↓qcP, ↓qcR, ↓qcS, ↓qcQ, ↓qbl, ↓qbt, ↓qbs, ↓qbm, ↓qbo, ↓qbq, ↓qbu, ↓qbp, ↓qbr, ↓qbn, ↓qbW, ↓qbX, ↓qaf, ↓qae, ↓qag, ↓qaP, ↓qaO, ↓qaK, ↓qaJ, ↓qaL, ↓qaM, ↓qaN, ↓qaZ, ↓qbU, ↓qbH, ↓qbI, ↓qbJ, ↓qbK, ↓qcf, ↓qcg, ↓qch, ↓qci, ↓qa1, ↓qa3, ↓qa0, ↓qa2, ↓qar, ↓qaA, ↓qaw, ↓qav, ↓qau, ↓qay, ↓qaz, ↓qas, ↓qax, ↓qaB, ↓qat, ↓qcV, ↓qcU, ↓qaQ, ↓qaW, ↓qaV, ↓qaU, ↓qcF, ↓qcC, ↓qcz, ↓qcG, ↓qcA, ↓qcD, ↓qcE, ↓qcH, ↓qcB, ↓qb5, ↓qb3, ↓qb2, ↓qb1, ↓qbZ, ↓qbY, ↓qb0, ↓qcx, ↓qcv, ↓qcw, ↓qcu, ↓qcy, ↓qb9, ↓qcb, ↓qb6, ↓qce, ↓qcc, ↓qb8, ↓qca, ↓qcd, ↓qb7, ↓qaY, ↓qan, ↓qai, ↓qaj, ↓qam, ↓qak, ↓qal, ↓qct, ↓qcs, ↓qcr, ↓qaq, ↓qao, ↓qap, ↓qbv, ↓qah, ↓qbS, ↓qbC, ↓qaD, ↓qaC, ↓qbx, ↓qbw, ↓qcW, ↓qbT, ↓qbM, ↓qbN, ↓qbL, ↓qbD, ↓qbE, ↓qbO, qad, qbB, qbA, qbz, ↓qck, ↓qcj, ↓qcm, ↓qcl, qbV, ↓qbQ, ↓qbP, ↓qbR, qby, qcI, qcJ, qaI, behindInMarks, lastMarks, Option.map_some, List.contains_cons, List.map_cons, List.map_nil, String.reduceBEq, String.reduceEq, Bool.and_true, Bool.true_and, Bool.and_false, Bool.false_and, Bool.or_true, Bool.true_or, Bool.or_false, Bool.false_or, Bool.not_true, Bool.not_false, and_true, true_and, exists_eq_left', exists_eq_left, beq_self_eq_true, List.length_cons, List.length_nil, Nat.reduceAdd, Nat.zero_add, Nat.reduceLeDiff, decide_true, decide_false, if_false, if_true, reduceCtorEq, N15, ↓U15]
    refine useG_of (g_flags hp) ?_
    simp (maxSteps := 1000000) (dsimp := false) only [↓qaG, ↓qaH, ↓qcp, ↓qco, ↓qcn, ↓qcq, ↓qa4, ↓qbG, ↓qbF, ↓qaa, ↓qac, ↓qab, ↓qba, ↓qbe, ↓qa6, ↓qbi, ↓qa5, ↓qbf, ↓qbb, ↓qa9, ↓qbh, ↓qbd, ↓qbg, ↓qcL, ↓qcK, ↓qcM, ↓qb4, ↓qbk, ↓qbj, ↓qaF, ↓qaE, ↓qcN, ↓qcO, ↓qa8, ↓qa7, ↓qbc, ↓qcT, ↓qcP, ↓qcR, ↓qcS, ↓qcQ, ↓qbl, ↓qbt, ↓qbs, ↓qbm, ↓qbo, ↓qbq, ↓qbu, ↓qbp, ↓qbr, ↓qbn, ↓qbW, ↓qbX, ↓qaf, ↓qae, ↓qag, ↓qaP, ↓qaO, ↓qaK, ↓qaJ, ↓qaL, ↓qaM, ↓qaN, ↓qaZ, ↓qbU, ↓qbH, ↓qbI, ↓qbJ, ↓qbK, ↓qcf, ↓qcg, ↓qch, ↓qci, ↓qa1, ↓qa3, ↓qa0, ↓qa2, ↓qar, ↓qaA, ↓qaw, ↓qav, ↓qau, ↓qay, ↓qaz, ↓qas, ↓qax, ↓qaB, ↓qat, ↓qcV, ↓qcU, ↓qaQ, ↓qaW, ↓qaV, ↓qaU, ↓qcF, ↓qcC, ↓qcz, ↓qcG, ↓qcA, ↓qcD, ↓qcE, ↓qcH, ↓qcB, ↓qb5, ↓qb3, ↓qb2, ↓qb1, ↓qbZ, ↓qbY, ↓qb0, ↓qcx, ↓qcv, ↓qcw, ↓qcu, ↓qcy, ↓qb9, ↓qcb, ↓qb6, ↓qce, ↓qcc, ↓qb8, ↓qca, ↓qcd, ↓qb7, ↓qaY, ↓qan, ↓qai, ↓qaj, ↓qam, ↓qak, ↓qal, ↓qct, ↓qcs, ↓qcr, ↓qaq, ↓qao, ↓qap, ↓qbv, ↓qah, ↓qbS, ↓qbC, ↓qaD, ↓qaC, ↓qbx, ↓qbw, ↓qcW, ↓qbT, ↓qbM, ↓qbN, ↓qbL, ↓qbD, ↓qbE, ↓qbO, qad, qbB, qbA, qbz, ↓qck, ↓qcj, ↓qcm, ↓qcl, qbV, ↓qbQ, ↓qbP, ↓qbR, qby, qcI, qcJ, qaI, behindInMarks, lastMarks, Option.map_some, List.contains_cons, List.map_cons, List.map_nil, String.reduceBEq, String.reduceEq, Bool.and_true, Bool.true_and, Bool.and_false, Bool.false_and, Bool.or_true, Bool.true_or, Bool.or_false, Bool.false_or, Bool.not_true, Bool.not_false, and_true, true_and, exists_eq_left', exists_eq_left, beq_self_eq_true, List.length_cons, List.length_nil, Nat.reduceAdd, Nat.zero_add, Nat.reduceLeDiff, decide_true, decide_false, if_false, if_true, reduceCtorEq, N15, ↓U15]
    refine ⟨by decide, iteB_of (fun h1 => ?_) (fun h1 => ?_)⟩
    · have e : (0 : Int) + (t : Int) = lastN rs (t + 1) := by
        have h1' : setF r = true := h1
        simp only [lastN, hr', h1', cond_true, Int.zero_add]
      simp (maxSteps := 1000000) (dsimp := false) only [↓qaG, ↓qaH, ↓qcp, ↓qco, ↓qcn, ↓qcq, ↓qa4, ↓qbG, ↓qbF, ↓qaa, ↓qac, ↓qab, ↓qba, ↓qbe, ↓qa6, ↓qbi, ↓qa5, ↓qbf, ↓qbb, ↓qa9, ↓qbh, ↓qbd, ↓qbg, ↓qcL, ↓qcK, ↓qcM, ↓qb4, ↓qbk, ↓qbj, ↓qaF, ↓qaE, ↓qcN, ↓qcO, ↓qa8, ↓qa7, ↓qbc, ↓qcT, ↓qcP, ↓qcR, ↓qcS, ↓qcQ, ↓qbl, ↓qbt, ↓qbs, ↓qbm, ↓qbo, ↓qbq, ↓qbu, ↓qbp, ↓qbr, ↓qbn, ↓qbW, ↓qbX, ↓qaf, ↓qae, ↓qag, ↓qaP, ↓qaO, ↓qaK, ↓qaJ, ↓qaL, ↓qaM, ↓qaN, ↓qaZ, ↓qbU, ↓qbH, ↓qbI, ↓qbJ, ↓qbK, ↓qcf, ↓qcg, ↓qch, ↓qci, ↓qa1, ↓qa3, ↓qa0, ↓qa2, ↓qar, ↓qaA, ↓qaw, ↓qav, ↓qau, ↓qay, ↓qaz, ↓qas, ↓qax, ↓qaB, ↓qat, ↓qcV, ↓qcU, ↓qaQ, ↓qaW, ↓qaV, ↓qaU, ↓qcF, ↓qcC, ↓qcz, ↓qcG, ↓qcA, ↓qcD, ↓qcE, ↓qcH, ↓qcB, ↓qb5, ↓qb3, ↓qb2, ↓qb1, ↓qbZ, ↓qbY, ↓qb0, ↓qcx, ↓qcv, ↓qcw, ↓qcu, ↓qcy, ↓qb9, ↓qcb, ↓qb6, ↓qce, ↓qcc, ↓qb8, ↓qca, ↓qcd, ↓qb7, ↓qaY, ↓qan, ↓qai, ↓qaj, ↓qam, ↓qak, ↓qal, ↓qct, ↓qcs, ↓qcr, ↓qaq, ↓qao, ↓qap, ↓qbv, ↓qah, ↓qbS, ↓qbC, ↓qaD, ↓qaC, ↓qbx, ↓qbw, ↓qcW, ↓qbT, ↓qbM, ↓qbN, ↓qbL, ↓qbD, ↓qbE, ↓qbO, qad, qbB, qbA, qbz, ↓qck, ↓qcj, ↓qcm, ↓qcl, qbV, ↓qbQ, ↓qbP, ↓qbR, qby, qcI, qcJ, qaI, behindInMarks, lastMarks, Option.map_some, List.contains_cons, List.map_cons, List.map_nil, String.reduceBEq, String.reduceEq, Bool.and_true, Bool.true_and, Bool.and_false, Bool.false_and, Bool.or_true, Bool.true_or, Bool.or_false, Bool.false_or, Bool.not_true, Bool.not_false, and_true, true_and, exists_eq_left', exists_eq_left, beq_self_eq_true, List.length_cons, List.length_nil, Nat.reduceAdd, Nat.zero_add, Nat.reduceLeDiff, decide_true, decide_false, if_false, if_true, reduceCtorEq, N15, ↓U15, e]
      (refine ⟨_, sub_Z ?_, rfl⟩; repeat (first | exact subV_n | refine subV_e ?_ | refine subV_d ?_))
    · have e : lastN rs t = lastN rs (t + 1) := by
        have h1' : setF r = false := h1
        simp only [lastN, hr', h1', cond_false]
      simp (maxSteps := 1000000) (dsimp := false) only [↓qaG, ↓qaH, ↓qcp, ↓qco, ↓qcn, ↓qcq, ↓qa4, ↓qbG, ↓qbF, ↓qaa, ↓qac, ↓qab, ↓qba, ↓qbe, ↓qa6, ↓qbi, ↓qa5, ↓qbf, ↓qbb, ↓qa9, ↓qbh, ↓qbd, ↓qbg, ↓qcL, ↓qcK, ↓qcM, ↓qb4, ↓qbk, ↓qbj, ↓qaF, ↓qaE, ↓qcN, ↓qcO, ↓qa8, ↓qa7, ↓qbc, ↓qcT, ↓qcP, ↓qcR, ↓qcS, ↓qcQ, ↓qbl, ↓qbt, ↓qbs, ↓qbm, ↓qbo, ↓qbq, ↓qbu, ↓qbp, ↓qbr, ↓qbn, ↓qbW, ↓qbX, ↓qaf, ↓qae, ↓qag, ↓qaP, ↓qaO, ↓qaK, ↓qaJ, ↓qaL, ↓qaM, ↓qaN, ↓qaZ, ↓qbU, ↓qbH, ↓qbI, ↓qbJ, ↓qbK, ↓qcf, ↓qcg, ↓qch, ↓qci, ↓qa1, ↓qa3, ↓qa0, ↓qa2, ↓qar, ↓qaA, ↓qaw, ↓qav, ↓qau, ↓qay, ↓qaz, ↓qas, ↓qax, ↓qaB, ↓qat, ↓qcV, ↓qcU, ↓qaQ, ↓qaW, ↓qaV, ↓qaU, ↓qcF, ↓qcC, ↓qcz, ↓qcG, ↓qcA, ↓qcD, ↓qcE, ↓qcH, ↓qcB, ↓qb5, ↓qb3, ↓qb2, ↓qb1, ↓qbZ, ↓qbY, ↓qb0, ↓qcx, ↓qcv, ↓qcw, ↓qcu, ↓qcy, ↓qb9, ↓qcb, ↓qb6, ↓qce, ↓qcc, ↓qb8, ↓qca, ↓qcd, ↓qb7, ↓qaY, ↓qan, ↓qai, ↓qaj, ↓qam, ↓qak, ↓qal, ↓qct, ↓qcs, ↓qcr, ↓qaq, ↓qao, ↓qap, ↓qbv, ↓qah, ↓qbS, ↓qbC, ↓qaD, ↓qaC, ↓qbx, ↓qbw, ↓qcW, ↓qbT, ↓qbM, ↓qbN, ↓qbL, ↓qbD, ↓qbE, ↓qbO, qad, qbB, qbA, qbz, ↓qck, ↓qcj, ↓qcm, ↓qcl, qbV, ↓qbQ, ↓qbP, ↓qbR, qby, qcI, qcJ, qaI, behindInMarks, lastMarks, Option.map_some, List.contains_cons, List.map_cons, List.map_nil, String.reduceBEq, String.reduceEq, Bool.and_true, Bool.true_and, Bool.and_false, Bool.false_and, Bool.or_true, Bool.true_or, Bool.or_false, Bool.false_or, Bool.not_true, Bool.not_false, and_true, true_and, exists_eq_left', exists_eq_left, beq_self_eq_true, List.length_cons, List.length_nil, Nat.reduceAdd, Nat.zero_add, Nat.reduceLeDiff, decide_true, decide_false, if_false, if_true, reduceCtorEq, N15, ↓U15]
      rw [e]
      (refine ⟨_, sub_Z ?_, rfl⟩; repeat (first | exact subV_n | refine subV_e ?_ | refine subV_d ?_))
  · subst hτ
    simp (maxSteps := 1000000) (dsimp := false) only [↓qaG, ↓qaH, ↓qcp, ↓qco, ↓qcn, ↓qcq, ↓qa4, ↓qbG, ↓qbF, ↓qaa, ↓qac, ↓qab, ↓qba, ↓qbe, ↓qa6, ↓qbi, ↓qa5, ↓qbf, ↓qbb, ↓qa9, ↓qbh, ↓qbd, ↓qbg, ↓qcL, ↓qcK, ↓qcM, ↓qb4, ↓qbk, ↓qbj, ↓qaF, ↓qaE, ↓qcN, ↓qcO, ↓qa8, ↓qa7, ↓qbc, ↓qcT, ↓qcP, ↓qcR, ↓qcS, ↓qcQ, ↓qbl, ↓qbt, ↓qbs, ↓qbm, ↓qbo, ↓qbq, ↓qbu, ↓qbp, ↓qbr, ↓qbn, ↓qbW, ↓qbX, ↓qaf, ↓qae, ↓qag, ↓qaP, ↓qaO, ↓qaK, ↓qaJ, ↓qaL, ↓qaM, ↓qaN, ↓qaZ, ↓qbU, ↓qbH, ↓qbI, ↓qbJ, ↓qbK, ↓qcf, ↓qcg, ↓qch, ↓qci, ↓qa1, ↓qa3, ↓qa0, ↓qa2, ↓qar, ↓qaA, ↓qaw, ↓qav, ↓qau, ↓qay, ↓qaz, ↓qas, ↓qax, ↓qaB, ↓qat, ↓qcV, ↓qcU, ↓qaQ, ↓qaW, ↓qaV, ↓qaU, ↓qcF, ↓qcC, ↓qcz, ↓qcG, ↓qcA, ↓qcD, ↓qcE, ↓qcH, ↓qcB, ↓qb5, ↓qb3, ↓qb2, ↓qb1, ↓qbZ, ↓qbY, ↓qb0, ↓qcx, ↓qcv, ↓qcw, ↓qcu, ↓qcy, ↓qb9, ↓qcb, ↓qb6, ↓qce, ↓qcc, ↓qb8, ↓qca, ↓qcd, ↓qb7, ↓qaY, ↓qan, ↓qai, ↓qaj, ↓qam, ↓qak, ↓qal, ↓qct, ↓qcs, ↓qcr, ↓qaq, ↓qao, ↓qap, ↓qbv, ↓qah, ↓qbS, ↓qbC, ↓qaD, ↓qaC, ↓qbx, ↓qbw, ↓qcW, ↓qbT, ↓qbM, ↓qbN, ↓qbL, ↓qbD, ↓qbE, ↓qbO, qad, qbB, qbA, qbz, ↓qck, ↓qcj, ↓qcm, ↓qcl, qbV, ↓qbQ, ↓qbP, ↓qbR, qby, qcI, qcJ, qaI, behindInMarks, lastMarks, Option.map_some, List.contains_cons, List.map_cons, List.map_nil, String.reduceBEq, String.reduceEq, Bool.and_true, Bool.true_and, Bool.and_false, Bool.false_and, Bool.or_true, Bool.true_or, Bool.or_false, Bool.false_or, Bool.not_true, Bool.not_false, and_true, true_and, exists_eq_left', exists_eq_left, beq_self_eq_true, List.length_cons, List.length_nil, Nat.reduceAdd, Nat.zero_add, Nat.reduceLeDiff, decide_true, decide_false, if_false, if_true, reduceCtorEq, N15, ↓U15, intsUp_len]
    simp
end
def keepB (r q : Row) (last : Bool) : Bool := regM r q || memM r q || (last && setF r)
def keepIJ (rs : List Row) (i j : Nat) : Bool := match rs[i]?, rs[j]? with
  | some r, some q => keepB r q ((j : Int) == lastN rs rs.length)
  | _, _ => false
def innerP (rs : List Row) (i u : Nat) : List (Int × Int) := ((List.range u).filter fun v => keepIJ rs i (i + 1 + v)).map fun (v : Nat) => ((i : Int), (i : Int) + 1 + (v : Int))
def outerP (rs : List Row) (t : Nat) : List (Int × Int) := (List.range t).flatMap fun i => innerP rs i (rs.length - (i + 1))
def opairs (rs : List Row) : List (Int × Int) := outerP rs rs.length
theorem innerP_len (rs : List Row) (i u : Nat) : (innerP rs i u).length ≤ u := by
  unfold innerP
  rw [List.length_map]
  exact Nat.le_trans (List.length_filter_le _ _) (by simp)
theorem outerP_len (rs : List Row) (hn : rs.length < 100) : ∀ t, (outerP rs t).length ≤ t * 100
  | 0 => by simp [outerP]
  | t + 1 => by
    have ih := outerP_len rs hn t
    have := innerP_len rs t (rs.length - (t + 1))
    unfold outerP at ih ⊢
    rw [List.range_succ, List.flatMap_append, List.length_append]
    simp only [List.flatMap_cons, List.flatMap_nil, List.append_nil]
    omega
theorem innerP_succ (rs : List Row) (i u : Nat) : innerP rs i (u + 1) = innerP rs i u ++ (if keepIJ rs i (i + 1 + u) = true then [((i : Int), (i : Int) + 1 + (u : Int))] else []) := by
  unfold innerP
  rw [List.range_succ, List.filter_append, List.map_append]
  congr 1
  cases h : keepIJ rs i (i + 1 + u) <;> simp [h]
theorem outerP_succ (rs : List Row) (t : Nat) : outerP rs (t + 1) = outerP rs t ++ innerP rs t (rs.length - (t + 1)) := by
  unfold outerP
  rw [List.range_succ, List.flatMap_append]
  simp only [List.flatMap_cons, List.flatMap_nil, List.append_nil]
section
variable {cx : Cx} (hS : SortOk cx) (hp : cx.p = vw)
include hS hp
theorem c_must_keep (rs : List Row) (hv : ∀ r ∈ rs, VR r) (hn : rs.length < 100) (i j st : Int) (r q : Row) (hi : 0 ≤ i) (hi' : i < 100) (hj0 : 0 ≤ j) (hj : j < rs.length) (hr : rs[i.toNat]? = some r) (hq : rs[j.toNat]? = some q) :
    CallsTo cx 6 "must_keep" [rowsD rs, .int i, .int j, .int st] (.bool (keepB r q (j == st))) := by
  have vr := hv r (List.mem_of_getElem? hr)
  have vq := hv q (List.mem_of_getElem? hq)
  refine fn_at2 hS hp 16 (own := []) (k := 5) (n := 8) (m := 6) (xs := [Str.ofString "rows", Str.ofString "first", Str.ofString "second", Str.ofString "setter"]) (ys := []) (tb := tb16) rfl (by kernel_rfl) rfl rfl (fun _ _ _ vs h => ?_) rfl (by kernel_rfl) (by simp [qcJ]) rfl ?_
  · rcases vs with _ | ⟨v1, _ | ⟨v2, _ | ⟨v3, _ | ⟨v4, _ | ⟨w, ws⟩⟩⟩⟩⟩ <;> first | rfl | simp at h
  simp (maxSteps := 1000000) (dsimp := false) only [↓qaG, ↓qaH, ↓qcp, ↓qco, ↓qcn, ↓qcq, ↓qa4, ↓qbG, ↓qbF, ↓qaa, ↓qac, ↓qab, ↓qba, ↓qbe, ↓qa6, ↓qbi, ↓qa5, ↓qbf, ↓qbb, ↓qa9, ↓qbh, ↓qbd, ↓qbg, ↓qcL, ↓qcK, ↓qcM, ↓qb4, ↓qbk, ↓qbj, ↓qaF, ↓qaE, ↓qcN, ↓qcO, ↓qa8, ↓qa7, ↓qbc, ↓qcT, ↓qcP, ↓qcR, ↓qcS, ↓qcQ, ↓qbl, ↓qbt, ↓qbs, ↓qbm, ↓qbo, ↓qbq, ↓qbu, ↓qbp, ↓qbr, ↓qbn, ↓qbW, ↓qbX, ↓qaf, ↓qae, ↓qag, ↓qaP, ↓qaO, ↓qaK, ↓qaJ, ↓qaL, ↓qaM, ↓qaN, ↓qaZ, ↓qbU, ↓qbH, ↓qbI, ↓qbJ, ↓qbK, ↓qcf, ↓qcg, ↓qch, ↓qci, ↓qa1, ↓qa3, ↓qa0, ↓qa2, ↓qar, ↓qaA, ↓qaw, ↓qav, ↓qau, ↓qay, ↓qaz, ↓qas, ↓qax, ↓qaB, ↓qat, ↓qcV, ↓qcU, ↓qaQ, ↓qaW, ↓qaV, ↓qaU, ↓qcF, ↓qcC, ↓qcz, ↓qcG, ↓qcA, ↓qcD, ↓qcE, ↓qcH, ↓qcB, ↓qb5, ↓qb3, ↓qb2, ↓qb1, ↓qbZ, ↓qbY, ↓qb0, ↓qcx, ↓qcv, ↓qcw, ↓qcu, ↓qcy, ↓qb9, ↓qcb, ↓qb6, ↓qce, ↓qcc, ↓qb8, ↓qca, ↓qcd, ↓qb7, ↓qaY, ↓qan, ↓qai, ↓qaj, ↓qam, ↓qak, ↓qal, ↓qct, ↓qcs, ↓qcr, ↓qaq, ↓qao, ↓qap, ↓qbv, ↓qah, ↓qbS, ↓qbC, ↓qaD, ↓qaC, ↓qbx, ↓qbw, ↓qcW, ↓qbT, ↓qbM, ↓qbN, ↓qbL, ↓qbD, ↓qbE, ↓qbO, qad, qbB, qbA, qbz, ↓qck, ↓qcj, ↓qcm, ↓qcl, qbV, ↓qbQ, ↓qbP, ↓qbR, qby, qcI, qcJ, qaI, behindInMarks, lastMarks, Option.map_some, List.contains_cons, List.map_cons, List.map_nil, String.reduceBEq, String.reduceEq, Bool.and_true, Bool.true_and, Bool.and_false, Bool.false_and, Bool.or_true, Bool.true_or, Bool.or_false, Bool.false_or, Bool.not_true, Bool.not_false, and_true, true_and, exists_eq_left', exists_eq_left, beq_self_eq_true, List.length_cons, List.length_nil, Nat.reduceAdd, Nat.zero_add, Nat.reduceLeDiff, decide_true, decide_false, if_false, if_true, reduceCtorEq, N16, ↓U16, ↓itemW_row hi hi' hr, ↓itemW_row hj0 (by omega) hq]
  refine ⟨(c_meet_in_registers hS hp r q vr vq).isFn, useC_of ((c_meet_in_registers hS hp r q vr vq).le (by decide)) ?_⟩
  simp (maxSteps := 1000000) (dsimp := false) only [↓qaG, ↓qaH, ↓qcp, ↓qco, ↓qcn, ↓qcq, ↓qa4, ↓qbG, ↓qbF, ↓qaa, ↓qac, ↓qab, ↓qba, ↓qbe, ↓qa6, ↓qbi, ↓qa5, ↓qbf, ↓qbb, ↓qa9, ↓qbh, ↓qbd, ↓qbg, ↓qcL, ↓qcK, ↓qcM, ↓qb4, ↓qbk, ↓qbj, ↓qaF, ↓qaE, ↓qcN, ↓qcO, ↓qa8, ↓qa7, ↓qbc, ↓qcT, ↓qcP, ↓qcR, ↓qcS, ↓qcQ, ↓qbl, ↓qbt, ↓qbs, ↓qbm, ↓qbo, ↓qbq, ↓qbu, ↓qbp, ↓qbr, ↓qbn, ↓qbW, ↓qbX, ↓qaf, ↓qae, ↓qag, ↓qaP, ↓qaO, ↓qaK, ↓qaJ, ↓qaL, ↓qaM, ↓qaN, ↓qaZ, ↓qbU, ↓qbH, ↓qbI, ↓qbJ, ↓qbK, ↓qcf, ↓qcg, ↓qch, ↓qci, ↓qa1, ↓qa3, ↓qa0, ↓qa2, ↓qar, ↓qaA, ↓qaw, ↓qav, ↓qau, ↓qay, ↓qaz, ↓qas, ↓qax, ↓qaB, ↓qat, ↓qcV, ↓qcU, ↓qaQ, ↓qaW, ↓qaV, ↓qaU, ↓qcF, ↓qcC, ↓qcz, ↓qcG, ↓qcA, ↓qcD, ↓qcE, ↓qcH, ↓qcB, ↓qb5, ↓qb3, ↓qb2, ↓qb1, ↓qbZ, ↓qbY, ↓qb0, ↓qcx, ↓qcv, ↓qcw, ↓qcu, ↓qcy, ↓qb9, ↓qcb, ↓qb6, ↓qce, ↓qcc, ↓qb8, ↓qca, ↓qcd, ↓qb7, ↓qaY, ↓qan, ↓qai, ↓qaj, ↓qam, ↓qak, ↓qal, ↓qct, ↓qcs, ↓qcr, ↓qaq, ↓qao, ↓qap, ↓qbv, ↓qah, ↓qbS, ↓qbC, ↓qaD, ↓qaC, ↓qbx, ↓qbw, ↓qcW, ↓qbT, ↓qbM, ↓qbN, ↓qbL, ↓qbD, ↓qbE, ↓qbO, qad, qbB, qbA, qbz, ↓qck, ↓qcj, ↓qcm, ↓qcl, qbV, ↓qbQ, ↓qbP, ↓qbR, qby, qcI, qcJ, qaI, behindInMarks, lastMarks, Option.map_some, List.contains_cons, List.map_cons, List.map_nil, String.reduceBEq, String.reduceEq, Bool.and_true, Bool.true_and, Bool.and_false, Bool.false_and, Bool.or_true, Bool.true_or, Bool.or_false, Bool.false_or, Bool.not_true, Bool.not_false, and_true, true_and, exists_eq_left', exists_eq_left, beq_self_eq_true, List.length_cons, List.length_nil, Nat.reduceAdd, Nat.zero_add, Nat.reduceLeDiff, decide_true, decide_false, if_false, if_true, reduceCtorEq, N16, ↓U16]
  refine iteB_of (fun h1 => ?_) (fun h1 => ?_)
  · simp (maxSteps := 1000000) (dsimp := false) only [↓qaG, ↓qaH, ↓qcp, ↓qco, ↓qcn, ↓qcq, ↓qa4, ↓qbG, ↓qbF, ↓qaa, ↓qac, ↓qab, ↓qba, ↓qbe, ↓qa6, ↓qbi, ↓qa5, ↓qbf, ↓qbb, ↓qa9, ↓qbh, ↓qbd, ↓qbg, ↓qcL, ↓qcK, ↓qcM, ↓qb4, ↓qbk, ↓qbj, ↓qaF, ↓qaE, ↓qcN, ↓qcO, ↓qa8, ↓qa7, ↓qbc, ↓qcT, ↓qcP, ↓qcR, ↓qcS, ↓qcQ, ↓qbl, ↓qbt, ↓qbs, ↓qbm, ↓qbo, ↓qbq, ↓qbu, ↓qbp, ↓qbr, ↓qbn, ↓qbW, ↓qbX, ↓qaf, ↓qae, ↓qag, ↓qaP, ↓qaO, ↓qaK, ↓qaJ, ↓qaL, ↓qaM, ↓qaN, ↓qaZ, ↓qbU, ↓qbH, ↓qbI, ↓qbJ, ↓qbK, ↓qcf, ↓qcg, ↓qch, ↓qci, ↓qa1, ↓qa3, ↓qa0, ↓qa2, ↓qar, ↓qaA, ↓qaw, ↓qav, ↓qau, ↓qay, ↓qaz, ↓qas, ↓qax, ↓qaB, ↓qat, ↓qcV, ↓qcU, ↓qaQ, ↓qaW, ↓qaV, ↓qaU, ↓qcF, ↓qcC, ↓qcz, ↓qcG, ↓qcA, ↓qcD, ↓qcE, ↓qcH, ↓qcB, ↓qb5, ↓qb3, ↓qb2, ↓qb1, ↓qbZ, ↓qbY, ↓qb0, ↓qcx, ↓qcv, ↓qcw, ↓qcu, ↓qcy, ↓qb9, ↓qcb, ↓qb6, ↓qce, ↓qcc, ↓qb8, ↓qca, ↓qcd, ↓qb7, ↓qaY, ↓qan, ↓qai, ↓qaj, ↓qam, ↓qak, ↓qal, ↓qct, ↓qcs, ↓qcr, ↓qaq, ↓qao, ↓qap, ↓qbv, ↓qah, ↓qbS, ↓qbC, ↓qaD, ↓qaC, ↓qbx, ↓qbw, ↓qcW, ↓qbT, ↓qbM, ↓qbN, ↓qbL, ↓qbD, ↓qbE, ↓qbO, qad, qbB, qbA, qbz, ↓qck, ↓qcj, ↓qcm, ↓qcl, qbV, ↓qbQ, ↓qbP, ↓qbR, qby, qcI, qcJ, qaI, behindInMarks, lastMarks, Option.map_some, List.contains_cons, List.map_cons, List.map_nil, String.reduceBEq, String.reduceEq, Bool.and_true, Bool.true_and, Bool.and_false, Bool.false_and, Bool.or_true, Bool.true_or, Bool.or_false, Bool.false_or, Bool.not_true, Bool.not_false, and_true, true_and, exists_eq_left', exists_eq_left, beq_self_eq_true, List.length_cons, List.length_nil, Nat.reduceAdd, Nat.zero_add, Nat.reduceLeDiff, decide_true, decide_false, if_false, if_true, reduceCtorEq, N16, ↓U16]
    exact bo (by unfold keepB; rw [h1]; rfl)
  · simp (maxSteps := 1000000) (dsimp := false) only [↓qaG, ↓qaH, ↓qcp, ↓qco, ↓qcn, ↓qcq, ↓qa4, ↓qbG, ↓qbF, ↓qaa, ↓qac, ↓qab, ↓qba, ↓qbe, ↓qa6, ↓qbi, ↓qa5, ↓qbf, ↓qbb, ↓qa9, ↓qbh, ↓qbd, ↓qbg, ↓qcL, ↓qcK, ↓qcM, ↓qb4, ↓qbk, ↓qbj, ↓qaF, ↓qaE, ↓qcN, ↓qcO, ↓qa8, ↓qa7, ↓qbc, ↓qcT, ↓qcP, ↓qcR, ↓qcS, ↓qcQ, ↓qbl, ↓qbt, ↓qbs, ↓qbm, ↓qbo, ↓qbq, ↓qbu, ↓qbp, ↓qbr, ↓qbn, ↓qbW, ↓qbX, ↓qaf, ↓qae, ↓qag, ↓qaP, ↓qaO, ↓qaK, ↓qaJ, ↓qaL, ↓qaM, ↓qaN, ↓qaZ, ↓qbU, ↓qbH, ↓qbI, ↓qbJ, ↓qbK, ↓qcf, ↓qcg, ↓qch, ↓qci, ↓qa1, ↓qa3, ↓qa0, ↓qa2, ↓qar, ↓qaA, ↓qaw, ↓qav, ↓qau, ↓qay, ↓qaz, ↓qas, ↓qax, ↓qaB, ↓qat, ↓qcV, ↓qcU, ↓qaQ, ↓qaW, ↓qaV, ↓qaU, ↓qcF, ↓qcC, ↓qcz, ↓qcG, ↓qcA, ↓qcD, ↓qcE, ↓qcH, ↓qcB, ↓qb5, ↓qb3, ↓qb2, ↓qb1, ↓qbZ, ↓qbY, ↓qb0, ↓qcx, ↓qcv, ↓qcw, ↓qcu, ↓qcy, ↓qb9, ↓qcb, ↓qb6, ↓qce, ↓qcc, ↓qb8, ↓qca, ↓qcd, ↓qb7, ↓qaY, ↓qan, ↓qai, ↓qaj, ↓qam, ↓qak, ↓qal, ↓qct, ↓qcs, ↓qcr, ↓qaq, ↓qao, ↓qap, ↓qbv, ↓qah, ↓qbS, ↓qbC, ↓qaD, ↓qaC, ↓qbx, ↓qbw, ↓qcW, ↓qbT, ↓qbM, ↓qbN, ↓qbL, ↓qbD, ↓qbE, ↓qbO, qad, qbB, qbA, qbz, ↓qck, ↓qcj, ↓qcm, ↓qcl, qbV, ↓qbQ, ↓qbP, ↓qbR, qby, qcI, qcJ, qaI, behindInMarks, lastMarks, Option.map_some, List.contains_cons, List.map_cons, List.map_nil, String.reduceBEq, String.reduceEq, Bool.and_true, Bool.true_and, Bool.and_false, Bool.false_and, Bool.or_true, Bool.true_or, Bool.or_false, Bool.false_or, Bool.not_true, Bool.not_false, and_true, true_and, exists_eq_left', exists_eq_left, beq_self_eq_true, List.length_cons, List.length_nil, Nat.reduceAdd, Nat.zero_add, Nat.reduceLeDiff, decide_true, decide_false, if_false, if_true, reduceCtorEq, N16, ↓U16]
    refine ⟨(c_meet_in_memory hS hp rs hv hn i j r q hi hi' hj0 hj hr hq).isFn, useC_of ((c_meet_in_memory hS hp rs hv hn i j r q hi hi' hj0 hj hr hq).le (by decide)) ?_⟩
    simp (maxSteps := 1000000) (dsimp := false) only [↓qaG, ↓qaH, ↓qcp, ↓qco, ↓qcn, ↓qcq, ↓qa4, ↓qbG, ↓qbF, ↓qaa, ↓qac, ↓qab, ↓qba, ↓qbe, ↓qa6, ↓qbi, ↓qa5, ↓qbf, ↓qbb, ↓qa9, ↓qbh, ↓qbd, ↓qbg, ↓qcL, ↓qcK, ↓qcM, ↓qb4, ↓qbk, ↓qbj, ↓qaF, ↓qaE, ↓qcN, ↓qcO, ↓qa8, ↓qa7, ↓qbc, ↓qcT, ↓qcP, ↓qcR, ↓qcS, ↓qcQ, ↓qbl, ↓qbt, ↓qbs, ↓qbm, ↓qbo, ↓qbq, ↓qbu, ↓qbp, ↓qbr, ↓qbn, ↓qbW, ↓qbX, ↓qaf, ↓qae, ↓qag, ↓qaP, ↓qaO, ↓qaK, ↓qaJ, ↓qaL, ↓qaM, ↓qaN, ↓qaZ, ↓qbU, ↓qbH, ↓qbI, ↓qbJ, ↓qbK, ↓qcf, ↓qcg, ↓qch, ↓qci, ↓qa1, ↓qa3, ↓qa0, ↓qa2, ↓qar, ↓qaA, ↓qaw, ↓qav, ↓qau, ↓qay, ↓qaz, ↓qas, ↓qax, ↓qaB, ↓qat, ↓qcV, ↓qcU, ↓qaQ, ↓qaW, ↓qaV, ↓qaU, ↓qcF, ↓qcC, ↓qcz, ↓qcG, ↓qcA, ↓qcD, ↓qcE, ↓qcH, ↓qcB, ↓qb5, ↓qb3, ↓qb2, ↓qb1, ↓qbZ, ↓qbY, ↓qb0, ↓qcx, ↓qcv, ↓qcw, ↓qcu, ↓qcy, ↓qb9, ↓qcb, ↓qb6, ↓qce, ↓qcc, ↓qb8, ↓qca, ↓qcd, ↓qb7, ↓qaY, ↓qan, ↓qai, ↓qaj, ↓qam, ↓qak, ↓qal, ↓qct, ↓qcs, ↓qcr, ↓qaq, ↓qao, ↓qap, ↓qbv, ↓qah, ↓qbS, ↓qbC, ↓qaD, ↓qaC, ↓qbx, ↓qbw, ↓qcW, ↓qbT, ↓qbM, ↓qbN, ↓qbL, ↓qbD, ↓qbE, ↓qbO, qad, qbB, qbA, qbz, ↓qck, ↓qcj, ↓qcm, ↓qcl, qbV, ↓qbQ, ↓qbP, ↓qbR, qby, qcI, qcJ, qaI, behindInMarks, lastMarks, Option.map_some, List.contains_cons, List.map_cons, List.map_nil, String.reduceBEq, String.reduceEq, Bool.and_true, Bool.true_and, Bool.and_false, Bool.false_and, Bool.or_true, Bool.true_or, Bool.or_false, Bool.false_or, Bool.not_true, Bool.not_false, and_true, true_and, exists_eq_left', exists_eq_left, beq_self_eq_true, List.length_cons, List.length_nil, Nat.reduceAdd, Nat.zero_add, Nat.reduceLeDiff, decide_true, decide_false, if_false, if_true, reduceCtorEq, N16, ↓U16]
    refine iteB_of (fun h2 => ?_) (fun h2 => ?_)
    · simp (maxSteps := 1000000) (dsimp := false) only [↓qaG, ↓qaH, ↓qcp, ↓qco, ↓qcn, ↓qcq, ↓qa4, ↓qbG, ↓qbF, ↓qaa, ↓qac, ↓qab, ↓qba, ↓qbe, ↓qa6, ↓qbi, ↓qa5, ↓qbf, ↓qbb, ↓qa9, ↓qbh, ↓qbd, ↓qbg, ↓qcL, ↓qcK, ↓qcM, ↓qb4, ↓qbk, ↓qbj, ↓qaF, ↓qaE, ↓qcN, ↓qcO, ↓qa8, ↓qa7, ↓qbc, ↓qcT, ↓qcP, ↓qcR, ↓qcS, ↓qcQ, ↓qbl, ↓qbt, ↓qbs, ↓qbm, ↓qbo, ↓qbq, ↓qbu, ↓qbp, ↓qbr, ↓qbn, ↓qbW, ↓qbX, ↓qaf, ↓qae, ↓qag, ↓qaP, ↓qaO, ↓qaK, ↓qaJ, ↓qaL, ↓qaM, ↓qaN, ↓qaZ, ↓qbU, ↓qbH, ↓qbI, ↓qbJ, ↓qbK, ↓qcf, ↓qcg, ↓qch, ↓qci, ↓qa1, ↓qa3, ↓qa0, ↓qa2, ↓qar, ↓qaA, ↓qaw, ↓qav, ↓qau, ↓qay, ↓qaz, ↓qas, ↓qax, ↓qaB, ↓qat, ↓qcV, ↓qcU, ↓qaQ, ↓qaW, ↓qaV, ↓qaU, ↓qcF, ↓qcC, ↓qcz, ↓qcG, ↓qcA, ↓qcD, ↓qcE, ↓qcH, ↓qcB, ↓qb5, ↓qb3, ↓qb2, ↓qb1, ↓qbZ, ↓qbY, ↓qb0, ↓qcx, ↓qcv, ↓qcw, ↓qcu, ↓qcy, ↓qb9, ↓qcb, ↓qb6, ↓qce, ↓qcc, ↓qb8, ↓qca, ↓qcd, ↓qb7, ↓qaY, ↓qan, ↓qai, ↓qaj, ↓qam, ↓qak, ↓qal, ↓qct, ↓qcs, ↓qcr, ↓qaq, ↓qao, ↓qap, ↓qbv, ↓qah, ↓qbS, ↓qbC, ↓qaD, ↓qaC, ↓qbx, ↓qbw, ↓qcW, ↓qbT, ↓qbM, ↓qbN, ↓qbL, ↓qbD, ↓qbE, ↓qbO, qad, qbB, qbA, qbz, ↓qck, ↓qcj, ↓qcm, ↓qcl, qbV, ↓qbQ, ↓qbP, ↓qbR, qby, qcI, qcJ, qaI, behindInMarks, lastMarks, Option.map_some, List.contains_cons, List.map_cons, List.map_nil, String.reduceBEq, String.reduceEq, Bool.and_true, Bool.true_and, Bool.and_false, Bool.false_and, Bool.or_true, Bool.true_or, Bool.or_false, Bool.false_or, Bool.not_true, Bool.not_false, and_true, true_and, exists_eq_left', exists_eq_left, beq_self_eq_true, List.length_cons, List.length_nil, Nat.reduceAdd, Nat.zero_add, Nat.reduceLeDiff, decide_true, decide_false, if_false, if_true, reduceCtorEq, N16, ↓U16]
      exact bo (by unfold keepB; rw [h1, h2]; rfl)
    · simp (maxSteps := 1000000) (dsimp := false) only [↓qaG, ↓qaH, ↓qcp, ↓qco, ↓qcn, ↓qcq, ↓qa4, ↓qbG, ↓qbF, ↓qaa, ↓qac, ↓qab, ↓qba, ↓qbe, ↓qa6, ↓qbi, ↓qa5, ↓qbf, ↓qbb, ↓qa9, ↓qbh, ↓qbd, ↓qbg, ↓qcL, ↓qcK, ↓qcM, ↓qb4, ↓qbk, ↓qbj, ↓qaF, ↓qaE, ↓qcN, ↓qcO, ↓qa8, ↓qa7, ↓qbc, ↓qcT, ↓qcP, ↓qcR, ↓qcS, ↓qcQ, ↓qbl, ↓qbt, ↓qbs, ↓qbm, ↓qbo, ↓qbq, ↓qbu, ↓qbp, ↓qbr, ↓qbn, ↓qbW, ↓qbX, ↓qaf, ↓qae, ↓qag, ↓qaP, ↓qaO, ↓qaK, ↓qaJ, ↓qaL, ↓qaM, ↓qaN, ↓qaZ, ↓qbU, ↓qbH, ↓qbI, ↓qbJ, ↓qbK, ↓qcf, ↓qcg, ↓qch, ↓qci, ↓qa1, ↓qa3, ↓qa0, ↓qa2, ↓qar, ↓qaA, ↓qaw, ↓qav, ↓qau, ↓qay, ↓qaz, ↓qas, ↓qax, ↓qaB, ↓qat, ↓qcV, ↓qcU, ↓qaQ, ↓qaW, ↓qaV, ↓qaU, ↓qcF, ↓qcC, ↓qcz, ↓qcG, ↓qcA, ↓qcD, ↓qcE, ↓qcH, ↓qcB, ↓qb5, ↓qb3, ↓qb2, ↓qb1, ↓qbZ, ↓qbY, ↓qb0, ↓qcx, ↓qcv, ↓qcw, ↓qcu, ↓qcy, ↓qb9, ↓qcb, ↓qb6, ↓qce, ↓qcc, ↓qb8, ↓qca, ↓qcd, ↓qb7, ↓qaY, ↓qan, ↓qai, ↓qaj, ↓qam, ↓qak, ↓qal, ↓qct, ↓qcs, ↓qcr, ↓qaq, ↓qao, ↓qap, ↓qbv, ↓qah, ↓qbS, ↓qbC, ↓qaD, ↓qaC, ↓qbx, ↓qbw, ↓qcW, ↓qbT, ↓qbM, ↓qbN, ↓qbL, ↓qbD, ↓qbE, ↓qbO, qad, qbB, qbA, qbz, ↓qck, ↓qcj, ↓qcm, ↓qcl, qbV, ↓qbQ, ↓qbP, ↓qbR, qby, qcI, qcJ, qaI, behindInMarks, lastMarks, Option.map_some, List.contains_cons, List.map_cons, List.map_nil, String.reduceBEq, String.reduceEq, Bool.and_true, Bool.true_and, Bool.and_false, Bool.false_and, Bool.or_true, Bool.true_or, Bool.or_false, Bool.false_or, Bool.not_true, Bool.not_false, and_true, true_and, exists_eq_left', exists_eq_left, beq_self_eq_true, List.length_cons, List.length_nil, Nat.reduceAdd, Nat.zero_add, Nat.reduceLeDiff, decide_true, decide_false, if_false, if_true, reduceCtorEq, N16, ↓U16]
      refine iteB_of (fun h3 => ?_) (fun h3 => ?_)
      · simp (maxSteps := 1000000) (dsimp := false) only [↓qaG, ↓qaH, ↓qcp, ↓qco, ↓qcn, ↓qcq, ↓qa4, ↓qbG, ↓qbF, ↓qaa, ↓qac, ↓qab, ↓qba, ↓qbe, ↓qa6, ↓qbi, ↓qa5, ↓qbf, ↓qbb, ↓qa9, ↓qbh, ↓qbd, ↓qbg, ↓qcL, ↓qcK, ↓qcM, ↓qb4, ↓qbk, ↓qbj, ↓qaF, ↓qaE, ↓qcN, ↓qcO, ↓qa8, ↓qa7, ↓qbc, ↓qcT, ↓qcP, ↓qcR, ↓qcS, ↓qcQ, ↓qbl, ↓qbt, ↓qbs, ↓qbm, ↓qbo, ↓qbq, ↓qbu, ↓qbp, ↓qbr, ↓qbn, ↓qbW, ↓qbX, ↓qaf, ↓qae, ↓qag, ↓qaP, ↓qaO, ↓qaK, ↓qaJ, ↓qaL, ↓qaM, ↓qaN, ↓qaZ, ↓qbU, ↓qbH, ↓qbI, ↓qbJ, ↓qbK, ↓qcf, ↓qcg, ↓qch, ↓qci, ↓qa1, ↓qa3, ↓qa0, ↓qa2, ↓qar, ↓qaA, ↓qaw, ↓qav, ↓qau, ↓qay, ↓qaz, ↓qas, ↓qax, ↓qaB, ↓qat, ↓qcV, ↓qcU, ↓qaQ, ↓qaW, ↓qaV, ↓qaU, ↓qcF, ↓qcC, ↓qcz, ↓qcG, ↓qcA, ↓qcD, ↓qcE, ↓qcH, ↓qcB, ↓qb5, ↓qb3, ↓qb2, ↓qb1, ↓qbZ, ↓qbY, ↓qb0, ↓qcx, ↓qcv, ↓qcw, ↓qcu, ↓qcy, ↓qb9, ↓qcb, ↓qb6, ↓qce, ↓qcc, ↓qb8, ↓qca, ↓qcd, ↓qb7, ↓qaY, ↓qan, ↓qai, ↓qaj, ↓qam, ↓qak, ↓qal, ↓qct, ↓qcs, ↓qcr, ↓qaq, ↓qao, ↓qap, ↓qbv, ↓qah, ↓qbS, ↓qbC, ↓qaD, ↓qaC, ↓qbx, ↓qbw, ↓qcW, ↓qbT, ↓qbM, ↓qbN, ↓qbL, ↓qbD, ↓qbE, ↓qbO, qad, qbB, qbA, qbz, ↓qck, ↓qcj, ↓qcm, ↓qcl, qbV, ↓qbQ, ↓qbP, ↓qbR, qby, qcI, qcJ, qaI, behindInMarks, lastMarks, Option.map_some, List.contains_cons, List.map_cons, List.map_nil, String.reduceBEq, String.reduceEq, Bool.and_true, Bool.true_and, Bool.and_false, Bool.false_and, Bool.or_true, Bool.true_or, Bool.or_false, Bool.false_or, Bool.not_true, Bool.not_false, and_true, true_and, exists_eq_left', exists_eq_left, beq_self_eq_true, List.length_cons, List.length_nil, Nat.reduceAdd, Nat.zero_add, Nat.reduceLeDiff, decide_true, decide_false, if_false, if_true, reduceCtorEq, N16, ↓U16, ↓itemW_row hi hi' hr]
        refine ⟨(c_write_set hS hp r vr).isFn, useC_of ((c_write_set hS hp r vr).le (by decide)) ?_⟩
        simp (maxSteps := 1000000) (dsimp := false) only [↓qaG, ↓qaH, ↓qcp, ↓qco, ↓qcn, ↓qcq, ↓qa4, ↓qbG, ↓qbF, ↓qaa, ↓qac, ↓qab, ↓qba, ↓qbe, ↓qa6, ↓qbi, ↓qa5, ↓qbf, ↓qbb, ↓qa9, ↓qbh, ↓qbd, ↓qbg, ↓qcL, ↓qcK, ↓qcM, ↓qb4, ↓qbk, ↓qbj, ↓qaF, ↓qaE, ↓qcN, ↓qcO, ↓qa8, ↓qa7, ↓qbc, ↓qcT, ↓qcP, ↓qcR, ↓qcS, ↓qcQ, ↓qbl, ↓qbt, ↓qbs, ↓qbm, ↓qbo, ↓qbq, ↓qbu, ↓qbp, ↓qbr, ↓qbn, ↓qbW, ↓qbX, ↓qaf, ↓qae, ↓qag, ↓qaP, ↓qaO, ↓qaK, ↓qaJ, ↓qaL, ↓qaM, ↓qaN, ↓qaZ, ↓qbU, ↓qbH, ↓qbI, ↓qbJ, ↓qbK, ↓qcf, ↓qcg, ↓qch, ↓qci, ↓qa1, ↓qa3, ↓qa0, ↓qa2, ↓qar, ↓qaA, ↓qaw, ↓qav, ↓qau, ↓qay, ↓qaz, ↓qas, ↓qax, ↓qaB, ↓qat, ↓qcV, ↓qcU, ↓qaQ, ↓qaW, ↓qaV, ↓qaU, ↓qcF, ↓qcC, ↓qcz, ↓qcG, ↓qcA, ↓qcD, ↓qcE, ↓qcH, ↓qcB, ↓qb5, ↓qb3, ↓qb2, ↓qb1, ↓qbZ, ↓qbY, ↓qb0, ↓qcx, ↓qcv, ↓qcw, ↓qcu, ↓qcy, ↓qb9, ↓qcb, ↓qb6, ↓qce, ↓qcc, ↓qb8, ↓qca, ↓qcd, ↓qb7, ↓qaY, ↓qan, ↓qai, ↓qaj, ↓qam, ↓qak, ↓qal, ↓qct, ↓qcs, ↓qcr, ↓qaq, ↓qao, ↓qap, ↓qbv, ↓qah, ↓qbS, ↓qbC, ↓qaD, ↓qaC, ↓qbx, ↓qbw, ↓qcW, ↓qbT, ↓qbM, ↓qbN, ↓qbL, ↓qbD, ↓qbE, ↓qbO, qad, qbB, qbA, qbz, ↓qck, ↓qcj, ↓qcm, ↓qcl, qbV, ↓qbQ, ↓qbP, ↓qbR, qby, qcI, qcJ, qaI, behindInMarks, lastMarks, Option.map_some, List.contains_cons, List.map_cons, List.map_nil, String.reduceBEq, String.reduceEq, Bool.and_true, Bool.true_and, Bool.and_false, Bool.false_and, Bool.or_true, Bool.true_or, Bool.or_false, Bool.false_or, Bool.not_true, Bool.not_false, and_true, true_and, exists_eq_left', exists_eq_left, beq_self_eq_true, List.length_cons, List.length_nil, Nat.reduceAdd, Nat.zero_add, Nat.reduceLeDiff, decide_true, decide_false, if_false, if_true, reduceCtorEq, N16, ↓U16]
        refine useG_of (g_flags hp) ?_
        simp (maxSteps := 1000000) (dsimp := false) only [↓qaG, ↓qaH, ↓qcp, ↓qco, ↓qcn, ↓qcq, ↓qa4, ↓qbG, ↓qbF, ↓qaa, ↓qac, ↓qab, ↓qba, ↓qbe, ↓qa6, ↓qbi, ↓qa5, ↓qbf, ↓qbb, ↓qa9, ↓qbh, ↓qbd, ↓qbg, ↓qcL, ↓qcK, ↓qcM, ↓qb4, ↓qbk, ↓qbj, ↓qaF, ↓qaE, ↓qcN, ↓qcO, ↓qa8, ↓qa7, ↓qbc, ↓qcT, ↓qcP, ↓qcR, ↓qcS, ↓qcQ, ↓qbl, ↓qbt, ↓qbs, ↓qbm, ↓qbo, ↓qbq, ↓qbu, ↓qbp, ↓qbr, ↓qbn, ↓qbW, ↓qbX, ↓qaf, ↓qae, ↓qag, ↓qaP, ↓qaO, ↓qaK, ↓qaJ, ↓qaL, ↓qaM, ↓qaN, ↓qaZ, ↓qbU, ↓qbH, ↓qbI, ↓qbJ, ↓qbK, ↓qcf, ↓qcg, ↓qch, ↓qci, ↓qa1, ↓qa3, ↓qa0, ↓qa2, ↓qar, ↓qaA, ↓qaw, ↓qav, ↓qau, ↓qay, ↓qaz, ↓qas, ↓qax, ↓qaB, ↓qat, ↓qcV, ↓qcU, ↓qaQ, ↓qaW, ↓qaV, ↓qaU, ↓qcF, ↓qcC, ↓qcz, ↓qcG, ↓qcA, ↓qcD, ↓qcE, ↓qcH, ↓qcB, ↓qb5, ↓qb3, ↓qb2, ↓qb1, ↓qbZ, ↓qbY, ↓qb0, ↓qcx, ↓qcv, ↓qcw, ↓qcu, ↓qcy, ↓qb9, ↓qcb, ↓qb6, ↓qce, ↓qcc, ↓qb8, ↓qca, ↓qcd, ↓qb7, ↓qaY, ↓qan, ↓qai, ↓qaj, ↓qam, ↓qak, ↓qal, ↓qct, ↓qcs, ↓qcr, ↓qaq, ↓qao, ↓qap, ↓qbv, ↓qah, ↓qbS, ↓qbC, ↓qaD, ↓qaC, ↓qbx, ↓qbw, ↓qcW, ↓qbT, ↓qbM, ↓qbN, ↓qbL, ↓qbD, ↓qbE, ↓qbO, qad, qbB, qbA, qbz, ↓qck, ↓qcj, ↓qcm, ↓qcl, qbV, ↓qbQ, ↓qbP, ↓qbR, qby, qcI, qcJ, qaI, behindInMarks, lastMarks, Option.map_some, List.contains_cons, List.map_cons, List.map_nil, String.reduceBEq, String.reduceEq, Bool.and_true, Bool.true_and, Bool.and_false, Bool.false_and, Bool.or_true, Bool.true_or, Bool.or_false, Bool.false_or, Bool.not_true, Bool.not_false, and_true, true_and, exists_eq_left', exists_eq_left, beq_self_eq_true, List.length_cons, List.length_nil, Nat.reduceAdd, Nat.zero_add, Nat.reduceLeDiff, decide_true, decide_false, if_false, if_true, reduceCtorEq, N16, ↓U16]
        exact ⟨by decide, bo (by unfold keepB setF; rw [h1, h2, h3]; rfl)⟩
      · simp (maxSteps := 1000000) (dsimp := false) only [↓qaG, ↓qaH, ↓qcp, ↓qco, ↓qcn, ↓qcq, ↓qa4, ↓qbG, ↓qbF, ↓qaa, ↓qac, ↓qab, ↓qba, ↓qbe, ↓qa6, ↓qbi, ↓qa5, ↓qbf, ↓qbb, ↓qa9, ↓qbh, ↓qbd, ↓qbg, ↓qcL, ↓qcK, ↓qcM, ↓qb4, ↓qbk, ↓qbj, ↓qaF, ↓qaE, ↓qcN, ↓qcO, ↓qa8, ↓qa7, ↓qbc, ↓qcT, ↓qcP, ↓qcR, ↓qcS, ↓qcQ, ↓qbl, ↓qbt, ↓qbs, ↓qbm, ↓qbo, ↓qbq, ↓qbu, ↓qbp, ↓qbr, ↓qbn, ↓qbW, ↓qbX, ↓qaf, ↓qae, ↓qag, ↓qaP, ↓qaO, ↓qaK, ↓qaJ, ↓qaL, ↓qaM, ↓qaN, ↓qaZ, ↓qbU, ↓qbH, ↓qbI, ↓qbJ, ↓qbK, ↓qcf, ↓qcg, ↓qch, ↓qci, ↓qa1, ↓qa3, ↓qa0, ↓qa2, ↓qar, ↓qaA, ↓qaw, ↓qav, ↓qau, ↓qay, ↓qaz, ↓qas, ↓qax, ↓qaB, ↓qat, ↓qcV, ↓qcU, ↓qaQ, ↓qaW, ↓qaV, ↓qaU, ↓qcF, ↓qcC, ↓qcz, ↓qcG, ↓qcA, ↓qcD, ↓qcE, ↓qcH, ↓qcB, ↓qb5, ↓qb3, ↓qb2, ↓qb1, ↓qbZ, ↓qbY, ↓qb0, ↓qcx, ↓qcv, ↓qcw, ↓qcu, ↓qcy, ↓qb9, ↓qcb, ↓qb6, ↓qce, ↓qcc, ↓qb8, ↓qca, ↓qcd, ↓qb7, ↓qaY, ↓qan, ↓qai, ↓qaj, ↓qam, ↓qak, ↓qal, ↓qct, ↓qcs, ↓qcr, ↓qaq, ↓qao, ↓qap, ↓qbv, ↓qah, ↓qbS, ↓qbC, ↓qaD, ↓qaC, ↓qbx, ↓qbw, ↓qcW, ↓qbT, ↓qbM, ↓qbN, ↓qbL, ↓qbD, ↓qbE, ↓qbO, qad, qbB, qbA, qbz, ↓qck, ↓qcj, ↓qcm, ↓qcl, qbV, ↓qbQ, ↓qbP, ↓qbR, qby, qcI, qcJ, qaI, behindInMarks, lastMarks, Option.map_some, List.contains_cons, List.map_cons, List.map_nil, String.reduceBEq, String.reduceEq, Bool.and_true, Bool.true_and, Bool.and_false, Bool.false_and, Bool.or_true, Bool.true_or, Bool.or_false, Bool.false_or, Bool.not_true, Bool.not_false, and_true, true_and, exists_eq_left', exists_eq_left, beq_self_eq_true, List.length_cons, List.length_nil, Nat.reduceAdd, Nat.zero_add, Nat.reduceLeDiff, decide_true, decide_false, if_false, if_true, reduceCtorEq, N16, ↓U16]
        exact bo (by unfold keepB; rw [h1, h2, h3]; rfl)
theorem c_order_pairs (rs : List Row) (hv : ∀ r ∈ rs, VR r) (hn : rs.length < 100) : CallsTo cx 7 "order_pairs" [rowsD rs] (.list ((opairs rs).map pairD)) := by
  refine fn_at2 hS hp 17 (own := [Str.ofString "found"]) (k := 6) (n := 8) (m := 8) (xs := [Str.ofString "rows"]) (ys := [Str.ofString "setter", Str.ofString "found", Str.ofString "first", Str.ofString "second"]) (tb := tb17) rfl (by kernel_rfl) rfl rfl (fun _ _ _ vs h => ?_) rfl (by kernel_rfl) (by simp [qcJ]) rfl ?_
  · rcases vs with _ | ⟨v1, _ | ⟨w, ws⟩⟩ <;> first | rfl | simp at h
  simp (maxSteps := 1000000) (dsimp := false) only [↓qaG, ↓qaH, ↓qcp, ↓qco, ↓qcn, ↓qcq, ↓qa4, ↓qbG, ↓qbF, ↓qaa, ↓qac, ↓qab, ↓qba, ↓qbe, ↓qa6, ↓qbi, ↓qa5, ↓qbf, ↓qbb, ↓qa9, ↓qbh, ↓qbd, ↓qbg, ↓qcL, ↓qcK, ↓qcM, ↓qb4, ↓qbk, ↓qbj, ↓qaF, ↓qaE, ↓qcN, ↓qcO, ↓qa8, ↓qa7, ↓qbc, ↓qcT, ↓qcP, ↓qcR, ↓qcS, ↓qcQ, ↓qbl, ↓qbt, ↓qbs, ↓qbm, ↓qbo, ↓qbq, ↓qbu, ↓qbp, ↓qbr, ↓qbn, ↓qbW, ↓qbX, ↓qaf, ↓qae, ↓qag, ↓qaP, ↓qaO, ↓qaK, ↓qaJ, ↓qaL, ↓qaM, ↓qaN, ↓qaZ, ↓qbU, ↓qbH, ↓qbI, ↓qbJ, ↓qbK, ↓qcf, ↓qcg, ↓qch, ↓qci, ↓qa1, ↓qa3, ↓qa0, ↓qa2, ↓qar, ↓qaA, ↓qaw, ↓qav, ↓qau, ↓qay, ↓qaz, ↓qas, ↓qax, ↓qaB, ↓qat, ↓qcV, ↓qcU, ↓qaQ, ↓qaW, ↓qaV, ↓qaU, ↓qcF, ↓qcC, ↓qcz, ↓qcG, ↓qcA, ↓qcD, ↓qcE, ↓qcH, ↓qcB, ↓qb5, ↓qb3, ↓qb2, ↓qb1, ↓qbZ, ↓qbY, ↓qb0, ↓qcx, ↓qcv, ↓qcw, ↓qcu, ↓qcy, ↓qb9, ↓qcb, ↓qb6, ↓qce, ↓qcc, ↓qb8, ↓qca, ↓qcd, ↓qb7, ↓qaY, ↓qan, ↓qai, ↓qaj, ↓qam, ↓qak, ↓qal, ↓qct, ↓qcs, ↓qcr, ↓qaq, ↓qao, ↓qap, ↓qbv, ↓qah, ↓qbS, ↓qbC, ↓qaD, ↓qaC, ↓qbx, ↓qbw, ↓qcW, ↓qbT, ↓qbM, ↓qbN, ↓qbL, ↓qbD, ↓qbE, ↓qbO, qad, qbB, qbA, qbz, ↓qck, ↓qcj, ↓qcm, ↓qcl, qbV, ↓qbQ, ↓qbP, ↓qbR, qby, qcI, qcJ, qaI, behindInMarks, lastMarks, Option.map_some, List.contains_cons, List.map_cons, List.map_nil, String.reduceBEq, String.reduceEq, Bool.and_true, Bool.true_and, Bool.and_false, Bool.false_and, Bool.or_true, Bool.true_or, Bool.or_false, Bool.false_or, Bool.not_true, Bool.not_false, and_true, true_and, exists_eq_left', exists_eq_left, beq_self_eq_true, List.length_cons, List.length_nil, Nat.reduceAdd, Nat.zero_add, Nat.reduceLeDiff, decide_true, decide_false, if_false, if_true, reduceCtorEq, N17, ↓U17]
  refine ⟨(c_last_setter hS hp rs hv hn).isFn, useC_of ((c_last_setter hS hp rs hv hn).le (by decide)) ?_⟩
  simp (maxSteps := 1000000) (dsimp := false) only [↓qaG, ↓qaH, ↓qcp, ↓qco, ↓qcn, ↓qcq, ↓qa4, ↓qbG, ↓qbF, ↓qaa, ↓qac, ↓qab, ↓qba, ↓qbe, ↓qa6, ↓qbi, ↓qa5, ↓qbf, ↓qbb, ↓qa9, ↓qbh, ↓qbd, ↓qbg, ↓qcL, ↓qcK, ↓qcM, ↓qb4, ↓qbk, ↓qbj, ↓qaF, ↓qaE, ↓qcN, ↓qcO, ↓qa8, ↓qa7, ↓qbc, ↓qcT, ↓qcP, ↓qcR, ↓qcS, ↓qcQ, ↓qbl, ↓qbt, ↓qbs, ↓qbm, ↓qbo, ↓qbq, ↓qbu, ↓qbp, ↓qbr, ↓qbn, ↓qbW, ↓qbX, ↓qaf, ↓qae, ↓qag, ↓qaP, ↓qaO, ↓qaK, ↓qaJ, ↓qaL, ↓qaM, ↓qaN, ↓qaZ, ↓qbU, ↓qbH, ↓qbI, ↓qbJ, ↓qbK, ↓qcf, ↓qcg, ↓qch, ↓qci, ↓qa1, ↓qa3, ↓qa0, ↓qa2, ↓qar, ↓qaA, ↓qaw, ↓qav, ↓qau, ↓qay, ↓qaz, ↓qas, ↓qax, ↓qaB, ↓qat, ↓qcV, ↓qcU, ↓qaQ, ↓qaW, ↓qaV, ↓qaU, ↓qcF, ↓qcC, ↓qcz, ↓qcG, ↓qcA, ↓qcD, ↓qcE, ↓qcH, ↓qcB, ↓qb5, ↓qb3, ↓qb2, ↓qb1, ↓qbZ, ↓qbY, ↓qb0, ↓qcx, ↓qcv, ↓qcw, ↓qcu, ↓qcy, ↓qb9, ↓qcb, ↓qb6, ↓qce, ↓qcc, ↓qb8, ↓qca, ↓qcd, ↓qb7, ↓qaY, ↓qan, ↓qai, ↓qaj, ↓qam, ↓qak, ↓qal, ↓qct, ↓qcs, ↓qcr, ↓qaq, ↓qao, ↓qap, ↓qbv, ↓qah, ↓qbS, ↓qbC, ↓qaD, ↓qaC, ↓qbx, ↓qbw, ↓qcW, ↓qbT, ↓qbM, ↓qbN, ↓qbL, ↓qbD, ↓qbE, ↓qbO, qad, qbB, qbA, qbz, ↓qck, ↓qcj, ↓qcm, ↓qcl, qbV, ↓qbQ, ↓qbP, ↓qbR, qby, qcI, qcJ, qaI, behindInMarks, lastMarks, Option.map_some, List.contains_cons, List.map_cons, List.map_nil, String.reduceBEq, String.reduceEq, Bool.and_true, Bool.true_and, Bool.and_false, Bool.false_and, Bool.or_true, Bool.true_or, Bool.or_false, Bool.false_or, Bool.not_true, Bool.not_false, and_true, true_and, exists_eq_left', exists_eq_left, beq_self_eq_true, List.length_cons, List.length_nil, Nat.reduceAdd, Nat.zero_add, Nat.reduceLeDiff, decide_true, decide_false, if_false, if_true, reduceCtorEq, N17, ↓U17]
  refine forH_of (items := intsUp 0 rs.length) (own_none rfl) (fun K hK => ?_) (fun t τ => τ = (Z tb17 [Slot.val (rowsD rs), Slot.val (.int (lastN rs rs.length)), Slot.lst ((outerP rs t).map pairD)])) rfl (fun t d τ hd hτ => ?_) (fun τ hτ => ?_)
  · simp (maxSteps := 1000000) (dsimp := false) only [↓qaG, ↓qaH, ↓qcp, ↓qco, ↓qcn, ↓qcq, ↓qa4, ↓qbG, ↓qbF, ↓qaa, ↓qac, ↓qab, ↓qba, ↓qbe, ↓qa6, ↓qbi, ↓qa5, ↓qbf, ↓qbb, ↓qa9, ↓qbh, ↓qbd, ↓qbg, ↓qcL, ↓qcK, ↓qcM, ↓qb4, ↓qbk, ↓qbj, ↓qaF, ↓qaE, ↓qcN, ↓qcO, ↓qa8, ↓qa7, ↓qbc, ↓qcT, ↓qcP, ↓qcR, ↓qcS, ↓qcQ, ↓qbl, ↓qbt, ↓qbs, ↓qbm, ↓qbo, ↓qbq, ↓qbu, ↓qbp, ↓qbr, ↓qbn, ↓qbW, ↓qbX, ↓qaf, ↓qae, ↓qag, ↓qaP, ↓qaO, ↓qaK, ↓qaJ, ↓qaL, ↓qaM, ↓qaN, ↓qaZ, ↓qbU, ↓qbH, ↓qbI, ↓qbJ, ↓qbK, ↓qcf, ↓qcg, ↓qch, ↓qci, ↓qa1, ↓qa3, ↓qa0, ↓qa2, ↓qar, ↓qaA, ↓qaw, ↓qav, ↓qau, ↓qay, ↓qaz, ↓qas, ↓qax, ↓qaB, ↓qat, ↓qcV, ↓qcU, ↓qaQ, ↓qaW, ↓qaV, ↓qaU, ↓qcF, ↓qcC, ↓qcz, ↓qcG, ↓qcA, ↓qcD, ↓qcE, ↓qcH, ↓qcB, ↓qb5, ↓qb3, ↓qb2, ↓qb1, ↓qbZ, ↓qbY, ↓qb0, ↓qcx, ↓qcv, ↓qcw, ↓qcu, ↓qcy, ↓qb9, ↓qcb, ↓qb6, ↓qce, ↓qcc, ↓qb8, ↓qca, ↓qcd, ↓qb7, ↓qaY, ↓qan, ↓qai, ↓qaj, ↓qam, ↓qak, ↓qal, ↓qct, ↓qcs, ↓qcr, ↓qaq, ↓qao, ↓qap, ↓qbv, ↓qah, ↓qbS, ↓qbC, ↓qaD, ↓qaC, ↓qbx, ↓qbw, ↓qcW, ↓qbT, ↓qbM, ↓qbN, ↓qbL, ↓qbD, ↓qbE, ↓qbO, qad, qbB, qbA, qbz, ↓qck, ↓qcj, ↓qcm, ↓qcl, qbV, ↓qbQ, ↓qbP, ↓qbR, qby, qcI, qcJ, qaI, behindInMarks, lastMarks, Option.map_some, List.contains_cons, List.map_cons, List.map_nil, String.reduceBEq, String.reduceEq, Bool.and_true, Bool.true_and, Bool.and_false, Bool.false_and, Bool.or_true, Bool.true_or, Bool.or_false, Bool.false_or, Bool.not_true, Bool.not_false, and_true, true_and, exists_eq_left', exists_eq_left, beq_self_eq_true, List.length_cons, List.length_nil, Nat.reduceAdd, Nat.zero_add, Nat.reduceLeDiff, decide_true, decide_false, if_false, if_true, reduceCtorEq, N17, ↓U17, rowsD, List.length_map]
    exact ⟨by omega, by omega, by omega, hK⟩
  · obtain ⟨ht, rfl⟩ := intsUp_at hd
    rw [Int.zero_add] at ht ⊢
    subst hτ
    simp (maxSteps := 1000000) (dsimp := false) only [↓qaG, ↓qaH, ↓qcp, ↓qco, ↓qcn, ↓qcq, ↓qa4, ↓qbG, ↓qbF, ↓qaa, ↓qac, ↓qab, ↓qba, ↓qbe, ↓qa6, ↓qbi, ↓qa5, ↓qbf, ↓qbb, ↓qa9, ↓qbh, ↓qbd, ↓qbg, ↓qcL, ↓qcK, ↓qcM, ↓qb4, ↓qbk, ↓qbj, ↓qaF, ↓qaE, ↓qcN, ↓qcO, ↓qa8, ↓qa7, ↓qbc, ↓qcT, ↓qcP, ↓qcR, ↓qcS, ↓qcQ, ↓qbl, ↓qbt, ↓qbs, ↓qbm, ↓qbo, ↓qbq, ↓qbu, ↓qbp, ↓qbr, ↓qbn, ↓qbW, ↓qbX, ↓qaf, ↓qae, ↓qag, ↓qaP, ↓qaO, ↓qaK, ↓qaJ, ↓qaL, ↓qaM, ↓qaN, ↓qaZ, ↓qbU, ↓qbH, ↓qbI, ↓qbJ, ↓qbK, ↓qcf, ↓qcg, ↓qch, ↓qci, ↓qa1, ↓qa3, ↓qa0, ↓qa2, ↓qar, ↓qaA, ↓qaw, ↓qav, ↓qau, ↓qay, ↓qaz, ↓qas, ↓qax, ↓qaB, ↓qat, ↓qcV, ↓qcU, ↓qaQ, ↓qaW, ↓qaV, ↓qaU, ↓qcF, ↓qcC, ↓qcz, ↓qcG, ↓qcA, ↓qcD, ↓qcE, ↓qcH, ↓qcB, ↓qb5, ↓qb3, ↓qb2, ↓qb1, ↓qbZ, ↓qbY, ↓qb0, ↓qcx, ↓qcv, ↓qcw, ↓qcu, ↓qcy, ↓qb9, ↓qcb, ↓qb6, ↓qce, ↓qcc, ↓qb8, ↓qca, ↓qcd, ↓qb7, ↓qaY, ↓qan, ↓qai, ↓qaj, ↓qam, ↓qak, ↓qal, ↓qct, ↓qcs, ↓qcr, ↓qaq, ↓qao, ↓qap, ↓qbv, ↓qah, ↓qbS, ↓qbC, ↓qaD, ↓qaC, ↓qbx, ↓qbw, ↓qcW, ↓qbT, ↓qbM, ↓qbN, ↓qbL, ↓qbD, ↓qbE, ↓qbO, qad, qbB, qbA, qbz, ↓qck, ↓qcj, ↓qcm, ↓qcl, qbV, ↓qbQ, ↓qbP, ↓qbR, qby, qcI, qcJ, qaI, behindInMarks, lastMarks, Option.map_some, List.contains_cons, List.map_cons, List.map_nil, String.reduceBEq, String.reduceEq, Bool.and_true, Bool.true_and, Bool.and_false, Bool.false_and, Bool.or_true, Bool.true_or, Bool.or_false, Bool.false_or, Bool.not_true, Bool.not_false, and_true, true_and, exists_eq_left', exists_eq_left, beq_self_eq_true, List.length_cons, List.length_nil, Nat.reduceAdd, Nat.zero_add, Nat.reduceLeDiff, decide_true, decide_false, if_false, if_true, reduceCtorEq, N17, ↓U17]
    refine forH_of (items := intsUp ((t : Int) + 1) rs.length) (own_none rfl) (fun K hK => ?_) (fun u τ => τ = (Z tb17 [Slot.val (rowsD rs), Slot.val (.int (lastN rs rs.length)), Slot.lst ((outerP rs t ++ innerP rs t u).map pairD), Slot.val (.int t)])) ?_ (fun u d τ hd hτ => ?_) (fun τ hτ => ?_)
    · simp (maxSteps := 1000000) (dsimp := false) only [↓qaG, ↓qaH, ↓qcp, ↓qco, ↓qcn, ↓qcq, ↓qa4, ↓qbG, ↓qbF, ↓qaa, ↓qac, ↓qab, ↓qba, ↓qbe, ↓qa6, ↓qbi, ↓qa5, ↓qbf, ↓qbb, ↓qa9, ↓qbh, ↓qbd, ↓qbg, ↓qcL, ↓qcK, ↓qcM, ↓qb4, ↓qbk, ↓qbj, ↓qaF, ↓qaE, ↓qcN, ↓qcO, ↓qa8, ↓qa7, ↓qbc, ↓qcT, ↓qcP, ↓qcR, ↓qcS, ↓qcQ, ↓qbl, ↓qbt, ↓qbs, ↓qbm, ↓qbo, ↓qbq, ↓qbu, ↓qbp, ↓qbr, ↓qbn, ↓qbW, ↓qbX, ↓qaf, ↓qae, ↓qag, ↓qaP, ↓qaO, ↓qaK, ↓qaJ, ↓qaL, ↓qaM, ↓qaN, ↓qaZ, ↓qbU, ↓qbH, ↓qbI, ↓qbJ, ↓qbK, ↓qcf, ↓qcg, ↓qch, ↓qci, ↓qa1, ↓qa3, ↓qa0, ↓qa2, ↓qar, ↓qaA, ↓qaw, ↓qav, ↓qau, ↓qay, ↓qaz, ↓qas, ↓qax, ↓qaB, ↓qat, ↓qcV, ↓qcU, ↓qaQ, ↓qaW, ↓qaV, ↓qaU, ↓qcF, ↓qcC, ↓qcz, ↓qcG, ↓qcA, ↓qcD, ↓qcE, ↓qcH, ↓qcB, ↓qb5, ↓qb3, ↓qb2, ↓qb1, ↓qbZ, ↓qbY, ↓qb0, ↓qcx, ↓qcv, ↓qcw, ↓qcu, ↓qcy, ↓qb9, ↓qcb, ↓qb6, ↓qce, ↓qcc, ↓qb8, ↓qca, ↓qcd, ↓qb7, ↓qaY, ↓qan, ↓qai, ↓qaj, ↓qam, ↓qak, ↓qal, ↓qct, ↓qcs, ↓qcr, ↓qaq, ↓qao, ↓qap, ↓qbv, ↓qah, ↓qbS, ↓qbC, ↓qaD, ↓qaC, ↓qbx, ↓qbw, ↓qcW, ↓qbT, ↓qbM, ↓qbN, ↓qbL, ↓qbD, ↓qbE, ↓qbO, qad, qbB, qbA, qbz, ↓qck, ↓qcj, ↓qcm, ↓qcl, qbV, ↓qbQ, ↓qbP, ↓qbR, qby, qcI, qcJ, qaI, behindInMarks, lastMarks, Option.map_some, List.contains_cons, List.map_cons, List.map_nil, String.reduceBEq, String.reduceEq, Bool.and_true, Bool.true_and, Bool.and_false, Bool.false_and, Bool.or_true, Bool.true_or, Bool.or_false, Bool.false_or, Bool.not_true, Bool.not_false, and_true, true_and, exists_eq_left', exists_eq_left, beq_self_eq_true, List.length_cons, List.length_nil, Nat.reduceAdd, Nat.zero_add, Nat.reduceLeDiff, decide_true, decide_false, if_false, if_true, reduceCtorEq, N17, ↓U17, rowsD, List.length_map]
      exact ⟨by omega, by omega, by omega, by omega, by omega, hK⟩
    · simp [innerP]
    · obtain ⟨hu, rfl⟩ := intsUp_at hd
      subst hτ
      obtain ⟨r, hr, hm⟩ := row_at (rs := rs) (i := (t : Int)) (by omega) (by omega)
      obtain ⟨q, hq, hm'⟩ := row_at (rs := rs) (i := (t : Int) + 1 + (u : Int)) (by omega) (by omega)
      have hr' : rs[t]? = some r := by simpa using hr
      have hq' : rs[t + 1 + u]? = some q := by
        rw [show ((t : Int) + 1 + (u : Int)).toNat = t + 1 + u by omega] at hq
        exact hq
      have hk : keepIJ rs t (t + 1 + u) = keepB r q ((t : Int) + 1 + (u : Int) == lastN rs rs.length) := by
        unfold keepIJ
        rw [hr', hq']
        simp only [Int.natCast_add, Int.cast_ofNat_Int]
      have hi := innerP_succ rs t u
      have hmk := c_must_keep hS hp rs hv hn t ((t : Int) + 1 + u) (lastN rs rs.length) r q (by omega) (by omega) (by omega) (by omega) hr hq
      simp (maxSteps := 1000000) (dsimp := false) only [↓qaG, ↓qaH, ↓qcp, ↓qco, ↓qcn, ↓qcq, ↓qa4, ↓qbG, ↓qbF, ↓qaa, ↓qac, ↓qab, ↓qba, ↓qbe, ↓qa6, ↓qbi, ↓qa5, ↓qbf, ↓qbb, ↓qa9, ↓qbh, ↓qbd, ↓qbg, ↓qcL, ↓qcK, ↓qcM, ↓qb4, ↓qbk, ↓qbj, ↓qaF, ↓qaE, ↓qcN, ↓qcO, ↓qa8, ↓qa7, ↓qbc, ↓qcT, ↓qcP, ↓qcR, ↓qcS, ↓qcQ, ↓qbl, ↓qbt, ↓qbs, ↓qbm, ↓qbo, ↓qbq, ↓qbu, ↓qbp, ↓qbr, ↓qbn, ↓qbW, ↓qbX, ↓qaf, ↓qae, ↓qag, ↓qaP, ↓qaO, ↓qaK, ↓qaJ, ↓qaL, ↓qaM, ↓qaN, ↓qaZ, ↓qbU, ↓qbH, ↓qbI, ↓qbJ, ↓qbK, ↓qcf, ↓qcg, ↓qch, ↓qci, ↓qa1, ↓qa3, ↓qa0, ↓qa2, ↓qar, ↓qaA, ↓qaw, ↓qav, ↓qau, ↓qay, ↓qaz, ↓qas, ↓qax, ↓qaB, ↓qat, ↓qcV, ↓qcU, ↓qaQ, ↓qaW, ↓qaV, ↓qaU, ↓qcF, ↓qcC, ↓qcz, ↓qcG, ↓qcA, ↓qcD, ↓qcE, ↓qcH, ↓qcB, ↓qb5, ↓qb3, ↓qb2, ↓qb1, ↓qbZ, ↓qbY, ↓qb0, ↓qcx, ↓qcv, ↓qcw, ↓qcu, ↓qcy, ↓qb9, ↓qcb, ↓qb6, ↓qce, ↓qcc, ↓qb8, ↓qca, ↓qcd, ↓qb7, ↓qaY, ↓qan, ↓qai, ↓qaj, ↓qam, ↓qak, ↓qal, ↓qct, ↓qcs, ↓qcr, ↓qaq, ↓qao, ↓qap, ↓qbv, ↓qah, ↓qbS, ↓qbC, ↓qaD, ↓qaC, ↓qbx, ↓qbw, ↓qcW, ↓qbT, ↓qbM, ↓qbN, ↓qbL, ↓qbD, ↓qbE, ↓qbO, qad, qbB, qbA, qbz, ↓qck, ↓qcj, ↓qcm, ↓qcl, qbV, ↓qbQ, ↓qbP, ↓qbR, qby, qcI, qcJ, qaI, behindInMarks, lastMarks, Option.map_some, List.contains_cons, List.map_cons, List.map_nil, String.reduceBEq, String.reduceEq, Bool.and_true, Bool.true_and, Bool.and_false, Bool.false_and, Bool.or_true, Bool.true_or, Bool.or_false, Bool.false_or, Bool.not_true, Bool.not_false, and_true, true_and, exists_eq_left', exists_eq_left, beq_self_eq_true, List.length_cons, List.length_nil, Nat.reduceAdd, Nat.zero_add, Nat.reduceLeDiff, decide_true, decide_false, if_false, if_true, reduceCtorEq, N17, ↓U17]
      refine ⟨(hmk).isFn, useC_of ((hmk).le (by decide)) ?_⟩
      simp (maxSteps := 1000000) (dsimp := false) only [↓qaG, ↓qaH, ↓qcp, ↓qco, ↓qcn, ↓qcq, ↓qa4, ↓qbG, ↓qbF, ↓qaa, ↓qac, ↓qab, ↓qba, ↓qbe, ↓qa6, ↓qbi, ↓qa5, ↓qbf, ↓qbb, ↓qa9, ↓qbh, ↓qbd, ↓qbg, ↓qcL, ↓qcK, ↓qcM, ↓qb4, ↓qbk, ↓qbj, ↓qaF, ↓qaE, ↓qcN, ↓qcO, ↓qa8, ↓qa7, ↓qbc, ↓qcT, ↓qcP, ↓qcR, ↓qcS, ↓qcQ, ↓qbl, ↓qbt, ↓qbs, ↓qbm, ↓qbo, ↓qbq, ↓qbu, ↓qbp, ↓qbr, ↓qbn, ↓qbW, ↓qbX, ↓qaf, ↓qae, ↓qag, ↓qaP, ↓qaO, ↓qaK, ↓qaJ, ↓qaL, ↓qaM, ↓qaN, ↓qaZ, ↓qbU, ↓qbH, ↓qbI, ↓qbJ, ↓qbK, ↓qcf, ↓qcg, ↓qch, ↓qci, ↓qa1, ↓qa3, ↓qa0, ↓qa2, ↓qar, ↓qaA, ↓qaw, ↓qav, ↓qau, ↓qay, ↓qaz, ↓qas, ↓qax, ↓qaB, ↓qat, ↓qcV, ↓qcU, ↓qaQ, ↓qaW, ↓qaV, ↓qaU, ↓qcF, ↓qcC, ↓qcz, ↓qcG, ↓qcA, ↓qcD, ↓qcE, ↓qcH, ↓qcB, ↓qb5, ↓qb3, ↓qb2, ↓qb1, ↓qbZ, ↓qbY, ↓qb0, ↓qcx, ↓qcv, ↓qcw, ↓qcu, ↓qcy, ↓qb9, ↓qcb, ↓qb6, ↓qce, ↓qcc, ↓qb8, ↓qca, ↓qcd, ↓qb7, ↓qaY, ↓qan, ↓qai, ↓qaj, ↓qam, ↓qak, ↓qal, ↓qct, ↓qcs, ↓qcr, ↓qaq, ↓qao, ↓qap, ↓qbv, ↓qah, ↓qbS, ↓qbC, ↓qaD, ↓qaC, ↓qbx, ↓qbw, ↓qcW, ↓qbT, ↓qbM, ↓qbN, ↓qbL, ↓qbD, ↓qbE, ↓qbO, qad, qbB, qbA, qbz, ↓qck, ↓qcj, ↓qcm, ↓qcl, qbV, ↓qbQ, ↓qbP, ↓qbR, qby, qcI, qcJ, qaI, behindInMarks, lastMarks, Option.map_some, List.contains_cons, List.map_cons, List.map_nil, String.reduceBEq, String.reduceEq, Bool.and_true, Bool.true_and, Bool.and_false, Bool.false_and, Bool.or_true, Bool.true_or, Bool.or_false, Bool.false_or, Bool.not_true, Bool.not_false, and_true, true_and, exists_eq_left', exists_eq_left, beq_self_eq_true, List.length_cons, List.length_nil, Nat.reduceAdd, Nat.zero_add, Nat.reduceLeDiff, decide_true, decide_false, if_false, if_true, reduceCtorEq, N17, ↓U17]
      refine iteB_of (fun h1 => ?_) (fun h1 => ?_)
      · rw [hk, h1] at hi
        simp only [if_true] at hi
        simp (maxSteps := 1000000) (dsimp := false) only [↓qaG, ↓qaH, ↓qcp, ↓qco, ↓qcn, ↓qcq, ↓qa4, ↓qbG, ↓qbF, ↓qaa, ↓qac, ↓qab, ↓qba, ↓qbe, ↓qa6, ↓qbi, ↓qa5, ↓qbf, ↓qbb, ↓qa9, ↓qbh, ↓qbd, ↓qbg, ↓qcL, ↓qcK, ↓qcM, ↓qb4, ↓qbk, ↓qbj, ↓qaF, ↓qaE, ↓qcN, ↓qcO, ↓qa8, ↓qa7, ↓qbc, ↓qcT, ↓qcP, ↓qcR, ↓qcS, ↓qcQ, ↓qbl, ↓qbt, ↓qbs, ↓qbm, ↓qbo, ↓qbq, ↓qbu, ↓qbp, ↓qbr, ↓qbn, ↓qbW, ↓qbX, ↓qaf, ↓qae, ↓qag, ↓qaP, ↓qaO, ↓qaK, ↓qaJ, ↓qaL, ↓qaM, ↓qaN, ↓qaZ, ↓qbU, ↓qbH, ↓qbI, ↓qbJ, ↓qbK, ↓qcf, ↓qcg, ↓qch, ↓qci, ↓qa1, ↓qa3, ↓qa0, ↓qa2, ↓qar, ↓qaA, ↓qaw, ↓qav, ↓qau, ↓qay, ↓qaz, ↓qas, ↓qax, ↓qaB, ↓qat, ↓qcV, ↓qcU, ↓qaQ, ↓qaW, ↓qaV, ↓qaU, ↓qcF, ↓qcC, ↓qcz, ↓qcG, ↓qcA, ↓qcD, ↓qcE, ↓qcH, ↓qcB, ↓qb5, ↓qb3, ↓qb2, ↓qb1, ↓qbZ, ↓qbY, ↓qb0, ↓qcx, ↓qcv, ↓qcw, ↓qcu, ↓qcy, ↓qb9, ↓qcb, ↓qb6, ↓qce, ↓qcc, ↓qb8, ↓qca, ↓qcd, ↓qb7, ↓qaY, ↓qan, ↓qai, ↓qaj, ↓qam, ↓qak, ↓qal, ↓qct, ↓qcs, ↓qcr, ↓qaq, ↓qao, ↓qap, ↓qbv, ↓qah, ↓qbS, ↓qbC, ↓qaD, ↓qaC, ↓qbx, ↓qbw, ↓qcW, ↓qbT, ↓qbM, ↓qbN, ↓qbL, ↓qbD, ↓qbE, ↓qbO, qad, qbB, qbA, qbz, ↓qck, ↓qcj, ↓qcm, ↓qcl, qbV, ↓qbQ, ↓qbP, ↓qbR, qby, qcI, qcJ, qaI, behindInMarks, lastMarks, Option.map_some, List.contains_cons, List.map_cons, List.map_nil, String.reduceBEq, String.reduceEq, Bool.and_true, Bool.true_and, Bool.and_false, Bool.false_and, Bool.or_true, Bool.true_or, Bool.or_false, Bool.false_or, Bool.not_true, Bool.not_false, and_true, true_and, exists_eq_left', exists_eq_left, beq_self_eq_true, List.length_cons, List.length_nil, Nat.reduceAdd, Nat.zero_add, Nat.reduceLeDiff, decide_true, decide_false, if_false, if_true, reduceCtorEq, N17, ↓U17]
        refine ⟨?_, ?_⟩
        · have h2 := outerP_len rs hn t
          have h3 := innerP_len rs t u
          rw [List.length_map, List.length_append]
          omega
        · have e : (outerP rs t ++ innerP rs t u).map pairD ++ [PyData.tuple [.int (t : Int), .int ((t : Int) + 1 + (u : Int))]] = (outerP rs t ++ innerP rs t (u + 1)).map pairD := by
            rw [hi]; simp [pairD]
          rw [e]
          (refine ⟨_, sub_Z ?_, rfl⟩; repeat (first | exact subV_n | refine subV_e ?_ | refine subV_d ?_))
      · rw [hk, h1] at hi
        simp only [Bool.false_eq_true, if_false, List.append_nil] at hi
        simp (maxSteps := 1000000) (dsimp := false) only [↓qaG, ↓qaH, ↓qcp, ↓qco, ↓qcn, ↓qcq, ↓qa4, ↓qbG, ↓qbF, ↓qaa, ↓qac, ↓qab, ↓qba, ↓qbe, ↓qa6, ↓qbi, ↓qa5, ↓qbf, ↓qbb, ↓qa9, ↓qbh, ↓qbd, ↓qbg, ↓qcL, ↓qcK, ↓qcM, ↓qb4, ↓qbk, ↓qbj, ↓qaF, ↓qaE, ↓qcN, ↓qcO, ↓qa8, ↓qa7, ↓qbc, ↓qcT, ↓qcP, ↓qcR, ↓qcS, ↓qcQ, ↓qbl, ↓qbt, ↓qbs, ↓qbm, ↓qbo, ↓qbq, ↓qbu, ↓qbp, ↓qbr, ↓qbn, ↓qbW, ↓qbX, ↓qaf, ↓qae, ↓qag, ↓qaP, ↓qaO, ↓qaK, ↓qaJ, ↓qaL, ↓qaM, ↓qaN, ↓qaZ, ↓qbU, ↓qbH, ↓qbI, ↓qbJ, ↓qbK, ↓qcf, ↓qcg, ↓qch, ↓qci, ↓qa1, ↓qa3, ↓qa0, ↓qa2, ↓qar, ↓qaA, ↓qaw, ↓qav, ↓qau, ↓qay, ↓qaz, ↓qas, ↓qax, ↓qaB, ↓qat, ↓qcV, ↓qcU, ↓qaQ, ↓qaW, ↓qaV, ↓qaU, ↓qcF, ↓qcC, ↓qcz, ↓qcG, ↓qcA, ↓qcD, ↓qcE, ↓qcH, ↓qcB, ↓qb5, ↓qb3, ↓qb2, ↓qb1, ↓qbZ, ↓qbY, ↓qb0, ↓qcx, ↓qcv, ↓qcw, ↓qcu, ↓qcy, ↓qb9, ↓qcb, ↓qb6, ↓qce, ↓qcc, ↓qb8, ↓qca, ↓qcd, ↓qb7, ↓qaY, ↓qan, ↓qai, ↓qaj, ↓qam, ↓qak, ↓qal, ↓qct, ↓qcs, ↓qcr, ↓qaq, ↓qao, ↓qap, ↓qbv, ↓qah, ↓qbS, ↓qbC, ↓qaD, ↓qaC, ↓qbx, ↓qbw, ↓qcW, ↓qbT, ↓qbM, ↓qbN, ↓qbL, ↓qbD, ↓qbE, ↓qbO, qad, qbB, qbA, qbz, ↓qck, ↓qcj, ↓qcm, ↓qcl, qbV, ↓qbQ, ↓qbP, ↓qbR, qby, qcI, qcJ, qaI, behindInMarks, lastMarks, Option.map_some, List.contains_cons, List.map_cons, List.map_nil, String.reduceBEq, String.reduceEq, Bool.and_true, Bool.true_and, Bool.and_false, Bool.false_and, Bool.or_true, Bool.true_or, Bool.or_false, Bool.false_or, Bool.not_true, Bool.not_false, and_true, true_and, exists_eq_left', exists_eq_left, beq_self_eq_true, List.length_cons, List.length_nil, Nat.reduceAdd, Nat.zero_add, Nat.reduceLeDiff, decide_true, decide_false, if_false, if_true, reduceCtorEq, N17, ↓U17]
        rw [← hi]
        (refine ⟨_, sub_Z ?_, rfl⟩; repeat (first | exact subV_n | refine subV_e ?_ | refine subV_d ?_))
    · subst hτ
      simp (maxSteps := 1000000) (dsimp := false) only [↓qaG, ↓qaH, ↓qcp, ↓qco, ↓qcn, ↓qcq, ↓qa4, ↓qbG, ↓qbF, ↓qaa, ↓qac, ↓qab, ↓qba, ↓qbe, ↓qa6, ↓qbi, ↓qa5, ↓qbf, ↓qbb, ↓qa9, ↓qbh, ↓qbd, ↓qbg, ↓qcL, ↓qcK, ↓qcM, ↓qb4, ↓qbk, ↓qbj, ↓qaF, ↓qaE, ↓qcN, ↓qcO, ↓qa8, ↓qa7, ↓qbc, ↓qcT, ↓qcP, ↓qcR, ↓qcS, ↓qcQ, ↓qbl, ↓qbt, ↓qbs, ↓qbm, ↓qbo, ↓qbq, ↓qbu, ↓qbp, ↓qbr, ↓qbn, ↓qbW, ↓qbX, ↓qaf, ↓qae, ↓qag, ↓qaP, ↓qaO, ↓qaK, ↓qaJ, ↓qaL, ↓qaM, ↓qaN, ↓qaZ, ↓qbU, ↓qbH, ↓qbI, ↓qbJ, ↓qbK, ↓qcf, ↓qcg, ↓qch, ↓qci, ↓qa1, ↓qa3, ↓qa0, ↓qa2, ↓qar, ↓qaA, ↓qaw, ↓qav, ↓qau, ↓qay, ↓qaz, ↓qas, ↓qax, ↓qaB, ↓qat, ↓qcV, ↓qcU, ↓qaQ, ↓qaW, ↓qaV, ↓qaU, ↓qcF, ↓qcC, ↓qcz, ↓qcG, ↓qcA, ↓qcD, ↓qcE, ↓qcH, ↓qcB, ↓qb5, ↓qb3, ↓qb2, ↓qb1, ↓qbZ, ↓qbY, ↓qb0, ↓qcx, ↓qcv, ↓qcw, ↓qcu, ↓qcy, ↓qb9, ↓qcb, ↓qb6, ↓qce, ↓qcc, ↓qb8, ↓qca, ↓qcd, ↓qb7, ↓qaY, ↓qan, ↓qai, ↓qaj, ↓qam, ↓qak, ↓qal, ↓qct, ↓qcs, ↓qcr, ↓qaq, ↓qao, ↓qap, ↓qbv, ↓qah, ↓qbS, ↓qbC, ↓qaD, ↓qaC, ↓qbx, ↓qbw, ↓qcW, ↓qbT, ↓qbM, ↓qbN, ↓qbL, ↓qbD, ↓qbE, ↓qbO, qad, qbB, qbA, qbz, ↓qck, ↓qcj, ↓qcm, ↓qcl, qbV, ↓qbQ, ↓qbP, ↓qbR, qby, qcI, qcJ, qaI, behindInMarks, lastMarks, Option.map_some, List.contains_cons, List.map_cons, List.map_nil, String.reduceBEq, String.reduceEq, Bool.and_true, Bool.true_and, Bool.and_false, Bool.false_and, Bool.or_true, Bool.true_or, Bool.or_false, Bool.false_or, Bool.not_true, Bool.not_false, and_true, true_and, exists_eq_left', exists_eq_left, beq_self_eq_true, List.length_cons, List.length_nil, Nat.reduceAdd, Nat.zero_add, Nat.reduceLeDiff, decide_true, decide_false, if_false, if_true, reduceCtorEq, N17, ↓U17, intsUp_len]
      rw [show ((rs.length : Int) - ((t : Int) + 1)).toNat = rs.length - (t + 1) by omega, ← outerP_succ]
      (refine ⟨_, sub_Z ?_, rfl⟩; repeat (first | exact subV_n | refine subV_e ?_ | refine subV_d ?_))
  · subst hτ
    simp (maxSteps := 1000000) (dsimp := false) only [↓qaG, ↓qaH, ↓qcp, ↓qco, ↓qcn, ↓qcq, ↓qa4, ↓qbG, ↓qbF, ↓qaa, ↓qac, ↓qab, ↓qba, ↓qbe, ↓qa6, ↓qbi, ↓qa5, ↓qbf, ↓qbb, ↓qa9, ↓qbh, ↓qbd, ↓qbg, ↓qcL, ↓qcK, ↓qcM, ↓qb4, ↓qbk, ↓qbj, ↓qaF, ↓qaE, ↓qcN, ↓qcO, ↓qa8, ↓qa7, ↓qbc, ↓qcT, ↓qcP, ↓qcR, ↓qcS, ↓qcQ, ↓qbl, ↓qbt, ↓qbs, ↓qbm, ↓qbo, ↓qbq, ↓qbu, ↓qbp, ↓qbr, ↓qbn, ↓qbW, ↓qbX, ↓qaf, ↓qae, ↓qag, ↓qaP, ↓qaO, ↓qaK, ↓qaJ, ↓qaL, ↓qaM, ↓qaN, ↓qaZ, ↓qbU, ↓qbH, ↓qbI, ↓qbJ, ↓qbK, ↓qcf, ↓qcg, ↓qch, ↓qci, ↓qa1, ↓qa3, ↓qa0, ↓qa2, ↓qar, ↓qaA, ↓qaw, ↓qav, ↓qau, ↓qay, ↓qaz, ↓qas, ↓qax, ↓qaB, ↓qat, ↓qcV, ↓qcU, ↓qaQ, ↓qaW, ↓qaV, ↓qaU, ↓qcF, ↓qcC, ↓qcz, ↓qcG, ↓qcA, ↓qcD, ↓qcE, ↓qcH, ↓qcB, ↓qb5, ↓qb3, ↓qb2, ↓qb1, ↓qbZ, ↓qbY, ↓qb0, ↓qcx, ↓qcv, ↓qcw, ↓qcu, ↓qcy, ↓qb9, ↓qcb, ↓qb6, ↓qce, ↓qcc, ↓qb8, ↓qca, ↓qcd, ↓qb7, ↓qaY, ↓qan, ↓qai, ↓qaj, ↓qam, ↓qak, ↓qal, ↓qct, ↓qcs, ↓qcr, ↓qaq, ↓qao, ↓qap, ↓qbv, ↓qah, ↓qbS, ↓qbC, ↓qaD, ↓qaC, ↓qbx, ↓qbw, ↓qcW, ↓qbT, ↓qbM, ↓qbN, ↓qbL, ↓qbD, ↓qbE, ↓qbO, qad, qbB, qbA, qbz, ↓qck, ↓qcj, ↓qcm, ↓qcl, qbV, ↓qbQ, ↓qbP, ↓qbR, qby, qcI, qcJ, qaI, behindInMarks, lastMarks, Option.map_some, List.contains_cons, List.map_cons, List.map_nil, String.reduceBEq, String.reduceEq, Bool.and_true, Bool.true_and, Bool.and_false, Bool.false_and, Bool.or_true, Bool.true_or, Bool.or_false, Bool.false_or, Bool.not_true, Bool.not_false, and_true, true_and, exists_eq_left', exists_eq_left, beq_self_eq_true, List.length_cons, List.length_nil, Nat.reduceAdd, Nat.zero_add, Nat.reduceLeDiff, decide_true, decide_false, if_false, if_true, reduceCtorEq, N17, ↓U17, intsUp_len]
    simp [opairs]
end
theorem itl0 {d : PyData} {ds : List PyData} {Q : PyData → Prop} : itemW (.list (d :: ds)) (.int 0) Q = Q d := by unfold itemW; simp
theorem itl1 {d e : PyData} {ds : List PyData} {Q : PyData → Prop} : itemW (.list (d :: e :: ds)) (.int 1) Q = Q e := by unfold itemW; simp
theorem itl2 {d e f : PyData} {ds : List PyData} {Q : PyData → Prop} : itemW (.list (d :: e :: f :: ds)) (.int 2) Q = Q f := by unfold itemW; simp
theorem itl3 {d e f g : PyData} {ds : List PyData} {Q : PyData → Prop} : itemW (.list (d :: e :: f :: g :: ds)) (.int 3) Q = Q g := by unfold itemW; simp
theorem itl4 {d e f g h : PyData} {ds : List PyData} {Q : PyData → Prop} : itemW (.list (d :: e :: f :: g :: h :: ds)) (.int 4) Q = Q h := by unfold itemW; simp
def heat1 (h : Int) : Int := (h * 75 + 74).fmod 65537
def fillS : Nat → Int → List Int → List Int
  | 0, _, l => l
  | k + 1, h, l => fillS k (heat1 h) (l ++ [(heat1 h).fmod 65536])
def seeds0 (ns : List Int) : List Int := (ns.take 45).map fun x => x.fmod 65536
def lawSeeds (ns : List Int) : List Int := fillS (45 - (seeds0 ns).length) (77 + ((seeds0 ns).length : Int)) (seeds0 ns)
def muS (τ : Sg) : Nat := match List.lookup (Str.ofString "seeds") τ with
  | some (Slot.lst l) => 45 - l.length
  | _ => 0
theorem fillS_len : ∀ (k : Nat) (h : Int) (l : List Int), (fillS k h l).length = l.length + k
  | 0, _, l => rfl
  | k + 1, h, l => by
    unfold fillS
    rw [fillS_len k, List.length_append]
    simp only [List.length_cons, List.length_nil]
    omega
theorem lawSeeds_len (ns : List Int) : (lawSeeds ns).length = 45 := by
  have : (seeds0 ns).length ≤ 45 := by
    unfold seeds0
    rw [List.length_map, List.length_take]
    omega
  unfold lawSeeds
  rw [fillS_len]
  omega
theorem fillS_rng : ∀ (k : Nat) (h : Int) (l : List Int), (∀ x ∈ l, 0 ≤ x ∧ x < 65536) → ∀ x ∈ fillS k h l, 0 ≤ x ∧ x < 65536
  | 0, _, l, hl => hl
  | k + 1, h, l, hl => by
    unfold fillS
    refine fillS_rng k _ _ fun x hx => ?_
    rcases List.mem_append.mp hx with hx | hx
    · exact hl x hx
    · rw [List.mem_singleton.mp hx]
      exact ⟨fm0 _ (by decide), fm1 _ (by decide)⟩
theorem lawSeeds_rng (ns : List Int) : ∀ x ∈ lawSeeds ns, 0 ≤ x ∧ x < 65536 := by
  refine fillS_rng _ _ _ fun x hx => ?_
  unfold seeds0 at hx
  obtain ⟨y, _, rfl⟩ := List.mem_map.mp hx
  exact ⟨fm0 _ (by decide), fm1 _ (by decide)⟩
def op5 (f : Int) : Op := if f = 0 then .add else if f = 1 then .sub else if f = 2 then .mul else if f = 3 then .ior else .xor
def op3 (f : Int) : Op := if f = 0 then .addi else if f = 1 then .lsli else .andi
def op4 (f : Int) : Op := if f = 0 then .ldr else if f = 1 then .ldb else if f = 2 then .str else .stb
def rowOf (a b : Int) : Row :=
  if a.fmod 13 < 5 then ⟨op5 (a.fmod 13), (a.fdiv 13).fmod 4, (a.fdiv 52).fmod 6, (a.fdiv 312).fmod 6⟩
  else if a.fmod 13 < 8 then ⟨op3 (a.fmod 13 - 5), (a.fdiv 13).fmod 4, (a.fdiv 52).fmod 6, b.fmod 29⟩
  else if a.fmod 13 = 8 then ⟨.mov, (a.fdiv 13).fmod 4, 0, (a.fdiv 52).fmod 6⟩
  else if a.fmod 13 = 9 then ⟨.movi, (a.fdiv 13).fmod 4, 0, b.fmod 500⟩
  else if a.fmod 13 = 10 then ⟨.geth, (a.fdiv 13).fmod 4, 0, 0⟩
  else ⟨op4 (b.fmod 4), (a.fdiv 13).fmod 4, 4 + ((a.fdiv 52).fmod 6).fmod 2, (b.fdiv 4).fmod 9⟩
theorem it5 {f : Int} {Q : PyData → Prop} (h0 : 0 ≤ f) (h1 : f < 5) : itemW (.list [.str (Str.ofString "ADD"), .str (Str.ofString "SUB"), .str (Str.ofString "MUL"), .str (Str.ofString "IOR"), .str (Str.ofString "XOR")]) (.int f) Q = Q (.str (Str.ofString (op5 f).nm)) := by
  have hf : f = 0 ∨ f = 1 ∨ f = 2 ∨ f = 3 ∨ f = 4 := by omega
  rcases hf with rfl | rfl | rfl | rfl | rfl <;> first | exact itl0 | exact itl1 | exact itl2 | exact itl3 | exact itl4
theorem it3 {f : Int} {Q : PyData → Prop} (h0 : 0 ≤ f) (h1 : f < 3) : itemW (.list [.str (Str.ofString "ADDI"), .str (Str.ofString "LSLI"), .str (Str.ofString "ANDI")]) (.int f) Q = Q (.str (Str.ofString (op3 f).nm)) := by
  have hf : f = 0 ∨ f = 1 ∨ f = 2 := by omega
  rcases hf with rfl | rfl | rfl <;> first | exact itl0 | exact itl1 | exact itl2
theorem it4 {f : Int} {Q : PyData → Prop} (h0 : 0 ≤ f) (h1 : f < 4) : itemW (.list [.str (Str.ofString "LDR"), .str (Str.ofString "LDB"), .str (Str.ofString "STR"), .str (Str.ofString "STB")]) (.int f) Q = Q (.str (Str.ofString (op4 f).nm)) := by
  have hf : f = 0 ∨ f = 1 ∨ f = 2 ∨ f = 3 := by omega
  rcases hf with rfl | rfl | rfl | rfl <;> first | exact itl0 | exact itl1 | exact itl2 | exact itl3
theorem op5_no (f : Int) : (op5 f).isMem = false ∧ op5 f ≠ .lsli := by
  unfold op5; repeat' split
  all_goals exact ⟨rfl, by decide⟩
theorem op3_no (f : Int) : (op3 f).isMem = false ∧ (op3 f = .addi ∨ op3 f = .lsli ∨ op3 f = .andi) := by
  unfold op3; repeat' split
  all_goals exact ⟨rfl, by decide⟩
theorem op4_no (f : Int) : (op4 f).isMem = true ∧ op4 f ≠ .lsli := by
  unfold op4; repeat' split
  all_goals exact ⟨rfl, by decide⟩
theorem rowOf_vr (a b : Int) : VR (rowOf a b) := by
  have h1 := fm0 (a.fdiv 13) (k := 4) (by decide)
  have h2 := fm1 (a.fdiv 13) (k := 4) (by decide)
  have h3 := fm0 (a.fdiv 52) (k := 6) (by decide)
  have h4 := fm1 (a.fdiv 52) (k := 6) (by decide)
  have h5 := fm0 (a.fdiv 312) (k := 6) (by decide)
  have h6 := fm1 (a.fdiv 312) (k := 6) (by decide)
  have h7 := fm0 b (k := 29) (by decide)
  have h8 := fm1 b (k := 29) (by decide)
  have h9 := fm0 b (k := 500) (by decide)
  have h10 := fm1 b (k := 500) (by decide)
  have h11 := fm0 ((a.fdiv 52).fmod 6) (k := 2) (by decide)
  have h12 := fm1 ((a.fdiv 52).fmod 6) (k := 2) (by decide)
  have h13 := fm0 (b.fdiv 4) (k := 9) (by decide)
  have h14 := fm1 (b.fdiv 4) (k := 9) (by decide)
  unfold rowOf
  generalize ((a.fdiv 52).fmod 6).fmod 2 = m at *
  generalize (a.fdiv 52).fmod 6 = l at *
  generalize (a.fdiv 13).fmod 4 = t at *
  generalize (a.fdiv 312).fmod 6 = u at *
  generalize b.fmod 29 = v at *
  generalize b.fmod 500 = w at *
  generalize (b.fdiv 4).fmod 9 = z at *
  have z0 : (0 : Int) ≤ 0 := by decide
  have z6 : (0 : Int) < 6 := by decide
  have big : ∀ x : Int, x < 29 → x < 500 := fun x h => by omega
  have big6 : ∀ x : Int, x < 6 → x < 500 := fun x h => by omega
  have f6 : ∀ {x : Op}, x.isMem = false → x.isMem = true → False := fun a b => by rw [a] at b; cases b
  have t6 : ∀ {x : Op}, x.isMem = true → x.isMem = false → False := fun a b => by rw [a] at b; cases b
  split
  · have n := op5_no (a.fmod 13)
    exact ⟨h1, h2, h3, h4, h5, big6 _ h6, fun _ _ _ _ _ => h6, fun e => absurd e n.2, fun e => (f6 n.1 e).elim, fun e => (f6 n.1 e).elim⟩
  · split
    · have n := op3_no (a.fmod 13 - 5)
      exact ⟨h1, h2, h3, h4, h7, big _ h8, fun _ e1 e2 e3 _ => (n.2.elim e1 fun n => n.elim e2 e3).elim, fun _ => h8, fun e => (f6 n.1 e).elim, fun e => (f6 n.1 e).elim⟩
    · split
      · exact ⟨h1, h2, z0, z6, h3, big6 _ h4, fun _ _ _ _ _ => h4, fun e => (by cases e), fun e => (by cases e), fun e => (by cases e)⟩
      · split
        · exact ⟨h1, h2, z0, z6, h9, h10, fun e => absurd rfl e, fun e => (by cases e), fun e => (by cases e), fun e => (by cases e)⟩
        · split
          · exact ⟨h1, h2, z0, z6, z0, big6 _ z6, fun _ _ _ _ _ => z6, fun e => (by cases e), fun e => (by cases e), fun e => (by cases e)⟩
          · have n := op4_no (b.fmod 4)
            exact ⟨h1, h2, by show 0 ≤ 4 + m; omega, by show 4 + m < 6; omega, h13, by show z < 500; omega, fun _ _ _ _ e => (t6 n.1 e).elim, fun e => absurd e n.2, fun _ => by show 4 ≤ 4 + m; omega, fun _ => h14⟩
section
variable {cx : Cx} (hS : SortOk cx) (hp : cx.p = vw)
include hS hp
theorem c_law_row (a b : Int) : CallsTo cx 1 "_law_row" [.int a, .int b] (rowD (rowOf a b)) := by
  have h0 := fm0 a (k := 13) (by decide)
  have h1 := fm1 a (k := 13) (by decide)
  have fin : ∀ {x : PyData} {y : Row}, rowOf a b = y → x = rowD y → x = rowD (rowOf a b) := fun e h => by rw [e]; exact h
  refine fn_at2 hS hp 19 (own := []) (k := 0) (n := 8) (m := 14) (xs := [Str.ofString "seed", Str.ofString "other"]) (ys := [Str.ofString "form", Str.ofString "to", Str.ofString "left", Str.ofString "right", Str.ofString "name"]) (tb := tb19) rfl (by kernel_rfl) rfl rfl (fun _ _ _ vs h => ?_) rfl (by kernel_rfl) (by simp [qcJ]) rfl ?_
  · rcases vs with _ | ⟨v1, _ | ⟨v2, _ | ⟨w, ws⟩⟩⟩ <;> first | rfl | simp at h
  simp (maxSteps := 1000000) (dsimp := false) only [↓qaG, ↓qaH, ↓qcp, ↓qco, ↓qcn, ↓qcq, ↓qa4, ↓qbG, ↓qbF, ↓qaa, ↓qac, ↓qab, ↓qba, ↓qbe, ↓qa6, ↓qbi, ↓qa5, ↓qbf, ↓qbb, ↓qa9, ↓qbh, ↓qbd, ↓qbg, ↓qcL, ↓qcK, ↓qcM, ↓qb4, ↓qbk, ↓qbj, ↓qaF, ↓qaE, ↓qcN, ↓qcO, ↓qa8, ↓qa7, ↓qbc, ↓qcT, ↓qcP, ↓qcR, ↓qcS, ↓qcQ, ↓qbl, ↓qbt, ↓qbs, ↓qbm, ↓qbo, ↓qbq, ↓qbu, ↓qbp, ↓qbr, ↓qbn, ↓qbW, ↓qbX, ↓qaf, ↓qae, ↓qag, ↓qaP, ↓qaO, ↓qaK, ↓qaJ, ↓qaL, ↓qaM, ↓qaN, ↓qaZ, ↓qbU, ↓qbH, ↓qbI, ↓qbJ, ↓qbK, ↓qcf, ↓qcg, ↓qch, ↓qci, ↓qa1, ↓qa3, ↓qa0, ↓qa2, ↓qar, ↓qaA, ↓qaw, ↓qav, ↓qau, ↓qay, ↓qaz, ↓qas, ↓qax, ↓qaB, ↓qat, ↓qcV, ↓qcU, ↓qaQ, ↓qaW, ↓qaV, ↓qaU, ↓qcF, ↓qcC, ↓qcz, ↓qcG, ↓qcA, ↓qcD, ↓qcE, ↓qcH, ↓qcB, ↓qb5, ↓qb3, ↓qb2, ↓qb1, ↓qbZ, ↓qbY, ↓qb0, ↓qcx, ↓qcv, ↓qcw, ↓qcu, ↓qcy, ↓qb9, ↓qcb, ↓qb6, ↓qce, ↓qcc, ↓qb8, ↓qca, ↓qcd, ↓qb7, ↓qaY, ↓qan, ↓qai, ↓qaj, ↓qam, ↓qak, ↓qal, ↓qct, ↓qcs, ↓qcr, ↓qaq, ↓qao, ↓qap, ↓qbv, ↓qah, ↓qbS, ↓qbC, ↓qaD, ↓qaC, ↓qbx, ↓qbw, ↓qcW, ↓qbT, ↓qbM, ↓qbN, ↓qbL, ↓qbD, ↓qbE, ↓qbO, qad, qbB, qbA, qbz, ↓qck, ↓qcj, ↓qcm, ↓qcl, qbV, ↓qbQ, ↓qbP, ↓qbR, qby, qcI, qcJ, qaI, behindInMarks, lastMarks, Option.map_some, List.contains_cons, List.map_cons, List.map_nil, String.reduceBEq, String.reduceEq, Bool.and_true, Bool.true_and, Bool.and_false, Bool.false_and, Bool.or_true, Bool.true_or, Bool.or_false, Bool.false_or, Bool.not_true, Bool.not_false, and_true, true_and, exists_eq_left', exists_eq_left, beq_self_eq_true, List.length_cons, List.length_nil, Nat.reduceAdd, Nat.zero_add, Nat.reduceLeDiff, decide_true, decide_false, if_false, if_true, reduceCtorEq, N19, ↓U19]
  refine ⟨by decide, by decide, by decide, by decide, by decide, by decide, by decide, by decide, by decide, by decide, iteB_of (fun g1 => ?_) (fun g1 => ?_)⟩
  · have g1' := of_decide_eq_true g1
    simp (maxSteps := 1000000) (dsimp := false) only [↓qaG, ↓qaH, ↓qcp, ↓qco, ↓qcn, ↓qcq, ↓qa4, ↓qbG, ↓qbF, ↓qaa, ↓qac, ↓qab, ↓qba, ↓qbe, ↓qa6, ↓qbi, ↓qa5, ↓qbf, ↓qbb, ↓qa9, ↓qbh, ↓qbd, ↓qbg, ↓qcL, ↓qcK, ↓qcM, ↓qb4, ↓qbk, ↓qbj, ↓qaF, ↓qaE, ↓qcN, ↓qcO, ↓qa8, ↓qa7, ↓qbc, ↓qcT, ↓qcP, ↓qcR, ↓qcS, ↓qcQ, ↓qbl, ↓qbt, ↓qbs, ↓qbm, ↓qbo, ↓qbq, ↓qbu, ↓qbp, ↓qbr, ↓qbn, ↓qbW, ↓qbX, ↓qaf, ↓qae, ↓qag, ↓qaP, ↓qaO, ↓qaK, ↓qaJ, ↓qaL, ↓qaM, ↓qaN, ↓qaZ, ↓qbU, ↓qbH, ↓qbI, ↓qbJ, ↓qbK, ↓qcf, ↓qcg, ↓qch, ↓qci, ↓qa1, ↓qa3, ↓qa0, ↓qa2, ↓qar, ↓qaA, ↓qaw, ↓qav, ↓qau, ↓qay, ↓qaz, ↓qas, ↓qax, ↓qaB, ↓qat, ↓qcV, ↓qcU, ↓qaQ, ↓qaW, ↓qaV, ↓qaU, ↓qcF, ↓qcC, ↓qcz, ↓qcG, ↓qcA, ↓qcD, ↓qcE, ↓qcH, ↓qcB, ↓qb5, ↓qb3, ↓qb2, ↓qb1, ↓qbZ, ↓qbY, ↓qb0, ↓qcx, ↓qcv, ↓qcw, ↓qcu, ↓qcy, ↓qb9, ↓qcb, ↓qb6, ↓qce, ↓qcc, ↓qb8, ↓qca, ↓qcd, ↓qb7, ↓qaY, ↓qan, ↓qai, ↓qaj, ↓qam, ↓qak, ↓qal, ↓qct, ↓qcs, ↓qcr, ↓qaq, ↓qao, ↓qap, ↓qbv, ↓qah, ↓qbS, ↓qbC, ↓qaD, ↓qaC, ↓qbx, ↓qbw, ↓qcW, ↓qbT, ↓qbM, ↓qbN, ↓qbL, ↓qbD, ↓qbE, ↓qbO, qad, qbB, qbA, qbz, ↓qck, ↓qcj, ↓qcm, ↓qcl, qbV, ↓qbQ, ↓qbP, ↓qbR, qby, qcI, qcJ, qaI, behindInMarks, lastMarks, Option.map_some, List.contains_cons, List.map_cons, List.map_nil, String.reduceBEq, String.reduceEq, Bool.and_true, Bool.true_and, Bool.and_false, Bool.false_and, Bool.or_true, Bool.true_or, Bool.or_false, Bool.false_or, Bool.not_true, Bool.not_false, and_true, true_and, exists_eq_left', exists_eq_left, beq_self_eq_true, List.length_cons, List.length_nil, Nat.reduceAdd, Nat.zero_add, Nat.reduceLeDiff, decide_true, decide_false, if_false, if_true, reduceCtorEq, N19, ↓U19, ↓it5 h0 g1']
    exact fin (if_pos g1') rfl
  · have g1' := of_decide_eq_false g1
    simp (maxSteps := 1000000) (dsimp := false) only [↓qaG, ↓qaH, ↓qcp, ↓qco, ↓qcn, ↓qcq, ↓qa4, ↓qbG, ↓qbF, ↓qaa, ↓qac, ↓qab, ↓qba, ↓qbe, ↓qa6, ↓qbi, ↓qa5, ↓qbf, ↓qbb, ↓qa9, ↓qbh, ↓qbd, ↓qbg, ↓qcL, ↓qcK, ↓qcM, ↓qb4, ↓qbk, ↓qbj, ↓qaF, ↓qaE, ↓qcN, ↓qcO, ↓qa8, ↓qa7, ↓qbc, ↓qcT, ↓qcP, ↓qcR, ↓qcS, ↓qcQ, ↓qbl, ↓qbt, ↓qbs, ↓qbm, ↓qbo, ↓qbq, ↓qbu, ↓qbp, ↓qbr, ↓qbn, ↓qbW, ↓qbX, ↓qaf, ↓qae, ↓qag, ↓qaP, ↓qaO, ↓qaK, ↓qaJ, ↓qaL, ↓qaM, ↓qaN, ↓qaZ, ↓qbU, ↓qbH, ↓qbI, ↓qbJ, ↓qbK, ↓qcf, ↓qcg, ↓qch, ↓qci, ↓qa1, ↓qa3, ↓qa0, ↓qa2, ↓qar, ↓qaA, ↓qaw, ↓qav, ↓qau, ↓qay, ↓qaz, ↓qas, ↓qax, ↓qaB, ↓qat, ↓qcV, ↓qcU, ↓qaQ, ↓qaW, ↓qaV, ↓qaU, ↓qcF, ↓qcC, ↓qcz, ↓qcG, ↓qcA, ↓qcD, ↓qcE, ↓qcH, ↓qcB, ↓qb5, ↓qb3, ↓qb2, ↓qb1, ↓qbZ, ↓qbY, ↓qb0, ↓qcx, ↓qcv, ↓qcw, ↓qcu, ↓qcy, ↓qb9, ↓qcb, ↓qb6, ↓qce, ↓qcc, ↓qb8, ↓qca, ↓qcd, ↓qb7, ↓qaY, ↓qan, ↓qai, ↓qaj, ↓qam, ↓qak, ↓qal, ↓qct, ↓qcs, ↓qcr, ↓qaq, ↓qao, ↓qap, ↓qbv, ↓qah, ↓qbS, ↓qbC, ↓qaD, ↓qaC, ↓qbx, ↓qbw, ↓qcW, ↓qbT, ↓qbM, ↓qbN, ↓qbL, ↓qbD, ↓qbE, ↓qbO, qad, qbB, qbA, qbz, ↓qck, ↓qcj, ↓qcm, ↓qcl, qbV, ↓qbQ, ↓qbP, ↓qbR, qby, qcI, qcJ, qaI, behindInMarks, lastMarks, Option.map_some, List.contains_cons, List.map_cons, List.map_nil, String.reduceBEq, String.reduceEq, Bool.and_true, Bool.true_and, Bool.and_false, Bool.false_and, Bool.or_true, Bool.true_or, Bool.or_false, Bool.false_or, Bool.not_true, Bool.not_false, and_true, true_and, exists_eq_left', exists_eq_left, beq_self_eq_true, List.length_cons, List.length_nil, Nat.reduceAdd, Nat.zero_add, Nat.reduceLeDiff, decide_true, decide_false, if_false, if_true, reduceCtorEq, N19, ↓U19]
    refine iteB_of (fun g2 => ?_) (fun g2 => ?_)
    · have g2' := of_decide_eq_true g2
      simp (maxSteps := 1000000) (dsimp := false) only [↓qaG, ↓qaH, ↓qcp, ↓qco, ↓qcn, ↓qcq, ↓qa4, ↓qbG, ↓qbF, ↓qaa, ↓qac, ↓qab, ↓qba, ↓qbe, ↓qa6, ↓qbi, ↓qa5, ↓qbf, ↓qbb, ↓qa9, ↓qbh, ↓qbd, ↓qbg, ↓qcL, ↓qcK, ↓qcM, ↓qb4, ↓qbk, ↓qbj, ↓qaF, ↓qaE, ↓qcN, ↓qcO, ↓qa8, ↓qa7, ↓qbc, ↓qcT, ↓qcP, ↓qcR, ↓qcS, ↓qcQ, ↓qbl, ↓qbt, ↓qbs, ↓qbm, ↓qbo, ↓qbq, ↓qbu, ↓qbp, ↓qbr, ↓qbn, ↓qbW, ↓qbX, ↓qaf, ↓qae, ↓qag, ↓qaP, ↓qaO, ↓qaK, ↓qaJ, ↓qaL, ↓qaM, ↓qaN, ↓qaZ, ↓qbU, ↓qbH, ↓qbI, ↓qbJ, ↓qbK, ↓qcf, ↓qcg, ↓qch, ↓qci, ↓qa1, ↓qa3, ↓qa0, ↓qa2, ↓qar, ↓qaA, ↓qaw, ↓qav, ↓qau, ↓qay, ↓qaz, ↓qas, ↓qax, ↓qaB, ↓qat, ↓qcV, ↓qcU, ↓qaQ, ↓qaW, ↓qaV, ↓qaU, ↓qcF, ↓qcC, ↓qcz, ↓qcG, ↓qcA, ↓qcD, ↓qcE, ↓qcH, ↓qcB, ↓qb5, ↓qb3, ↓qb2, ↓qb1, ↓qbZ, ↓qbY, ↓qb0, ↓qcx, ↓qcv, ↓qcw, ↓qcu, ↓qcy, ↓qb9, ↓qcb, ↓qb6, ↓qce, ↓qcc, ↓qb8, ↓qca, ↓qcd, ↓qb7, ↓qaY, ↓qan, ↓qai, ↓qaj, ↓qam, ↓qak, ↓qal, ↓qct, ↓qcs, ↓qcr, ↓qaq, ↓qao, ↓qap, ↓qbv, ↓qah, ↓qbS, ↓qbC, ↓qaD, ↓qaC, ↓qbx, ↓qbw, ↓qcW, ↓qbT, ↓qbM, ↓qbN, ↓qbL, ↓qbD, ↓qbE, ↓qbO, qad, qbB, qbA, qbz, ↓qck, ↓qcj, ↓qcm, ↓qcl, qbV, ↓qbQ, ↓qbP, ↓qbR, qby, qcI, qcJ, qaI, behindInMarks, lastMarks, Option.map_some, List.contains_cons, List.map_cons, List.map_nil, String.reduceBEq, String.reduceEq, Bool.and_true, Bool.true_and, Bool.and_false, Bool.false_and, Bool.or_true, Bool.true_or, Bool.or_false, Bool.false_or, Bool.not_true, Bool.not_false, and_true, true_and, exists_eq_left', exists_eq_left, beq_self_eq_true, List.length_cons, List.length_nil, Nat.reduceAdd, Nat.zero_add, Nat.reduceLeDiff, decide_true, decide_false, if_false, if_true, reduceCtorEq, N19, ↓U19, ↓it3 (f := a.fmod 13 - 5) (by omega) (by omega)]
      exact ⟨by decide, fin ((if_neg g1').trans (if_pos g2')) rfl⟩
    · have g2' := of_decide_eq_false g2
      simp (maxSteps := 1000000) (dsimp := false) only [↓qaG, ↓qaH, ↓qcp, ↓qco, ↓qcn, ↓qcq, ↓qa4, ↓qbG, ↓qbF, ↓qaa, ↓qac, ↓qab, ↓qba, ↓qbe, ↓qa6, ↓qbi, ↓qa5, ↓qbf, ↓qbb, ↓qa9, ↓qbh, ↓qbd, ↓qbg, ↓qcL, ↓qcK, ↓qcM, ↓qb4, ↓qbk, ↓qbj, ↓qaF, ↓qaE, ↓qcN, ↓qcO, ↓qa8, ↓qa7, ↓qbc, ↓qcT, ↓qcP, ↓qcR, ↓qcS, ↓qcQ, ↓qbl, ↓qbt, ↓qbs, ↓qbm, ↓qbo, ↓qbq, ↓qbu, ↓qbp, ↓qbr, ↓qbn, ↓qbW, ↓qbX, ↓qaf, ↓qae, ↓qag, ↓qaP, ↓qaO, ↓qaK, ↓qaJ, ↓qaL, ↓qaM, ↓qaN, ↓qaZ, ↓qbU, ↓qbH, ↓qbI, ↓qbJ, ↓qbK, ↓qcf, ↓qcg, ↓qch, ↓qci, ↓qa1, ↓qa3, ↓qa0, ↓qa2, ↓qar, ↓qaA, ↓qaw, ↓qav, ↓qau, ↓qay, ↓qaz, ↓qas, ↓qax, ↓qaB, ↓qat, ↓qcV, ↓qcU, ↓qaQ, ↓qaW, ↓qaV, ↓qaU, ↓qcF, ↓qcC, ↓qcz, ↓qcG, ↓qcA, ↓qcD, ↓qcE, ↓qcH, ↓qcB, ↓qb5, ↓qb3, ↓qb2, ↓qb1, ↓qbZ, ↓qbY, ↓qb0, ↓qcx, ↓qcv, ↓qcw, ↓qcu, ↓qcy, ↓qb9, ↓qcb, ↓qb6, ↓qce, ↓qcc, ↓qb8, ↓qca, ↓qcd, ↓qb7, ↓qaY, ↓qan, ↓qai, ↓qaj, ↓qam, ↓qak, ↓qal, ↓qct, ↓qcs, ↓qcr, ↓qaq, ↓qao, ↓qap, ↓qbv, ↓qah, ↓qbS, ↓qbC, ↓qaD, ↓qaC, ↓qbx, ↓qbw, ↓qcW, ↓qbT, ↓qbM, ↓qbN, ↓qbL, ↓qbD, ↓qbE, ↓qbO, qad, qbB, qbA, qbz, ↓qck, ↓qcj, ↓qcm, ↓qcl, qbV, ↓qbQ, ↓qbP, ↓qbR, qby, qcI, qcJ, qaI, behindInMarks, lastMarks, Option.map_some, List.contains_cons, List.map_cons, List.map_nil, String.reduceBEq, String.reduceEq, Bool.and_true, Bool.true_and, Bool.and_false, Bool.false_and, Bool.or_true, Bool.true_or, Bool.or_false, Bool.false_or, Bool.not_true, Bool.not_false, and_true, true_and, exists_eq_left', exists_eq_left, beq_self_eq_true, List.length_cons, List.length_nil, Nat.reduceAdd, Nat.zero_add, Nat.reduceLeDiff, decide_true, decide_false, if_false, if_true, reduceCtorEq, N19, ↓U19]
      refine iteB_of (fun g3 => ?_) (fun g3 => ?_)
      · simp (maxSteps := 1000000) (dsimp := false) only [↓qaG, ↓qaH, ↓qcp, ↓qco, ↓qcn, ↓qcq, ↓qa4, ↓qbG, ↓qbF, ↓qaa, ↓qac, ↓qab, ↓qba, ↓qbe, ↓qa6, ↓qbi, ↓qa5, ↓qbf, ↓qbb, ↓qa9, ↓qbh, ↓qbd, ↓qbg, ↓qcL, ↓qcK, ↓qcM, ↓qb4, ↓qbk, ↓qbj, ↓qaF, ↓qaE, ↓qcN, ↓qcO, ↓qa8, ↓qa7, ↓qbc, ↓qcT, ↓qcP, ↓qcR, ↓qcS, ↓qcQ, ↓qbl, ↓qbt, ↓qbs, ↓qbm, ↓qbo, ↓qbq, ↓qbu, ↓qbp, ↓qbr, ↓qbn, ↓qbW, ↓qbX, ↓qaf, ↓qae, ↓qag, ↓qaP, ↓qaO, ↓qaK, ↓qaJ, ↓qaL, ↓qaM, ↓qaN, ↓qaZ, ↓qbU, ↓qbH, ↓qbI, ↓qbJ, ↓qbK, ↓qcf, ↓qcg, ↓qch, ↓qci, ↓qa1, ↓qa3, ↓qa0, ↓qa2, ↓qar, ↓qaA, ↓qaw, ↓qav, ↓qau, ↓qay, ↓qaz, ↓qas, ↓qax, ↓qaB, ↓qat, ↓qcV, ↓qcU, ↓qaQ, ↓qaW, ↓qaV, ↓qaU, ↓qcF, ↓qcC, ↓qcz, ↓qcG, ↓qcA, ↓qcD, ↓qcE, ↓qcH, ↓qcB, ↓qb5, ↓qb3, ↓qb2, ↓qb1, ↓qbZ, ↓qbY, ↓qb0, ↓qcx, ↓qcv, ↓qcw, ↓qcu, ↓qcy, ↓qb9, ↓qcb, ↓qb6, ↓qce, ↓qcc, ↓qb8, ↓qca, ↓qcd, ↓qb7, ↓qaY, ↓qan, ↓qai, ↓qaj, ↓qam, ↓qak, ↓qal, ↓qct, ↓qcs, ↓qcr, ↓qaq, ↓qao, ↓qap, ↓qbv, ↓qah, ↓qbS, ↓qbC, ↓qaD, ↓qaC, ↓qbx, ↓qbw, ↓qcW, ↓qbT, ↓qbM, ↓qbN, ↓qbL, ↓qbD, ↓qbE, ↓qbO, qad, qbB, qbA, qbz, ↓qck, ↓qcj, ↓qcm, ↓qcl, qbV, ↓qbQ, ↓qbP, ↓qbR, qby, qcI, qcJ, qaI, behindInMarks, lastMarks, Option.map_some, List.contains_cons, List.map_cons, List.map_nil, String.reduceBEq, String.reduceEq, Bool.and_true, Bool.true_and, Bool.and_false, Bool.false_and, Bool.or_true, Bool.true_or, Bool.or_false, Bool.false_or, Bool.not_true, Bool.not_false, and_true, true_and, exists_eq_left', exists_eq_left, beq_self_eq_true, List.length_cons, List.length_nil, Nat.reduceAdd, Nat.zero_add, Nat.reduceLeDiff, decide_true, decide_false, if_false, if_true, reduceCtorEq, N19, ↓U19]
        exact fin (((if_neg g1').trans (if_neg g2')).trans (if_pos (eq_of_beq g3))) rfl
      · have g3' : ¬ a.fmod 13 = 8 := beq_eq_false_iff_ne.mp g3
        simp (maxSteps := 1000000) (dsimp := false) only [↓qaG, ↓qaH, ↓qcp, ↓qco, ↓qcn, ↓qcq, ↓qa4, ↓qbG, ↓qbF, ↓qaa, ↓qac, ↓qab, ↓qba, ↓qbe, ↓qa6, ↓qbi, ↓qa5, ↓qbf, ↓qbb, ↓qa9, ↓qbh, ↓qbd, ↓qbg, ↓qcL, ↓qcK, ↓qcM, ↓qb4, ↓qbk, ↓qbj, ↓qaF, ↓qaE, ↓qcN, ↓qcO, ↓qa8, ↓qa7, ↓qbc, ↓qcT, ↓qcP, ↓qcR, ↓qcS, ↓qcQ, ↓qbl, ↓qbt, ↓qbs, ↓qbm, ↓qbo, ↓qbq, ↓qbu, ↓qbp, ↓qbr, ↓qbn, ↓qbW, ↓qbX, ↓qaf, ↓qae, ↓qag, ↓qaP, ↓qaO, ↓qaK, ↓qaJ, ↓qaL, ↓qaM, ↓qaN, ↓qaZ, ↓qbU, ↓qbH, ↓qbI, ↓qbJ, ↓qbK, ↓qcf, ↓qcg, ↓qch, ↓qci, ↓qa1, ↓qa3, ↓qa0, ↓qa2, ↓qar, ↓qaA, ↓qaw, ↓qav, ↓qau, ↓qay, ↓qaz, ↓qas, ↓qax, ↓qaB, ↓qat, ↓qcV, ↓qcU, ↓qaQ, ↓qaW, ↓qaV, ↓qaU, ↓qcF, ↓qcC, ↓qcz, ↓qcG, ↓qcA, ↓qcD, ↓qcE, ↓qcH, ↓qcB, ↓qb5, ↓qb3, ↓qb2, ↓qb1, ↓qbZ, ↓qbY, ↓qb0, ↓qcx, ↓qcv, ↓qcw, ↓qcu, ↓qcy, ↓qb9, ↓qcb, ↓qb6, ↓qce, ↓qcc, ↓qb8, ↓qca, ↓qcd, ↓qb7, ↓qaY, ↓qan, ↓qai, ↓qaj, ↓qam, ↓qak, ↓qal, ↓qct, ↓qcs, ↓qcr, ↓qaq, ↓qao, ↓qap, ↓qbv, ↓qah, ↓qbS, ↓qbC, ↓qaD, ↓qaC, ↓qbx, ↓qbw, ↓qcW, ↓qbT, ↓qbM, ↓qbN, ↓qbL, ↓qbD, ↓qbE, ↓qbO, qad, qbB, qbA, qbz, ↓qck, ↓qcj, ↓qcm, ↓qcl, qbV, ↓qbQ, ↓qbP, ↓qbR, qby, qcI, qcJ, qaI, behindInMarks, lastMarks, Option.map_some, List.contains_cons, List.map_cons, List.map_nil, String.reduceBEq, String.reduceEq, Bool.and_true, Bool.true_and, Bool.and_false, Bool.false_and, Bool.or_true, Bool.true_or, Bool.or_false, Bool.false_or, Bool.not_true, Bool.not_false, and_true, true_and, exists_eq_left', exists_eq_left, beq_self_eq_true, List.length_cons, List.length_nil, Nat.reduceAdd, Nat.zero_add, Nat.reduceLeDiff, decide_true, decide_false, if_false, if_true, reduceCtorEq, N19, ↓U19]
        refine iteB_of (fun g4 => ?_) (fun g4 => ?_)
        · simp (maxSteps := 1000000) (dsimp := false) only [↓qaG, ↓qaH, ↓qcp, ↓qco, ↓qcn, ↓qcq, ↓qa4, ↓qbG, ↓qbF, ↓qaa, ↓qac, ↓qab, ↓qba, ↓qbe, ↓qa6, ↓qbi, ↓qa5, ↓qbf, ↓qbb, ↓qa9, ↓qbh, ↓qbd, ↓qbg, ↓qcL, ↓qcK, ↓qcM, ↓qb4, ↓qbk, ↓qbj, ↓qaF, ↓qaE, ↓qcN, ↓qcO, ↓qa8, ↓qa7, ↓qbc, ↓qcT, ↓qcP, ↓qcR, ↓qcS, ↓qcQ, ↓qbl, ↓qbt, ↓qbs, ↓qbm, ↓qbo, ↓qbq, ↓qbu, ↓qbp, ↓qbr, ↓qbn, ↓qbW, ↓qbX, ↓qaf, ↓qae, ↓qag, ↓qaP, ↓qaO, ↓qaK, ↓qaJ, ↓qaL, ↓qaM, ↓qaN, ↓qaZ, ↓qbU, ↓qbH, ↓qbI, ↓qbJ, ↓qbK, ↓qcf, ↓qcg, ↓qch, ↓qci, ↓qa1, ↓qa3, ↓qa0, ↓qa2, ↓qar, ↓qaA, ↓qaw, ↓qav, ↓qau, ↓qay, ↓qaz, ↓qas, ↓qax, ↓qaB, ↓qat, ↓qcV, ↓qcU, ↓qaQ, ↓qaW, ↓qaV, ↓qaU, ↓qcF, ↓qcC, ↓qcz, ↓qcG, ↓qcA, ↓qcD, ↓qcE, ↓qcH, ↓qcB, ↓qb5, ↓qb3, ↓qb2, ↓qb1, ↓qbZ, ↓qbY, ↓qb0, ↓qcx, ↓qcv, ↓qcw, ↓qcu, ↓qcy, ↓qb9, ↓qcb, ↓qb6, ↓qce, ↓qcc, ↓qb8, ↓qca, ↓qcd, ↓qb7, ↓qaY, ↓qan, ↓qai, ↓qaj, ↓qam, ↓qak, ↓qal, ↓qct, ↓qcs, ↓qcr, ↓qaq, ↓qao, ↓qap, ↓qbv, ↓qah, ↓qbS, ↓qbC, ↓qaD, ↓qaC, ↓qbx, ↓qbw, ↓qcW, ↓qbT, ↓qbM, ↓qbN, ↓qbL, ↓qbD, ↓qbE, ↓qbO, qad, qbB, qbA, qbz, ↓qck, ↓qcj, ↓qcm, ↓qcl, qbV, ↓qbQ, ↓qbP, ↓qbR, qby, qcI, qcJ, qaI, behindInMarks, lastMarks, Option.map_some, List.contains_cons, List.map_cons, List.map_nil, String.reduceBEq, String.reduceEq, Bool.and_true, Bool.true_and, Bool.and_false, Bool.false_and, Bool.or_true, Bool.true_or, Bool.or_false, Bool.false_or, Bool.not_true, Bool.not_false, and_true, true_and, exists_eq_left', exists_eq_left, beq_self_eq_true, List.length_cons, List.length_nil, Nat.reduceAdd, Nat.zero_add, Nat.reduceLeDiff, decide_true, decide_false, if_false, if_true, reduceCtorEq, N19, ↓U19]
          exact ⟨by decide, fin ((((if_neg g1').trans (if_neg g2')).trans (if_neg g3')).trans (if_pos (eq_of_beq g4))) rfl⟩
        · have g4' : ¬ a.fmod 13 = 9 := beq_eq_false_iff_ne.mp g4
          simp (maxSteps := 1000000) (dsimp := false) only [↓qaG, ↓qaH, ↓qcp, ↓qco, ↓qcn, ↓qcq, ↓qa4, ↓qbG, ↓qbF, ↓qaa, ↓qac, ↓qab, ↓qba, ↓qbe, ↓qa6, ↓qbi, ↓qa5, ↓qbf, ↓qbb, ↓qa9, ↓qbh, ↓qbd, ↓qbg, ↓qcL, ↓qcK, ↓qcM, ↓qb4, ↓qbk, ↓qbj, ↓qaF, ↓qaE, ↓qcN, ↓qcO, ↓qa8, ↓qa7, ↓qbc, ↓qcT, ↓qcP, ↓qcR, ↓qcS, ↓qcQ, ↓qbl, ↓qbt, ↓qbs, ↓qbm, ↓qbo, ↓qbq, ↓qbu, ↓qbp, ↓qbr, ↓qbn, ↓qbW, ↓qbX, ↓qaf, ↓qae, ↓qag, ↓qaP, ↓qaO, ↓qaK, ↓qaJ, ↓qaL, ↓qaM, ↓qaN, ↓qaZ, ↓qbU, ↓qbH, ↓qbI, ↓qbJ, ↓qbK, ↓qcf, ↓qcg, ↓qch, ↓qci, ↓qa1, ↓qa3, ↓qa0, ↓qa2, ↓qar, ↓qaA, ↓qaw, ↓qav, ↓qau, ↓qay, ↓qaz, ↓qas, ↓qax, ↓qaB, ↓qat, ↓qcV, ↓qcU, ↓qaQ, ↓qaW, ↓qaV, ↓qaU, ↓qcF, ↓qcC, ↓qcz, ↓qcG, ↓qcA, ↓qcD, ↓qcE, ↓qcH, ↓qcB, ↓qb5, ↓qb3, ↓qb2, ↓qb1, ↓qbZ, ↓qbY, ↓qb0, ↓qcx, ↓qcv, ↓qcw, ↓qcu, ↓qcy, ↓qb9, ↓qcb, ↓qb6, ↓qce, ↓qcc, ↓qb8, ↓qca, ↓qcd, ↓qb7, ↓qaY, ↓qan, ↓qai, ↓qaj, ↓qam, ↓qak, ↓qal, ↓qct, ↓qcs, ↓qcr, ↓qaq, ↓qao, ↓qap, ↓qbv, ↓qah, ↓qbS, ↓qbC, ↓qaD, ↓qaC, ↓qbx, ↓qbw, ↓qcW, ↓qbT, ↓qbM, ↓qbN, ↓qbL, ↓qbD, ↓qbE, ↓qbO, qad, qbB, qbA, qbz, ↓qck, ↓qcj, ↓qcm, ↓qcl, qbV, ↓qbQ, ↓qbP, ↓qbR, qby, qcI, qcJ, qaI, behindInMarks, lastMarks, Option.map_some, List.contains_cons, List.map_cons, List.map_nil, String.reduceBEq, String.reduceEq, Bool.and_true, Bool.true_and, Bool.and_false, Bool.false_and, Bool.or_true, Bool.true_or, Bool.or_false, Bool.false_or, Bool.not_true, Bool.not_false, and_true, true_and, exists_eq_left', exists_eq_left, beq_self_eq_true, List.length_cons, List.length_nil, Nat.reduceAdd, Nat.zero_add, Nat.reduceLeDiff, decide_true, decide_false, if_false, if_true, reduceCtorEq, N19, ↓U19]
          refine iteB_of (fun g5 => ?_) (fun g5 => ?_)
          · simp (maxSteps := 1000000) (dsimp := false) only [↓qaG, ↓qaH, ↓qcp, ↓qco, ↓qcn, ↓qcq, ↓qa4, ↓qbG, ↓qbF, ↓qaa, ↓qac, ↓qab, ↓qba, ↓qbe, ↓qa6, ↓qbi, ↓qa5, ↓qbf, ↓qbb, ↓qa9, ↓qbh, ↓qbd, ↓qbg, ↓qcL, ↓qcK, ↓qcM, ↓qb4, ↓qbk, ↓qbj, ↓qaF, ↓qaE, ↓qcN, ↓qcO, ↓qa8, ↓qa7, ↓qbc, ↓qcT, ↓qcP, ↓qcR, ↓qcS, ↓qcQ, ↓qbl, ↓qbt, ↓qbs, ↓qbm, ↓qbo, ↓qbq, ↓qbu, ↓qbp, ↓qbr, ↓qbn, ↓qbW, ↓qbX, ↓qaf, ↓qae, ↓qag, ↓qaP, ↓qaO, ↓qaK, ↓qaJ, ↓qaL, ↓qaM, ↓qaN, ↓qaZ, ↓qbU, ↓qbH, ↓qbI, ↓qbJ, ↓qbK, ↓qcf, ↓qcg, ↓qch, ↓qci, ↓qa1, ↓qa3, ↓qa0, ↓qa2, ↓qar, ↓qaA, ↓qaw, ↓qav, ↓qau, ↓qay, ↓qaz, ↓qas, ↓qax, ↓qaB, ↓qat, ↓qcV, ↓qcU, ↓qaQ, ↓qaW, ↓qaV, ↓qaU, ↓qcF, ↓qcC, ↓qcz, ↓qcG, ↓qcA, ↓qcD, ↓qcE, ↓qcH, ↓qcB, ↓qb5, ↓qb3, ↓qb2, ↓qb1, ↓qbZ, ↓qbY, ↓qb0, ↓qcx, ↓qcv, ↓qcw, ↓qcu, ↓qcy, ↓qb9, ↓qcb, ↓qb6, ↓qce, ↓qcc, ↓qb8, ↓qca, ↓qcd, ↓qb7, ↓qaY, ↓qan, ↓qai, ↓qaj, ↓qam, ↓qak, ↓qal, ↓qct, ↓qcs, ↓qcr, ↓qaq, ↓qao, ↓qap, ↓qbv, ↓qah, ↓qbS, ↓qbC, ↓qaD, ↓qaC, ↓qbx, ↓qbw, ↓qcW, ↓qbT, ↓qbM, ↓qbN, ↓qbL, ↓qbD, ↓qbE, ↓qbO, qad, qbB, qbA, qbz, ↓qck, ↓qcj, ↓qcm, ↓qcl, qbV, ↓qbQ, ↓qbP, ↓qbR, qby, qcI, qcJ, qaI, behindInMarks, lastMarks, Option.map_some, List.contains_cons, List.map_cons, List.map_nil, String.reduceBEq, String.reduceEq, Bool.and_true, Bool.true_and, Bool.and_false, Bool.false_and, Bool.or_true, Bool.true_or, Bool.or_false, Bool.false_or, Bool.not_true, Bool.not_false, and_true, true_and, exists_eq_left', exists_eq_left, beq_self_eq_true, List.length_cons, List.length_nil, Nat.reduceAdd, Nat.zero_add, Nat.reduceLeDiff, decide_true, decide_false, if_false, if_true, reduceCtorEq, N19, ↓U19]
            exact fin (((((if_neg g1').trans (if_neg g2')).trans (if_neg g3')).trans (if_neg g4')).trans (if_pos (eq_of_beq g5))) rfl
          · have g5' : ¬ a.fmod 13 = 10 := beq_eq_false_iff_ne.mp g5
            simp (maxSteps := 1000000) (dsimp := false) only [↓qaG, ↓qaH, ↓qcp, ↓qco, ↓qcn, ↓qcq, ↓qa4, ↓qbG, ↓qbF, ↓qaa, ↓qac, ↓qab, ↓qba, ↓qbe, ↓qa6, ↓qbi, ↓qa5, ↓qbf, ↓qbb, ↓qa9, ↓qbh, ↓qbd, ↓qbg, ↓qcL, ↓qcK, ↓qcM, ↓qb4, ↓qbk, ↓qbj, ↓qaF, ↓qaE, ↓qcN, ↓qcO, ↓qa8, ↓qa7, ↓qbc, ↓qcT, ↓qcP, ↓qcR, ↓qcS, ↓qcQ, ↓qbl, ↓qbt, ↓qbs, ↓qbm, ↓qbo, ↓qbq, ↓qbu, ↓qbp, ↓qbr, ↓qbn, ↓qbW, ↓qbX, ↓qaf, ↓qae, ↓qag, ↓qaP, ↓qaO, ↓qaK, ↓qaJ, ↓qaL, ↓qaM, ↓qaN, ↓qaZ, ↓qbU, ↓qbH, ↓qbI, ↓qbJ, ↓qbK, ↓qcf, ↓qcg, ↓qch, ↓qci, ↓qa1, ↓qa3, ↓qa0, ↓qa2, ↓qar, ↓qaA, ↓qaw, ↓qav, ↓qau, ↓qay, ↓qaz, ↓qas, ↓qax, ↓qaB, ↓qat, ↓qcV, ↓qcU, ↓qaQ, ↓qaW, ↓qaV, ↓qaU, ↓qcF, ↓qcC, ↓qcz, ↓qcG, ↓qcA, ↓qcD, ↓qcE, ↓qcH, ↓qcB, ↓qb5, ↓qb3, ↓qb2, ↓qb1, ↓qbZ, ↓qbY, ↓qb0, ↓qcx, ↓qcv, ↓qcw, ↓qcu, ↓qcy, ↓qb9, ↓qcb, ↓qb6, ↓qce, ↓qcc, ↓qb8, ↓qca, ↓qcd, ↓qb7, ↓qaY, ↓qan, ↓qai, ↓qaj, ↓qam, ↓qak, ↓qal, ↓qct, ↓qcs, ↓qcr, ↓qaq, ↓qao, ↓qap, ↓qbv, ↓qah, ↓qbS, ↓qbC, ↓qaD, ↓qaC, ↓qbx, ↓qbw, ↓qcW, ↓qbT, ↓qbM, ↓qbN, ↓qbL, ↓qbD, ↓qbE, ↓qbO, qad, qbB, qbA, qbz, ↓qck, ↓qcj, ↓qcm, ↓qcl, qbV, ↓qbQ, ↓qbP, ↓qbR, qby, qcI, qcJ, qaI, behindInMarks, lastMarks, Option.map_some, List.contains_cons, List.map_cons, List.map_nil, String.reduceBEq, String.reduceEq, Bool.and_true, Bool.true_and, Bool.and_false, Bool.false_and, Bool.or_true, Bool.true_or, Bool.or_false, Bool.false_or, Bool.not_true, Bool.not_false, and_true, true_and, exists_eq_left', exists_eq_left, beq_self_eq_true, List.length_cons, List.length_nil, Nat.reduceAdd, Nat.zero_add, Nat.reduceLeDiff, decide_true, decide_false, if_false, if_true, reduceCtorEq, N19, ↓U19, ↓it4 (fm0 b (k := 4) (by decide)) (fm1 b (k := 4) (by decide))]
            exact ⟨by decide, by decide, by decide, by decide, by decide, fin (((((if_neg g1').trans (if_neg g2')).trans (if_neg g3')).trans (if_neg g4')).trans (if_neg g5')) rfl⟩
theorem c_law_seeds (ns : List Int) (hn : ns.length < 100) : CallsTo cx 1 "_law_seeds" [.list (ns.map .int)] (.list ((lawSeeds ns).map .int)) := by
  refine fn_at2 hS hp 18 (own := [Str.ofString "seeds"]) (k := 0) (n := 8) (m := 8) (xs := [Str.ofString "script"]) (ys := [Str.ofString "seeds", Str.ofString "cell", Str.ofString "heat"]) (tb := tb18) rfl (by kernel_rfl) rfl rfl (fun _ _ _ vs h => ?_) rfl (by kernel_rfl) (by simp [qcJ]) rfl ?_
  · rcases vs with _ | ⟨v1, _ | ⟨w, ws⟩⟩ <;> first | rfl | simp at h
  simp (maxSteps := 1000000) (dsimp := false) only [↓qaG, ↓qaH, ↓qcp, ↓qco, ↓qcn, ↓qcq, ↓qa4, ↓qbG, ↓qbF, ↓qaa, ↓qac, ↓qab, ↓qba, ↓qbe, ↓qa6, ↓qbi, ↓qa5, ↓qbf, ↓qbb, ↓qa9, ↓qbh, ↓qbd, ↓qbg, ↓qcL, ↓qcK, ↓qcM, ↓qb4, ↓qbk, ↓qbj, ↓qaF, ↓qaE, ↓qcN, ↓qcO, ↓qa8, ↓qa7, ↓qbc, ↓qcT, ↓qcP, ↓qcR, ↓qcS, ↓qcQ, ↓qbl, ↓qbt, ↓qbs, ↓qbm, ↓qbo, ↓qbq, ↓qbu, ↓qbp, ↓qbr, ↓qbn, ↓qbW, ↓qbX, ↓qaf, ↓qae, ↓qag, ↓qaP, ↓qaO, ↓qaK, ↓qaJ, ↓qaL, ↓qaM, ↓qaN, ↓qaZ, ↓qbU, ↓qbH, ↓qbI, ↓qbJ, ↓qbK, ↓qcf, ↓qcg, ↓qch, ↓qci, ↓qa1, ↓qa3, ↓qa0, ↓qa2, ↓qar, ↓qaA, ↓qaw, ↓qav, ↓qau, ↓qay, ↓qaz, ↓qas, ↓qax, ↓qaB, ↓qat, ↓qcV, ↓qcU, ↓qaQ, ↓qaW, ↓qaV, ↓qaU, ↓qcF, ↓qcC, ↓qcz, ↓qcG, ↓qcA, ↓qcD, ↓qcE, ↓qcH, ↓qcB, ↓qb5, ↓qb3, ↓qb2, ↓qb1, ↓qbZ, ↓qbY, ↓qb0, ↓qcx, ↓qcv, ↓qcw, ↓qcu, ↓qcy, ↓qb9, ↓qcb, ↓qb6, ↓qce, ↓qcc, ↓qb8, ↓qca, ↓qcd, ↓qb7, ↓qaY, ↓qan, ↓qai, ↓qaj, ↓qam, ↓qak, ↓qal, ↓qct, ↓qcs, ↓qcr, ↓qaq, ↓qao, ↓qap, ↓qbv, ↓qah, ↓qbS, ↓qbC, ↓qaD, ↓qaC, ↓qbx, ↓qbw, ↓qcW, ↓qbT, ↓qbM, ↓qbN, ↓qbL, ↓qbD, ↓qbE, ↓qbO, qad, qbB, qbA, qbz, ↓qck, ↓qcj, ↓qcm, ↓qcl, qbV, ↓qbQ, ↓qbP, ↓qbR, qby, qcI, qcJ, qaI, behindInMarks, lastMarks, Option.map_some, List.contains_cons, List.map_cons, List.map_nil, String.reduceBEq, String.reduceEq, Bool.and_true, Bool.true_and, Bool.and_false, Bool.false_and, Bool.or_true, Bool.true_or, Bool.or_false, Bool.false_or, Bool.not_true, Bool.not_false, and_true, true_and, exists_eq_left', exists_eq_left, beq_self_eq_true, List.length_cons, List.length_nil, Nat.reduceAdd, Nat.zero_add, Nat.reduceLeDiff, decide_true, decide_false, if_false, if_true, reduceCtorEq, N18, ↓U18]
  refine forH_of (items := (ns.take 45).map .int) (own_none rfl) (fun K hK => ?_) (fun t τ => τ = (Z tb18 [Slot.val (.list (ns.map .int)), Slot.lst (((ns.take t).map fun x => x.fmod 65536).map .int)])) rfl (fun t d τ hd hτ => ?_) (fun τ hτ => ?_)
  · simp (maxSteps := 1000000) (dsimp := false) only [↓qaG, ↓qaH, ↓qcp, ↓qco, ↓qcn, ↓qcq, ↓qa4, ↓qbG, ↓qbF, ↓qaa, ↓qac, ↓qab, ↓qba, ↓qbe, ↓qa6, ↓qbi, ↓qa5, ↓qbf, ↓qbb, ↓qa9, ↓qbh, ↓qbd, ↓qbg, ↓qcL, ↓qcK, ↓qcM, ↓qb4, ↓qbk, ↓qbj, ↓qaF, ↓qaE, ↓qcN, ↓qcO, ↓qa8, ↓qa7, ↓qbc, ↓qcT, ↓qcP, ↓qcR, ↓qcS, ↓qcQ, ↓qbl, ↓qbt, ↓qbs, ↓qbm, ↓qbo, ↓qbq, ↓qbu, ↓qbp, ↓qbr, ↓qbn, ↓qbW, ↓qbX, ↓qaf, ↓qae, ↓qag, ↓qaP, ↓qaO, ↓qaK, ↓qaJ, ↓qaL, ↓qaM, ↓qaN, ↓qaZ, ↓qbU, ↓qbH, ↓qbI, ↓qbJ, ↓qbK, ↓qcf, ↓qcg, ↓qch, ↓qci, ↓qa1, ↓qa3, ↓qa0, ↓qa2, ↓qar, ↓qaA, ↓qaw, ↓qav, ↓qau, ↓qay, ↓qaz, ↓qas, ↓qax, ↓qaB, ↓qat, ↓qcV, ↓qcU, ↓qaQ, ↓qaW, ↓qaV, ↓qaU, ↓qcF, ↓qcC, ↓qcz, ↓qcG, ↓qcA, ↓qcD, ↓qcE, ↓qcH, ↓qcB, ↓qb5, ↓qb3, ↓qb2, ↓qb1, ↓qbZ, ↓qbY, ↓qb0, ↓qcx, ↓qcv, ↓qcw, ↓qcu, ↓qcy, ↓qb9, ↓qcb, ↓qb6, ↓qce, ↓qcc, ↓qb8, ↓qca, ↓qcd, ↓qb7, ↓qaY, ↓qan, ↓qai, ↓qaj, ↓qam, ↓qak, ↓qal, ↓qct, ↓qcs, ↓qcr, ↓qaq, ↓qao, ↓qap, ↓qbv, ↓qah, ↓qbS, ↓qbC, ↓qaD, ↓qaC, ↓qbx, ↓qbw, ↓qcW, ↓qbT, ↓qbM, ↓qbN, ↓qbL, ↓qbD, ↓qbE, ↓qbO, qad, qbB, qbA, qbz, ↓qck, ↓qcj, ↓qcm, ↓qcl, qbV, ↓qbQ, ↓qbP, ↓qbR, qby, qcI, qcJ, qaI, behindInMarks, lastMarks, Option.map_some, List.contains_cons, List.map_cons, List.map_nil, String.reduceBEq, String.reduceEq, Bool.and_true, Bool.true_and, Bool.and_false, Bool.false_and, Bool.or_true, Bool.true_or, Bool.or_false, Bool.false_or, Bool.not_true, Bool.not_false, and_true, true_and, exists_eq_left', exists_eq_left, beq_self_eq_true, List.length_cons, List.length_nil, Nat.reduceAdd, Nat.zero_add, Nat.reduceLeDiff, decide_true, decide_false, if_false, if_true, reduceCtorEq, N18, ↓U18, ↓slice_upto (k := 45) (by decide)]
    refine ⟨by rw [List.length_map]; omega, ?_, ?_⟩
    · rw [List.length_take, List.length_map]; omega
    · rw [← List.map_take]; exact hK
  · subst hτ
    rw [List.getElem?_map] at hd
    cases h0 : (ns.take 45)[t]? with
    | none => rw [h0] at hd; cases hd
    | some x =>
      rw [h0] at hd
      cases hd
      have ht : t < 45 ∧ ns[t]? = some x := by
        rw [List.getElem?_take] at h0
        split at h0
        · exact ⟨by assumption, h0⟩
        · cases h0
      simp (maxSteps := 1000000) (dsimp := false) only [↓qaG, ↓qaH, ↓qcp, ↓qco, ↓qcn, ↓qcq, ↓qa4, ↓qbG, ↓qbF, ↓qaa, ↓qac, ↓qab, ↓qba, ↓qbe, ↓qa6, ↓qbi, ↓qa5, ↓qbf, ↓qbb, ↓qa9, ↓qbh, ↓qbd, ↓qbg, ↓qcL, ↓qcK, ↓qcM, ↓qb4, ↓qbk, ↓qbj, ↓qaF, ↓qaE, ↓qcN, ↓qcO, ↓qa8, ↓qa7, ↓qbc, ↓qcT, ↓qcP, ↓qcR, ↓qcS, ↓qcQ, ↓qbl, ↓qbt, ↓qbs, ↓qbm, ↓qbo, ↓qbq, ↓qbu, ↓qbp, ↓qbr, ↓qbn, ↓qbW, ↓qbX, ↓qaf, ↓qae, ↓qag, ↓qaP, ↓qaO, ↓qaK, ↓qaJ, ↓qaL, ↓qaM, ↓qaN, ↓qaZ, ↓qbU, ↓qbH, ↓qbI, ↓qbJ, ↓qbK, ↓qcf, ↓qcg, ↓qch, ↓qci, ↓qa1, ↓qa3, ↓qa0, ↓qa2, ↓qar, ↓qaA, ↓qaw, ↓qav, ↓qau, ↓qay, ↓qaz, ↓qas, ↓qax, ↓qaB, ↓qat, ↓qcV, ↓qcU, ↓qaQ, ↓qaW, ↓qaV, ↓qaU, ↓qcF, ↓qcC, ↓qcz, ↓qcG, ↓qcA, ↓qcD, ↓qcE, ↓qcH, ↓qcB, ↓qb5, ↓qb3, ↓qb2, ↓qb1, ↓qbZ, ↓qbY, ↓qb0, ↓qcx, ↓qcv, ↓qcw, ↓qcu, ↓qcy, ↓qb9, ↓qcb, ↓qb6, ↓qce, ↓qcc, ↓qb8, ↓qca, ↓qcd, ↓qb7, ↓qaY, ↓qan, ↓qai, ↓qaj, ↓qam, ↓qak, ↓qal, ↓qct, ↓qcs, ↓qcr, ↓qaq, ↓qao, ↓qap, ↓qbv, ↓qah, ↓qbS, ↓qbC, ↓qaD, ↓qaC, ↓qbx, ↓qbw, ↓qcW, ↓qbT, ↓qbM, ↓qbN, ↓qbL, ↓qbD, ↓qbE, ↓qbO, qad, qbB, qbA, qbz, ↓qck, ↓qcj, ↓qcm, ↓qcl, qbV, ↓qbQ, ↓qbP, ↓qbR, qby, qcI, qcJ, qaI, behindInMarks, lastMarks, Option.map_some, List.contains_cons, List.map_cons, List.map_nil, String.reduceBEq, String.reduceEq, Bool.and_true, Bool.true_and, Bool.and_false, Bool.false_and, Bool.or_true, Bool.true_or, Bool.or_false, Bool.false_or, Bool.not_true, Bool.not_false, and_true, true_and, exists_eq_left', exists_eq_left, beq_self_eq_true, List.length_cons, List.length_nil, Nat.reduceAdd, Nat.zero_add, Nat.reduceLeDiff, decide_true, decide_false, if_false, if_true, reduceCtorEq, N18, ↓U18]
      refine ⟨by decide, by rw [List.length_map, List.length_map, List.length_take]; omega, ?_⟩
      have e : ((ns.take (t + 1)).map fun x => x.fmod 65536).map PyData.int = ((ns.take t).map fun x => x.fmod 65536).map PyData.int ++ [PyData.int (x.fmod 65536)] := by
        rw [List.take_add_one, ht.2]
        simp
      rw [e]
      (refine ⟨_, sub_Z ?_, rfl⟩; repeat (first | exact subV_n | refine subV_e ?_ | refine subV_d ?_))
  · subst hτ
    have e : List.take ((ns.take 45).map PyData.int).length ns = ns.take 45 := by rw [List.length_map, List.length_take, ← List.take_eq_take_min]
    rw [e]
    have hs0 : (seeds0 ns).length ≤ 45 := by
      unfold seeds0
      rw [List.length_map, List.length_take]
      omega
    rw [show (ns.take 45).map (fun x => x.fmod 65536) = seeds0 ns from rfl]
    simp (maxSteps := 1000000) (dsimp := false) only [↓qaG, ↓qaH, ↓qcp, ↓qco, ↓qcn, ↓qcq, ↓qa4, ↓qbG, ↓qbF, ↓qaa, ↓qac, ↓qab, ↓qba, ↓qbe, ↓qa6, ↓qbi, ↓qa5, ↓qbf, ↓qbb, ↓qa9, ↓qbh, ↓qbd, ↓qbg, ↓qcL, ↓qcK, ↓qcM, ↓qb4, ↓qbk, ↓qbj, ↓qaF, ↓qaE, ↓qcN, ↓qcO, ↓qa8, ↓qa7, ↓qbc, ↓qcT, ↓qcP, ↓qcR, ↓qcS, ↓qcQ, ↓qbl, ↓qbt, ↓qbs, ↓qbm, ↓qbo, ↓qbq, ↓qbu, ↓qbp, ↓qbr, ↓qbn, ↓qbW, ↓qbX, ↓qaf, ↓qae, ↓qag, ↓qaP, ↓qaO, ↓qaK, ↓qaJ, ↓qaL, ↓qaM, ↓qaN, ↓qaZ, ↓qbU, ↓qbH, ↓qbI, ↓qbJ, ↓qbK, ↓qcf, ↓qcg, ↓qch, ↓qci, ↓qa1, ↓qa3, ↓qa0, ↓qa2, ↓qar, ↓qaA, ↓qaw, ↓qav, ↓qau, ↓qay, ↓qaz, ↓qas, ↓qax, ↓qaB, ↓qat, ↓qcV, ↓qcU, ↓qaQ, ↓qaW, ↓qaV, ↓qaU, ↓qcF, ↓qcC, ↓qcz, ↓qcG, ↓qcA, ↓qcD, ↓qcE, ↓qcH, ↓qcB, ↓qb5, ↓qb3, ↓qb2, ↓qb1, ↓qbZ, ↓qbY, ↓qb0, ↓qcx, ↓qcv, ↓qcw, ↓qcu, ↓qcy, ↓qb9, ↓qcb, ↓qb6, ↓qce, ↓qcc, ↓qb8, ↓qca, ↓qcd, ↓qb7, ↓qaY, ↓qan, ↓qai, ↓qaj, ↓qam, ↓qak, ↓qal, ↓qct, ↓qcs, ↓qcr, ↓qaq, ↓qao, ↓qap, ↓qbv, ↓qah, ↓qbS, ↓qbC, ↓qaD, ↓qaC, ↓qbx, ↓qbw, ↓qcW, ↓qbT, ↓qbM, ↓qbN, ↓qbL, ↓qbD, ↓qbE, ↓qbO, qad, qbB, qbA, qbz, ↓qck, ↓qcj, ↓qcm, ↓qcl, qbV, ↓qbQ, ↓qbP, ↓qbR, qby, qcI, qcJ, qaI, behindInMarks, lastMarks, Option.map_some, List.contains_cons, List.map_cons, List.map_nil, String.reduceBEq, String.reduceEq, Bool.and_true, Bool.true_and, Bool.and_false, Bool.false_and, Bool.or_true, Bool.true_or, Bool.or_false, Bool.false_or, Bool.not_true, Bool.not_false, and_true, true_and, exists_eq_left', exists_eq_left, beq_self_eq_true, List.length_cons, List.length_nil, Nat.reduceAdd, Nat.zero_add, Nat.reduceLeDiff, decide_true, decide_false, if_false, if_true, reduceCtorEq, N18, ↓U18, List.length_map]
    refine ⟨by omega, ?_⟩
    refine whileH_of (fun τ => ∃ (h : Int) (l : List Int), τ = (Z tb18 [Slot.val (.list (ns.map .int)), Slot.lst (l.map .int), Slot.dead, Slot.val (.int h)]) ∧ 0 ≤ h ∧ h < 100000 ∧ l.length ≤ 45 ∧ fillS (45 - l.length) h l = lawSeeds ns) muS ⟨_, _, rfl, by omega, by omega, hs0, rfl⟩ ?_
    rintro τ ⟨h, l, rfl, h1, h2, h3, h4⟩
    simp (maxSteps := 1000000) (dsimp := false) only [↓qaG, ↓qaH, ↓qcp, ↓qco, ↓qcn, ↓qcq, ↓qa4, ↓qbG, ↓qbF, ↓qaa, ↓qac, ↓qab, ↓qba, ↓qbe, ↓qa6, ↓qbi, ↓qa5, ↓qbf, ↓qbb, ↓qa9, ↓qbh, ↓qbd, ↓qbg, ↓qcL, ↓qcK, ↓qcM, ↓qb4, ↓qbk, ↓qbj, ↓qaF, ↓qaE, ↓qcN, ↓qcO, ↓qa8, ↓qa7, ↓qbc, ↓qcT, ↓qcP, ↓qcR, ↓qcS, ↓qcQ, ↓qbl, ↓qbt, ↓qbs, ↓qbm, ↓qbo, ↓qbq, ↓qbu, ↓qbp, ↓qbr, ↓qbn, ↓qbW, ↓qbX, ↓qaf, ↓qae, ↓qag, ↓qaP, ↓qaO, ↓qaK, ↓qaJ, ↓qaL, ↓qaM, ↓qaN, ↓qaZ, ↓qbU, ↓qbH, ↓qbI, ↓qbJ, ↓qbK, ↓qcf, ↓qcg, ↓qch, ↓qci, ↓qa1, ↓qa3, ↓qa0, ↓qa2, ↓qar, ↓qaA, ↓qaw, ↓qav, ↓qau, ↓qay, ↓qaz, ↓qas, ↓qax, ↓qaB, ↓qat, ↓qcV, ↓qcU, ↓qaQ, ↓qaW, ↓qaV, ↓qaU, ↓qcF, ↓qcC, ↓qcz, ↓qcG, ↓qcA, ↓qcD, ↓qcE, ↓qcH, ↓qcB, ↓qb5, ↓qb3, ↓qb2, ↓qb1, ↓qbZ, ↓qbY, ↓qb0, ↓qcx, ↓qcv, ↓qcw, ↓qcu, ↓qcy, ↓qb9, ↓qcb, ↓qb6, ↓qce, ↓qcc, ↓qb8, ↓qca, ↓qcd, ↓qb7, ↓qaY, ↓qan, ↓qai, ↓qaj, ↓qam, ↓qak, ↓qal, ↓qct, ↓qcs, ↓qcr, ↓qaq, ↓qao, ↓qap, ↓qbv, ↓qah, ↓qbS, ↓qbC, ↓qaD, ↓qaC, ↓qbx, ↓qbw, ↓qcW, ↓qbT, ↓qbM, ↓qbN, ↓qbL, ↓qbD, ↓qbE, ↓qbO, qad, qbB, qbA, qbz, ↓qck, ↓qcj, ↓qcm, ↓qcl, qbV, ↓qbQ, ↓qbP, ↓qbR, qby, qcI, qcJ, qaI, behindInMarks, lastMarks, Option.map_some, List.contains_cons, List.map_cons, List.map_nil, String.reduceBEq, String.reduceEq, Bool.and_true, Bool.true_and, Bool.and_false, Bool.false_and, Bool.or_true, Bool.true_or, Bool.or_false, Bool.false_or, Bool.not_true, Bool.not_false, and_true, true_and, exists_eq_left', exists_eq_left, beq_self_eq_true, List.length_cons, List.length_nil, Nat.reduceAdd, Nat.zero_add, Nat.reduceLeDiff, decide_true, decide_false, if_false, if_true, reduceCtorEq, N18, ↓U18, List.length_map]
    refine ⟨by omega, iteB_of (fun h5 => ?_) (fun h5 => ?_)⟩
    · simp (maxSteps := 1000000) (dsimp := false) only [↓qaG, ↓qaH, ↓qcp, ↓qco, ↓qcn, ↓qcq, ↓qa4, ↓qbG, ↓qbF, ↓qaa, ↓qac, ↓qab, ↓qba, ↓qbe, ↓qa6, ↓qbi, ↓qa5, ↓qbf, ↓qbb, ↓qa9, ↓qbh, ↓qbd, ↓qbg, ↓qcL, ↓qcK, ↓qcM, ↓qb4, ↓qbk, ↓qbj, ↓qaF, ↓qaE, ↓qcN, ↓qcO, ↓qa8, ↓qa7, ↓qbc, ↓qcT, ↓qcP, ↓qcR, ↓qcS, ↓qcQ, ↓qbl, ↓qbt, ↓qbs, ↓qbm, ↓qbo, ↓qbq, ↓qbu, ↓qbp, ↓qbr, ↓qbn, ↓qbW, ↓qbX, ↓qaf, ↓qae, ↓qag, ↓qaP, ↓qaO, ↓qaK, ↓qaJ, ↓qaL, ↓qaM, ↓qaN, ↓qaZ, ↓qbU, ↓qbH, ↓qbI, ↓qbJ, ↓qbK, ↓qcf, ↓qcg, ↓qch, ↓qci, ↓qa1, ↓qa3, ↓qa0, ↓qa2, ↓qar, ↓qaA, ↓qaw, ↓qav, ↓qau, ↓qay, ↓qaz, ↓qas, ↓qax, ↓qaB, ↓qat, ↓qcV, ↓qcU, ↓qaQ, ↓qaW, ↓qaV, ↓qaU, ↓qcF, ↓qcC, ↓qcz, ↓qcG, ↓qcA, ↓qcD, ↓qcE, ↓qcH, ↓qcB, ↓qb5, ↓qb3, ↓qb2, ↓qb1, ↓qbZ, ↓qbY, ↓qb0, ↓qcx, ↓qcv, ↓qcw, ↓qcu, ↓qcy, ↓qb9, ↓qcb, ↓qb6, ↓qce, ↓qcc, ↓qb8, ↓qca, ↓qcd, ↓qb7, ↓qaY, ↓qan, ↓qai, ↓qaj, ↓qam, ↓qak, ↓qal, ↓qct, ↓qcs, ↓qcr, ↓qaq, ↓qao, ↓qap, ↓qbv, ↓qah, ↓qbS, ↓qbC, ↓qaD, ↓qaC, ↓qbx, ↓qbw, ↓qcW, ↓qbT, ↓qbM, ↓qbN, ↓qbL, ↓qbD, ↓qbE, ↓qbO, qad, qbB, qbA, qbz, ↓qck, ↓qcj, ↓qcm, ↓qcl, qbV, ↓qbQ, ↓qbP, ↓qbR, qby, qcI, qcJ, qaI, behindInMarks, lastMarks, Option.map_some, List.contains_cons, List.map_cons, List.map_nil, String.reduceBEq, String.reduceEq, Bool.and_true, Bool.true_and, Bool.and_false, Bool.false_and, Bool.or_true, Bool.true_or, Bool.or_false, Bool.false_or, Bool.not_true, Bool.not_false, and_true, true_and, exists_eq_left', exists_eq_left, beq_self_eq_true, List.length_cons, List.length_nil, Nat.reduceAdd, Nat.zero_add, Nat.reduceLeDiff, decide_true, decide_false, if_false, if_true, reduceCtorEq, N18, ↓U18]
      have h6 := of_decide_eq_true h5
      have h7 := fm0 (h * 75 + 74) (k := 65537) (by decide)
      have h8 := fm1 (h * 75 + 74) (k := 65537) (by decide)
      obtain ⟨j, hj⟩ : ∃ j, 45 - l.length = j + 1 := ⟨44 - l.length, by omega⟩
      rw [hj] at h4
      have hll : (l ++ [((h * 75 + 74).fmod 65537).fmod 65536]).length = l.length + 1 := by rw [List.length_append]; rfl
      refine ⟨by omega, by decide, by decide, by decide, by rw [List.length_map]; omega, (Z tb18 [Slot.val (.list (ns.map .int)), Slot.lst ((l ++ [((h * 75 + 74).fmod 65537).fmod 65536]).map .int), Slot.dead, Slot.val (.int ((h * 75 + 74).fmod 65537))]), ?_, ⟨_, _, rfl, by omega, by omega, by omega, ?_⟩, ?_⟩
      · refine sub_Z ?_
        rw [List.map_append]
        repeat (first | exact subV_n | refine subV_e ?_ | refine subV_d ?_)
      · rw [← h4, hll, show 45 - (l.length + 1) = j by omega]
        rfl
      · have m1 : ∀ (h : Int) (l : List Int), muS (Z tb18 [Slot.val (.list (ns.map .int)), Slot.lst (l.map .int), Slot.dead, Slot.val (.int h)]) = 45 - l.length := fun h l => by
          unfold muS
          simp (maxSteps := 1000000) (dsimp := false) only [↓qaG, ↓qaH, ↓qcp, ↓qco, ↓qcn, ↓qcq, ↓qa4, ↓qbG, ↓qbF, ↓qaa, ↓qac, ↓qab, ↓qba, ↓qbe, ↓qa6, ↓qbi, ↓qa5, ↓qbf, ↓qbb, ↓qa9, ↓qbh, ↓qbd, ↓qbg, ↓qcL, ↓qcK, ↓qcM, ↓qb4, ↓qbk, ↓qbj, ↓qaF, ↓qaE, ↓qcN, ↓qcO, ↓qa8, ↓qa7, ↓qbc, ↓qcT, ↓qcP, ↓qcR, ↓qcS, ↓qcQ, ↓qbl, ↓qbt, ↓qbs, ↓qbm, ↓qbo, ↓qbq, ↓qbu, ↓qbp, ↓qbr, ↓qbn, ↓qbW, ↓qbX, ↓qaf, ↓qae, ↓qag, ↓qaP, ↓qaO, ↓qaK, ↓qaJ, ↓qaL, ↓qaM, ↓qaN, ↓qaZ, ↓qbU, ↓qbH, ↓qbI, ↓qbJ, ↓qbK, ↓qcf, ↓qcg, ↓qch, ↓qci, ↓qa1, ↓qa3, ↓qa0, ↓qa2, ↓qar, ↓qaA, ↓qaw, ↓qav, ↓qau, ↓qay, ↓qaz, ↓qas, ↓qax, ↓qaB, ↓qat, ↓qcV, ↓qcU, ↓qaQ, ↓qaW, ↓qaV, ↓qaU, ↓qcF, ↓qcC, ↓qcz, ↓qcG, ↓qcA, ↓qcD, ↓qcE, ↓qcH, ↓qcB, ↓qb5, ↓qb3, ↓qb2, ↓qb1, ↓qbZ, ↓qbY, ↓qb0, ↓qcx, ↓qcv, ↓qcw, ↓qcu, ↓qcy, ↓qb9, ↓qcb, ↓qb6, ↓qce, ↓qcc, ↓qb8, ↓qca, ↓qcd, ↓qb7, ↓qaY, ↓qan, ↓qai, ↓qaj, ↓qam, ↓qak, ↓qal, ↓qct, ↓qcs, ↓qcr, ↓qaq, ↓qao, ↓qap, ↓qbv, ↓qah, ↓qbS, ↓qbC, ↓qaD, ↓qaC, ↓qbx, ↓qbw, ↓qcW, ↓qbT, ↓qbM, ↓qbN, ↓qbL, ↓qbD, ↓qbE, ↓qbO, qad, qbB, qbA, qbz, ↓qck, ↓qcj, ↓qcm, ↓qcl, qbV, ↓qbQ, ↓qbP, ↓qbR, qby, qcI, qcJ, qaI, behindInMarks, lastMarks, Option.map_some, List.contains_cons, List.map_cons, List.map_nil, String.reduceBEq, String.reduceEq, Bool.and_true, Bool.true_and, Bool.and_false, Bool.false_and, Bool.or_true, Bool.true_or, Bool.or_false, Bool.false_or, Bool.not_true, Bool.not_false, and_true, true_and, exists_eq_left', exists_eq_left, beq_self_eq_true, List.length_cons, List.length_nil, Nat.reduceAdd, Nat.zero_add, Nat.reduceLeDiff, decide_true, decide_false, if_false, if_true, reduceCtorEq, N18, ↓U18, List.length_map]
        rw [m1, m1, hll]
        omega
    · simp (maxSteps := 1000000) (dsimp := false) only [↓qaG, ↓qaH, ↓qcp, ↓qco, ↓qcn, ↓qcq, ↓qa4, ↓qbG, ↓qbF, ↓qaa, ↓qac, ↓qab, ↓qba, ↓qbe, ↓qa6, ↓qbi, ↓qa5, ↓qbf, ↓qbb, ↓qa9, ↓qbh, ↓qbd, ↓qbg, ↓qcL, ↓qcK, ↓qcM, ↓qb4, ↓qbk, ↓qbj, ↓qaF, ↓qaE, ↓qcN, ↓qcO, ↓qa8, ↓qa7, ↓qbc, ↓qcT, ↓qcP, ↓qcR, ↓qcS, ↓qcQ, ↓qbl, ↓qbt, ↓qbs, ↓qbm, ↓qbo, ↓qbq, ↓qbu, ↓qbp, ↓qbr, ↓qbn, ↓qbW, ↓qbX, ↓qaf, ↓qae, ↓qag, ↓qaP, ↓qaO, ↓qaK, ↓qaJ, ↓qaL, ↓qaM, ↓qaN, ↓qaZ, ↓qbU, ↓qbH, ↓qbI, ↓qbJ, ↓qbK, ↓qcf, ↓qcg, ↓qch, ↓qci, ↓qa1, ↓qa3, ↓qa0, ↓qa2, ↓qar, ↓qaA, ↓qaw, ↓qav, ↓qau, ↓qay, ↓qaz, ↓qas, ↓qax, ↓qaB, ↓qat, ↓qcV, ↓qcU, ↓qaQ, ↓qaW, ↓qaV, ↓qaU, ↓qcF, ↓qcC, ↓qcz, ↓qcG, ↓qcA, ↓qcD, ↓qcE, ↓qcH, ↓qcB, ↓qb5, ↓qb3, ↓qb2, ↓qb1, ↓qbZ, ↓qbY, ↓qb0, ↓qcx, ↓qcv, ↓qcw, ↓qcu, ↓qcy, ↓qb9, ↓qcb, ↓qb6, ↓qce, ↓qcc, ↓qb8, ↓qca, ↓qcd, ↓qb7, ↓qaY, ↓qan, ↓qai, ↓qaj, ↓qam, ↓qak, ↓qal, ↓qct, ↓qcs, ↓qcr, ↓qaq, ↓qao, ↓qap, ↓qbv, ↓qah, ↓qbS, ↓qbC, ↓qaD, ↓qaC, ↓qbx, ↓qbw, ↓qcW, ↓qbT, ↓qbM, ↓qbN, ↓qbL, ↓qbD, ↓qbE, ↓qbO, qad, qbB, qbA, qbz, ↓qck, ↓qcj, ↓qcm, ↓qcl, qbV, ↓qbQ, ↓qbP, ↓qbR, qby, qcI, qcJ, qaI, behindInMarks, lastMarks, Option.map_some, List.contains_cons, List.map_cons, List.map_nil, String.reduceBEq, String.reduceEq, Bool.and_true, Bool.true_and, Bool.and_false, Bool.false_and, Bool.or_true, Bool.true_or, Bool.or_false, Bool.false_or, Bool.not_true, Bool.not_false, and_true, true_and, exists_eq_left', exists_eq_left, beq_self_eq_true, List.length_cons, List.length_nil, Nat.reduceAdd, Nat.zero_add, Nat.reduceLeDiff, decide_true, decide_false, if_false, if_true, reduceCtorEq, N18, ↓U18]
      have h6 := of_decide_eq_false h5
      have h7 : 45 - l.length = 0 := by omega
      rw [h7] at h4
      rw [← h4]; rfl
end
structure M where
  held : List Int
  cells : List (Int × Int)
  high : Int
  last : PyData
def hdA (hs : List Int) (i : Int) : Int := hs.getD i.toNat 0
def stC (cells : List (Int × Int)) (base v : Int) : Nat → List (Int × Int)
  | 0 => cells
  | t + 1 => putKV (stC cells base v t) (base + (t : Int)) (Builtin.bitAnd (v.fdiv (2 ^ (8 * (t : Int)).toNat)) 255)
def gtC (cells : List (Int × Int)) (s : Int) : Int := (getKV cells s).getD ((s * 7).fmod 256)
def ldT (cells : List (Int × Int)) (base : Int) : Nat → Int
  | 0 => 0
  | t + 1 => ldT cells base t + gtC cells (base + (t : Int)) * 2 ^ (8 * (t : Int)).toNat
def wid (o : Op) : Nat := if o = .ldr ∨ o = .str then 4 else 1
def res (m : M) (r : Row) : Int := match r.op with
  | .mov => hdA m.held r.c
  | .movi => r.c
  | .geth => m.high
  | .add => hdA m.held r.b + hdA m.held r.c
  | .sub => hdA m.held r.b - hdA m.held r.c
  | .mul => hdA m.held r.b * hdA m.held r.c
  | .ior => Builtin.bitOr (hdA m.held r.b) (hdA m.held r.c)
  | .xor => Builtin.bitXor (hdA m.held r.b) (hdA m.held r.c)
  | .addi => hdA m.held r.b + r.c
  | .lsli => hdA m.held r.b * 2 ^ r.c.toNat
  | .andi => Builtin.bitAnd (hdA m.held r.b) r.c
  | _ => 0
def low (x : Int) : Int := Builtin.bitAnd x 4294967295
def step (m : M) (r : Row) : M := match r.op with
  | .str => { m with cells := stC m.cells (hdA m.held r.b + r.c) (hdA m.held r.a) 4 }
  | .stb => { m with cells := stC m.cells (hdA m.held r.b + r.c) (hdA m.held r.a) 1 }
  | .ldr => { m with held := m.held.set r.a.toNat (ldT m.cells (hdA m.held r.b + r.c) 4) }
  | .ldb => { m with held := m.held.set r.a.toNat (ldT m.cells (hdA m.held r.b + r.c) 1) }
  | .mul => ⟨m.held.set r.a.toNat (low (res m r)), m.cells, low ((res m r).fdiv (2 ^ Int.toNat 32)), .tuple [.str (Str.ofString r.op.nm), .int (low (res m r))]⟩
  | _ => ⟨m.held.set r.a.toNat (low (res m r)), m.cells, m.high, .tuple [.str (Str.ofString r.op.nm), .int (low (res m r))]⟩
def run (m : M) (rs : List Row) : M := rs.foldl step m
def filledOf (cells : List (Int × Int)) : List (Int × Int) := cells.filter fun p => p.2 != (p.1 * 7).fmod 256
def finD (m : M) : PyData := .tuple [.list (m.held.map .int), .int m.high, .list ((sortP (filledOf m.cells)).map pairD), m.last]
structure Mok (m : M) (k : Nat) : Prop where
  len : m.held.length = 6
  rng : ∀ x ∈ m.held, 0 ≤ x ∧ x < 4294967296
  few : m.cells.length ≤ 4 * k
  byt : ∀ p ∈ m.cells, 0 ≤ p.2 ∧ p.2 < 256
  nd : (m.cells.map (·.1)).Nodup
theorem hdA_mem {hs : List Int} (hl : hs.length = 6) {i : Int} (h0 : 0 ≤ i) (h1 : i < 6) : hdA hs i ∈ hs := by
  unfold hdA
  have h : i.toNat < hs.length := by omega
  rw [List.getD_eq_getElem?_getD, List.getElem?_eq_getElem h]
  exact List.getElem_mem h
theorem putKV_len (l : List (Int × Int)) (k v : Int) : (putKV l k v).length ≤ l.length + 1 := by
  unfold putKV
  split
  · simp
  · simp
theorem putKV_mem {l : List (Int × Int)} {k v : Int} {p : Int × Int} (h : p ∈ putKV l k v) : p ∈ l ∨ p = (k, v) := by
  unfold putKV at h
  split at h
  · obtain ⟨q, hq, rfl⟩ := List.mem_map.mp h
    split
    · rename_i hk
      right; rw [← hk]
    · left; exact hq
  · rcases List.mem_append.mp h with h | h
    · exact .inl h
    · exact .inr (List.mem_singleton.mp h)
theorem putKV_keys (l : List (Int × Int)) (k v : Int) : (putKV l k v).map (·.1) = if l.any (fun kv => kv.1 = k) = true then l.map (·.1) else l.map (·.1) ++ [k] := by
  unfold putKV
  split
  · rw [List.map_map]
    apply List.map_congr_left
    intro p _
    simp only [Function.comp]
    split <;> rfl
  · rw [List.map_append]; rfl
theorem putKV_nd {l : List (Int × Int)} {k v : Int} (h : (l.map (·.1)).Nodup) : ((putKV l k v).map (·.1)).Nodup := by
  rw [putKV_keys]
  split
  · exact h
  · rename_i hk
    rw [List.nodup_append]
    refine ⟨h, by simp, ?_⟩
    intro a ha b hb e
    rw [List.mem_singleton.mp hb] at e
    obtain ⟨p, hp, rfl⟩ := List.mem_map.mp ha
    exact hk (List.any_eq_true.mpr ⟨p, hp, by simpa using e⟩)
theorem byte_rng (x : Int) : 0 ≤ Builtin.bitAnd x 255 ∧ Builtin.bitAnd x 255 < 256 := by
  have e : (255 : Int) = ((255 : Nat) : Int) := rfl
  by_cases hx : 0 ≤ x
  · obtain ⟨n, rfl⟩ := Int.eq_ofNat_of_zero_le hx
    rw [e, bitAnd_nat]
    have : n &&& 255 ≤ 255 := Nat.and_le_right
    omega
  · unfold Builtin.bitAnd
    rw [decide_eq_false hx]
    simp only [show decide ((0 : Int) ≤ 255) = true from rfl]
    have : (255 : Int).toNat &&& (Builtin.bitNot x).toNat ≤ 255 := Nat.and_le_left
    omega
theorem stC_ok {l : List (Int × Int)} {base v : Int} (h1 : ∀ p ∈ l, 0 ≤ p.2 ∧ p.2 < 256) (h2 : (l.map (·.1)).Nodup) : ∀ t, (stC l base v t).length ≤ l.length + t ∧ (∀ p ∈ stC l base v t, 0 ≤ p.2 ∧ p.2 < 256) ∧ ((stC l base v t).map (·.1)).Nodup
  | 0 => ⟨Nat.le_refl _, h1, h2⟩
  | t + 1 => by
    obtain ⟨a, b, c⟩ := stC_ok (base := base) (v := v) h1 h2 t
    unfold stC
    refine ⟨?_, fun p hp => ?_, putKV_nd c⟩
    · have := putKV_len (stC l base v t) (base + (t : Int)) (Builtin.bitAnd (v.fdiv (2 ^ (8 * (t : Int)).toNat)) 255)
      omega
    · rcases putKV_mem hp with h | rfl
      · exact b p h
      · exact byte_rng _
theorem gtC_rng {l : List (Int × Int)} (h1 : ∀ p ∈ l, 0 ≤ p.2 ∧ p.2 < 256) (s : Int) : 0 ≤ gtC l s ∧ gtC l s < 256 := by
  unfold gtC getKV
  cases h : l.find? fun kv => kv.1 = s with
  | none => exact ⟨fm0 _ (by decide), fm1 _ (by decide)⟩
  | some p => exact h1 p (List.mem_of_find?_eq_some h)
theorem ldT_rng {l : List (Int × Int)} (h1 : ∀ p ∈ l, 0 ≤ p.2 ∧ p.2 < 256) (base : Int) : ∀ t, 0 ≤ ldT l base t ∧ ldT l base t < 2 ^ (8 * t)
  | 0 => by simp [ldT]
  | t + 1 => by
    obtain ⟨a, b⟩ := ldT_rng h1 base t
    obtain ⟨c, d⟩ := gtC_rng h1 (base + (t : Int))
    unfold ldT
    have e : (8 * (t : Int)).toNat = 8 * t := by omega
    rw [e]
    have hp : (0 : Int) < 2 ^ (8 * t) := Int.pow_pos (by decide)
    have e2 : (2 : Int) ^ (8 * (t + 1)) = 256 * 2 ^ (8 * t) := by
      rw [show 8 * (t + 1) = 8 * t + 8 by omega, Int.pow_add]
      omega
    rw [e2]
    have h3 : gtC l (base + (t : Int)) * 2 ^ (8 * t) ≤ 255 * 2 ^ (8 * t) := Int.mul_le_mul_of_nonneg_right (by omega) (Int.le_of_lt hp)
    have h4 : 0 ≤ gtC l (base + (t : Int)) * 2 ^ (8 * t) := Int.mul_nonneg c (Int.le_of_lt hp)
    omega
theorem low_rng (x : Int) : 0 ≤ low x ∧ low x < 4294967296 := bitAnd_low x
theorem mem_set' {l : List Int} {i : Nat} {v x : Int} (h : x ∈ l.set i v) : x ∈ l ∨ x = v := List.mem_or_eq_of_mem_set h
theorem step_ok {m : M} {k : Nat} {r : Row} (h : Mok m k) : Mok (step m r) (k + 1) := by
  have hset : ∀ v, 0 ≤ v ∧ v < 4294967296 → ∀ x ∈ m.held.set r.a.toNat v, 0 ≤ x ∧ x < 4294967296 := fun v hv x hx => by
    rcases mem_set' hx with hx | rfl
    · exact h.rng x hx
    · exact hv
  have hld4 := ldT_rng h.byt (hdA m.held r.b + r.c) 4
  have hld1 := ldT_rng h.byt (hdA m.held r.b + r.c) 1
  have hst4 := stC_ok (base := hdA m.held r.b + r.c) (v := hdA m.held r.a) h.byt h.nd 4
  have hst1 := stC_ok (base := hdA m.held r.b + r.c) (v := hdA m.held r.a) h.byt h.nd 1
  have hf := h.few
  have hl := h.len
  unfold step
  split
  · exact ⟨hl, h.rng, by show (stC _ _ _ 4).length ≤ _; omega, hst4.2.1, hst4.2.2⟩
  · exact ⟨hl, h.rng, by show (stC _ _ _ 1).length ≤ _; omega, hst1.2.1, hst1.2.2⟩
  · exact ⟨by show (List.set _ _ _).length = 6; rw [List.length_set]; exact hl, hset _ ⟨hld4.1, by have := hld4.2; simpa using this⟩, by show m.cells.length ≤ _; omega, h.byt, h.nd⟩
  · exact ⟨by show (List.set _ _ _).length = 6; rw [List.length_set]; exact hl, hset _ ⟨hld1.1, by have := hld1.2; simp at this; omega⟩, by show m.cells.length ≤ _; omega, h.byt, h.nd⟩
  · exact ⟨by show (List.set _ _ _).length = 6; rw [List.length_set]; exact hl, hset _ (low_rng _), by show m.cells.length ≤ _; omega, h.byt, h.nd⟩
  · exact ⟨by show (List.set _ _ _).length = 6; rw [List.length_set]; exact hl, hset _ (low_rng _), by show m.cells.length ≤ _; omega, h.byt, h.nd⟩
theorem run_ok {rs : List Row} : ∀ {m : M} {k : Nat}, Mok m k → Mok (run m rs) (k + rs.length) := by
  induction rs with
  | nil => intro m k h; exact h
  | cons r rs ih =>
    intro m k h
    have := ih (step_ok (r := r) h)
    rw [List.length_cons, show k + (rs.length + 1) = k + 1 + rs.length by omega]
    exact this
def val (m : M) (r : Row) : Int := match r.op with
  | .ldr => ldT m.cells (hdA m.held r.b + r.c) 4
  | .ldb => ldT m.cells (hdA m.held r.b + r.c) 1
  | _ => low (res m r)
def mark (r : Row) (v : Int) : PyData := .tuple [.str (Str.ofString r.op.nm), .int v]
theorem step_held (m : M) (r : Row) : (step m r).held = if r.op.isSt = true then m.held else m.held.set r.a.toNat (val m r) := by
  unfold step val
  cases r.op <;> simp [Op.isSt]
theorem step_cells (m : M) (r : Row) : (step m r).cells = if r.op.isSt = true then stC m.cells (hdA m.held r.b + r.c) (hdA m.held r.a) (wid r.op) else m.cells := by
  unfold step
  cases r.op <;> simp [Op.isSt, wid]
theorem step_high (m : M) (r : Row) : (step m r).high = if r.op = .mul then low ((res m r).fdiv (2 ^ Int.toNat 32)) else m.high := by
  unfold step
  cases r.op <;> simp
theorem step_mark (m : M) (r : Row) : (step m r).last = if r.op.isMem = true then m.last else mark r (val m r) := by
  unfold step mark val
  cases r.op <;> simp [Op.isMem, Op.isLd, Op.isSt]
theorem stC_key {l : List (Int × Int)} {base v : Int} : ∀ {t : Nat} {p : Int × Int}, p ∈ stC l base v t → p ∈ l ∨ ∃ u, u < t ∧ p.1 = base + (u : Int)
  | 0, p, h => .inl h
  | t + 1, p, h => by
    unfold stC at h
    rcases putKV_mem h with h | rfl
    · rcases stC_key h with h | ⟨u, h1, h2⟩
      · exact .inl h
      · exact .inr ⟨u, by omega, h2⟩
    · exact .inr ⟨t, by omega, rfl⟩
def Kok (m : M) : Prop := ∀ p ∈ m.cells, 0 ≤ p.1 ∧ p.1 < 4294968000
theorem step_key {m : M} {k : Nat} {r : Row} (h : Mok m k) (v : VR r) (hk : Kok m) : Kok (step m r) := by
  have rb := h.rng _ (hdA_mem h.len v.b0 v.b1)
  have hc0 := v.c0
  have hc1 := v.c1
  have key : ∀ t, t ≤ 4 → ∀ p ∈ stC m.cells (hdA m.held r.b + r.c) (hdA m.held r.a) t, 0 ≤ p.1 ∧ p.1 < 4294968000 := fun t ht p hp => by
    rcases stC_key hp with h | ⟨u, h1, h2⟩
    · exact hk p h
    · omega
  unfold step
  split <;> first
    | exact key 4 (by decide)
    | exact key 1 (by decide)
    | exact hk
theorem run_key {rs : List Row} : ∀ {m : M} {k : Nat}, (∀ r ∈ rs, VR r) → Mok m k → Kok m → Kok (run m rs) := by
  induction rs with
  | nil => intro m k _ _ h; exact h
  | cons r rs ih =>
    intro m k hv h hk
    exact ih (fun q hq => hv q (List.mem_cons_of_mem _ hq)) (step_ok (r := r) h) (step_key h (hv r List.mem_cons_self) hk)
theorem held_at {hs : List Int} {i : Int} {Q : PyData → Prop} (hl : hs.length = 6) (h0 : 0 ≤ i) (h1 : i < 6) : itemW (.list (hs.map .int)) (.int i) Q = Q (.int (hdA hs i)) := by
  have h : i.toNat < hs.length := by omega
  have e : (hs.map PyData.int)[i.toNat]? = some (.int (hdA hs i)) := by
    rw [List.getElem?_map, List.getElem?_eq_getElem h]
    unfold hdA
    rw [List.getD_eq_getElem?_getD, List.getElem?_eq_getElem h]
    rfl
  unfold itemW
  simp [h0, e]
  intro _
  omega
theorem set_int (hs : List Int) (i : Nat) (v : Int) : (hs.map PyData.int).set i (.int v) = (hs.set i v).map PyData.int := by rw [List.map_set]
theorem hdA_set {hs : List Int} {i v : Int} (hl : hs.length = 6) (h0 : 0 ≤ i) (h1 : i < 6) : hdA (hs.set i.toNat v) i = v := by
  unfold hdA
  have h : i.toNat < hs.length := by omega
  rw [List.getD_eq_getElem?_getD, List.getElem?_set_self h]
  rfl
theorem getKV_mem {l : List (Int × Int)} (h : (l.map (·.1)).Nodup) {p : Int × Int} (hp : p ∈ l) : getKV l p.1 = some p.2 := by
  induction l with
  | nil => cases hp
  | cons q l ih =>
    rw [List.map_cons, List.nodup_cons] at h
    unfold getKV
    rw [List.find?_cons]
    rcases List.mem_cons.mp hp with rfl | hp
    · simp
    · have hne : q.1 ≠ p.1 := fun e => h.1 (by rw [e]; exact List.mem_map_of_mem hp)
      simp only [hne, decide_false]
      exact ih h.2 hp
def filF (l : List (Int × Int)) : PyData → Option PyData
  | .int k => match getKV l k with
    | some v => if v != (k * 7).fmod 256 then some (pairD (k, v)) else none
    | none => none
  | _ => none
theorem filF_sub {l : List (Int × Int)} : ∀ (l' : List (Int × Int)), (∀ p ∈ l', getKV l p.1 = some p.2) → (l'.map fun p => PyData.int p.1).filterMap (filF l) = (filledOf l').map pairD
  | [], _ => rfl
  | p :: l', h => by
    have ih := filF_sub l' fun q hq => h q (List.mem_cons_of_mem _ hq)
    rw [List.map_cons, List.filterMap_cons]
    have h1 := h p List.mem_cons_self
    unfold filledOf
    rw [List.filter_cons]
    simp only [filF, h1]
    cases h2 : p.2 != (p.1 * 7).fmod 256
    · simp only [Bool.false_eq_true, if_false]
      exact ih
    · simp only [if_true]
      rw [ih]; rfl
theorem filF_all {l : List (Int × Int)} (h : (l.map (·.1)).Nodup) : (l.map fun p => PyData.int p.1).filterMap (filF l) = (filledOf l).map pairD := filF_sub l fun _ hp => getKV_mem h hp
theorem val_ld {m : M} {r : Row} (h : r.op.isLd = true) : val m r = ldT m.cells (hdA m.held r.b + r.c) (wid r.op) := by
  unfold val
  cases ho : r.op <;> first | rfl | (rw [ho] at h; exact absurd h (by decide))
theorem wid_st {o : Op} (h : o.isSt = true) : wid o = if o = .str then 4 else 1 := by
  cases o <;> first | rfl | exact absurd h (by decide)
theorem wid_ld {o : Op} (h : o.isLd = true) : wid o = if o = .ldr then 4 else 1 := by
  cases o <;> first | rfl | exact absurd h (by decide)
section
variable {cx : Cx} (hS : SortOk cx) (hp : cx.p = vw)
include hS hp
theorem c_law_stepped (rs : List Row) (hv : ∀ r ∈ rs, VR r) (hn : rs.length ≤ 8) (hs : List Int) (h6 : hs.length = 6) (hr : ∀ x ∈ hs, 0 ≤ x ∧ x < 4294967296) :
    CallsTo cx 1 "_law_stepped" [rowsD rs, .list (hs.map .int)] (finD (run ⟨hs, [], 5, .none⟩ rs)) := by
  have M0 : Mok ⟨hs, [], 5, .none⟩ 0 := ⟨h6, hr, Nat.le_refl _, fun p (hp : p ∈ []) => (by simp at hp), List.nodup_nil⟩
  refine fn_at2 hS hp 20 (own := [Str.ofString "held", Str.ofString "cells"]) (k := 0) (n := 10) (m := 16) (xs := [Str.ofString "rows", Str.ofString "firsts"]) (ys := [Str.ofString "held", Str.ofString "cells", Str.ofString "high", Str.ofString "last_mark", Str.ofString "name", Str.ofString "one", Str.ofString "two", Str.ofString "three", Str.ofString "turn", Str.ofString "total", Str.ofString "spot", Str.ofString "result", Str.ofString "first", Str.ofString "second", Str.ofString "head", Str.ofString "filled"]) (tb := tb20) rfl (by kernel_rfl) rfl rfl (fun _ _ _ vs h => ?_) rfl (by kernel_rfl) (by simp [qcJ]) rfl ?_
  · rcases vs with _ | ⟨v1, _ | ⟨v2, _ | ⟨w, ws⟩⟩⟩ <;> first | rfl | simp at h
  simp (maxSteps := 1000000) (dsimp := false) only [↓qaG, ↓qaH, ↓qcp, ↓qco, ↓qcn, ↓qcq, ↓qa4, ↓qbG, ↓qbF, ↓qaa, ↓qac, ↓qab, ↓qba, ↓qbe, ↓qa6, ↓qbi, ↓qa5, ↓qbf, ↓qbb, ↓qa9, ↓qbh, ↓qbd, ↓qbg, ↓qcL, ↓qcK, ↓qcM, ↓qb4, ↓qbk, ↓qbj, ↓qaF, ↓qaE, ↓qcN, ↓qcO, ↓qa8, ↓qa7, ↓qbc, ↓qcT, ↓qcP, ↓qcR, ↓qcS, ↓qcQ, ↓qbl, ↓qbt, ↓qbs, ↓qbm, ↓qbo, ↓qbq, ↓qbu, ↓qbp, ↓qbr, ↓qbn, ↓qbW, ↓qbX, ↓qaf, ↓qae, ↓qag, ↓qaP, ↓qaO, ↓qaK, ↓qaJ, ↓qaL, ↓qaM, ↓qaN, ↓qaZ, ↓qbU, ↓qbH, ↓qbI, ↓qbJ, ↓qbK, ↓qcf, ↓qcg, ↓qch, ↓qci, ↓qa1, ↓qa3, ↓qa0, ↓qa2, ↓qar, ↓qaA, ↓qaw, ↓qav, ↓qau, ↓qay, ↓qaz, ↓qas, ↓qax, ↓qaB, ↓qat, ↓qcV, ↓qcU, ↓qaQ, ↓qaW, ↓qaV, ↓qaU, ↓qcF, ↓qcC, ↓qcz, ↓qcG, ↓qcA, ↓qcD, ↓qcE, ↓qcH, ↓qcB, ↓qb5, ↓qb3, ↓qb2, ↓qb1, ↓qbZ, ↓qbY, ↓qb0, ↓qcx, ↓qcv, ↓qcw, ↓qcu, ↓qcy, ↓qb9, ↓qcb, ↓qb6, ↓qce, ↓qcc, ↓qb8, ↓qca, ↓qcd, ↓qb7, ↓qaY, ↓qan, ↓qai, ↓qaj, ↓qam, ↓qak, ↓qal, ↓qct, ↓qcs, ↓qcr, ↓qaq, ↓qao, ↓qap, ↓qbv, ↓qah, ↓qbS, ↓qbC, ↓qaD, ↓qaC, ↓qbx, ↓qbw, ↓qcW, ↓qbT, ↓qbM, ↓qbN, ↓qbL, ↓qbD, ↓qbE, ↓qbO, qad, qbB, qbA, qbz, ↓qck, ↓qcj, ↓qcm, ↓qcl, qbV, ↓qbQ, ↓qbP, ↓qbR, qby, qcI, qcJ, qaI, behindInMarks, lastMarks, Option.map_some, List.contains_cons, List.map_cons, List.map_nil, String.reduceBEq, String.reduceEq, Bool.and_true, Bool.true_and, Bool.and_false, Bool.false_and, Bool.or_true, Bool.true_or, Bool.or_false, Bool.false_or, Bool.not_true, Bool.not_false, and_true, true_and, exists_eq_left', exists_eq_left, beq_self_eq_true, List.length_cons, List.length_nil, Nat.reduceAdd, Nat.zero_add, Nat.reduceLeDiff, decide_true, decide_false, if_false, if_true, reduceCtorEq, N20, ↓U20, List.length_map]
  refine ⟨by omega, ?_⟩
  obtain ⟨rn, hrn⟩ : ∃ rn : Nat → M, rn = fun t => run ⟨hs, [], 5, .none⟩ (rs.take t) := ⟨_, rfl⟩
  have h00 : rn 0 = ⟨hs, [], 5, .none⟩ := by rw [hrn]; rfl
  refine forH_of (items := rs.map rowD) rfl (fun K hK => ?_) (fun t τ => τ = (Z tb20 [Slot.val (rowsD rs), Slot.val (.list (hs.map .int)), Slot.lst ((rn t).held.map .int), Slot.dct (rn t).cells, Slot.val (.int (rn t).high), Slot.val (rn t).last])) (by rw [h00]) (fun t d τ hd hτ => ?_) (fun τ hτ => ?_)
  · simp (maxSteps := 1000000) (dsimp := false) only [↓qaG, ↓qaH, ↓qcp, ↓qco, ↓qcn, ↓qcq, ↓qa4, ↓qbG, ↓qbF, ↓qaa, ↓qac, ↓qab, ↓qba, ↓qbe, ↓qa6, ↓qbi, ↓qa5, ↓qbf, ↓qbb, ↓qa9, ↓qbh, ↓qbd, ↓qbg, ↓qcL, ↓qcK, ↓qcM, ↓qb4, ↓qbk, ↓qbj, ↓qaF, ↓qaE, ↓qcN, ↓qcO, ↓qa8, ↓qa7, ↓qbc, ↓qcT, ↓qcP, ↓qcR, ↓qcS, ↓qcQ, ↓qbl, ↓qbt, ↓qbs, ↓qbm, ↓qbo, ↓qbq, ↓qbu, ↓qbp, ↓qbr, ↓qbn, ↓qbW, ↓qbX, ↓qaf, ↓qae, ↓qag, ↓qaP, ↓qaO, ↓qaK, ↓qaJ, ↓qaL, ↓qaM, ↓qaN, ↓qaZ, ↓qbU, ↓qbH, ↓qbI, ↓qbJ, ↓qbK, ↓qcf, ↓qcg, ↓qch, ↓qci, ↓qa1, ↓qa3, ↓qa0, ↓qa2, ↓qar, ↓qaA, ↓qaw, ↓qav, ↓qau, ↓qay, ↓qaz, ↓qas, ↓qax, ↓qaB, ↓qat, ↓qcV, ↓qcU, ↓qaQ, ↓qaW, ↓qaV, ↓qaU, ↓qcF, ↓qcC, ↓qcz, ↓qcG, ↓qcA, ↓qcD, ↓qcE, ↓qcH, ↓qcB, ↓qb5, ↓qb3, ↓qb2, ↓qb1, ↓qbZ, ↓qbY, ↓qb0, ↓qcx, ↓qcv, ↓qcw, ↓qcu, ↓qcy, ↓qb9, ↓qcb, ↓qb6, ↓qce, ↓qcc, ↓qb8, ↓qca, ↓qcd, ↓qb7, ↓qaY, ↓qan, ↓qai, ↓qaj, ↓qam, ↓qak, ↓qal, ↓qct, ↓qcs, ↓qcr, ↓qaq, ↓qao, ↓qap, ↓qbv, ↓qah, ↓qbS, ↓qbC, ↓qaD, ↓qaC, ↓qbx, ↓qbw, ↓qcW, ↓qbT, ↓qbM, ↓qbN, ↓qbL, ↓qbD, ↓qbE, ↓qbO, qad, qbB, qbA, qbz, ↓qck, ↓qcj, ↓qcm, ↓qcl, qbV, ↓qbQ, ↓qbP, ↓qbR, qby, qcI, qcJ, qaI, behindInMarks, lastMarks, Option.map_some, List.contains_cons, List.map_cons, List.map_nil, String.reduceBEq, String.reduceEq, Bool.and_true, Bool.true_and, Bool.and_false, Bool.false_and, Bool.or_true, Bool.true_or, Bool.or_false, Bool.false_or, Bool.not_true, Bool.not_false, and_true, true_and, exists_eq_left', exists_eq_left, beq_self_eq_true, List.length_cons, List.length_nil, Nat.reduceAdd, Nat.zero_add, Nat.reduceLeDiff, decide_true, decide_false, if_false, if_true, reduceCtorEq, N20, ↓U20, rowsD, List.length_map]
    exact ⟨by omega, hK⟩
  · subst hτ
    rw [List.getElem?_map] at hd
    cases h0 : rs[t]? with
    | none => rw [h0] at hd; cases hd
    | some r =>
      rw [h0] at hd
      cases hd
      have vr := hv r (List.mem_of_getElem? h0)
      have hstep : rn (t + 1) = step (rn t) r := by
        rw [hrn]
        show run _ _ = step (run _ _) r
        unfold run
        rw [List.take_add_one, h0, List.foldl_append]
        rfl
      have hmok : Mok (rn t) (rs.take t).length := by
        rw [hrn]
        have := run_ok (rs := rs.take t) M0
        rwa [Nat.zero_add] at this
      generalize rn t = m at hstep hmok
      have hl := hmok.len
      have nx : ∀ υ, Sub (Z tb20 [Slot.val (rowsD rs), Slot.val (.list (hs.map .int)), Slot.lst ((step m r).held.map .int), Slot.dct (step m r).cells, Slot.val (.int (step m r).high), Slot.val (step m r).last]) υ → ∃ υ', Sub υ' υ ∧ υ' = (Z tb20 [Slot.val (rowsD rs), Slot.val (.list (hs.map .int)), Slot.lst ((rn (t + 1)).held.map .int), Slot.dct (rn (t + 1)).cells, Slot.val (.int (rn (t + 1)).high), Slot.val (rn (t + 1)).last]) := fun υ h => by rw [hstep]; exact ⟨_, h, rfl⟩
      have la : r.a < ((m.held.map PyData.int).length : Int) := by rw [List.length_map, hl]; have := vr.a1; omega
      have lb : (m.held.map PyData.int).length ≤ 1000000 := by rw [List.length_map, hl]; decide
      have la' : r.a < 6 := by have := vr.a1; omega
      have ra := hmok.rng _ (hdA_mem hl vr.a0 la')
      have rb := hmok.rng _ (hdA_mem hl vr.b0 vr.b1)
      have hset : ∀ v : Int, (m.held.set r.a.toNat v).length = 6 := fun v => by rw [List.length_set]; exact hl
      have hfew := hmok.few
      have htl := List.length_take_le' t rs
      have hc0 := vr.c0
      have hc1 := vr.c1
      simp (maxSteps := 1000000) (dsimp := false) only [↓qaG, ↓qaH, ↓qcp, ↓qco, ↓qcn, ↓qcq, ↓qa4, ↓qbG, ↓qbF, ↓qaa, ↓qac, ↓qab, ↓qba, ↓qbe, ↓qa6, ↓qbi, ↓qa5, ↓qbf, ↓qbb, ↓qa9, ↓qbh, ↓qbd, ↓qbg, ↓qcL, ↓qcK, ↓qcM, ↓qb4, ↓qbk, ↓qbj, ↓qaF, ↓qaE, ↓qcN, ↓qcO, ↓qa8, ↓qa7, ↓qbc, ↓qcT, ↓qcP, ↓qcR, ↓qcS, ↓qcQ, ↓qbl, ↓qbt, ↓qbs, ↓qbm, ↓qbo, ↓qbq, ↓qbu, ↓qbp, ↓qbr, ↓qbn, ↓qbW, ↓qbX, ↓qaf, ↓qae, ↓qag, ↓qaP, ↓qaO, ↓qaK, ↓qaJ, ↓qaL, ↓qaM, ↓qaN, ↓qaZ, ↓qbU, ↓qbH, ↓qbI, ↓qbJ, ↓qbK, ↓qcf, ↓qcg, ↓qch, ↓qci, ↓qa1, ↓qa3, ↓qa0, ↓qa2, ↓qar, ↓qaA, ↓qaw, ↓qav, ↓qau, ↓qay, ↓qaz, ↓qas, ↓qax, ↓qaB, ↓qat, ↓qcV, ↓qcU, ↓qaQ, ↓qaW, ↓qaV, ↓qaU, ↓qcF, ↓qcC, ↓qcz, ↓qcG, ↓qcA, ↓qcD, ↓qcE, ↓qcH, ↓qcB, ↓qb5, ↓qb3, ↓qb2, ↓qb1, ↓qbZ, ↓qbY, ↓qb0, ↓qcx, ↓qcv, ↓qcw, ↓qcu, ↓qcy, ↓qb9, ↓qcb, ↓qb6, ↓qce, ↓qcc, ↓qb8, ↓qca, ↓qcd, ↓qb7, ↓qaY, ↓qan, ↓qai, ↓qaj, ↓qam, ↓qak, ↓qal, ↓qct, ↓qcs, ↓qcr, ↓qaq, ↓qao, ↓qap, ↓qbv, ↓qah, ↓qbS, ↓qbC, ↓qaD, ↓qaC, ↓qbx, ↓qbw, ↓qcW, ↓qbT, ↓qbM, ↓qbN, ↓qbL, ↓qbD, ↓qbE, ↓qbO, qad, qbB, qbA, qbz, ↓qck, ↓qcj, ↓qcm, ↓qcl, qbV, ↓qbQ, ↓qbP, ↓qbR, qby, qcI, qcJ, qaI, behindInMarks, lastMarks, Option.map_some, List.contains_cons, List.map_cons, List.map_nil, String.reduceBEq, String.reduceEq, Bool.and_true, Bool.true_and, Bool.and_false, Bool.false_and, Bool.or_true, Bool.true_or, Bool.or_false, Bool.false_or, Bool.not_true, Bool.not_false, and_true, true_and, exists_eq_left', exists_eq_left, beq_self_eq_true, List.length_cons, List.length_nil, Nat.reduceAdd, Nat.zero_add, Nat.reduceLeDiff, decide_true, decide_false, if_false, if_true, reduceCtorEq, N20, ↓U20, rowD, ↓in_st]
      refine iteB_of (fun hst => ?_) (fun hst => ?_)
      · have hw := wid_st hst
        simp (maxSteps := 1000000) (dsimp := false) only [↓qaG, ↓qaH, ↓qcp, ↓qco, ↓qcn, ↓qcq, ↓qa4, ↓qbG, ↓qbF, ↓qaa, ↓qac, ↓qab, ↓qba, ↓qbe, ↓qa6, ↓qbi, ↓qa5, ↓qbf, ↓qbb, ↓qa9, ↓qbh, ↓qbd, ↓qbg, ↓qcL, ↓qcK, ↓qcM, ↓qb4, ↓qbk, ↓qbj, ↓qaF, ↓qaE, ↓qcN, ↓qcO, ↓qa8, ↓qa7, ↓qbc, ↓qcT, ↓qcP, ↓qcR, ↓qcS, ↓qcQ, ↓qbl, ↓qbt, ↓qbs, ↓qbm, ↓qbo, ↓qbq, ↓qbu, ↓qbp, ↓qbr, ↓qbn, ↓qbW, ↓qbX, ↓qaf, ↓qae, ↓qag, ↓qaP, ↓qaO, ↓qaK, ↓qaJ, ↓qaL, ↓qaM, ↓qaN, ↓qaZ, ↓qbU, ↓qbH, ↓qbI, ↓qbJ, ↓qbK, ↓qcf, ↓qcg, ↓qch, ↓qci, ↓qa1, ↓qa3, ↓qa0, ↓qa2, ↓qar, ↓qaA, ↓qaw, ↓qav, ↓qau, ↓qay, ↓qaz, ↓qas, ↓qax, ↓qaB, ↓qat, ↓qcV, ↓qcU, ↓qaQ, ↓qaW, ↓qaV, ↓qaU, ↓qcF, ↓qcC, ↓qcz, ↓qcG, ↓qcA, ↓qcD, ↓qcE, ↓qcH, ↓qcB, ↓qb5, ↓qb3, ↓qb2, ↓qb1, ↓qbZ, ↓qbY, ↓qb0, ↓qcx, ↓qcv, ↓qcw, ↓qcu, ↓qcy, ↓qb9, ↓qcb, ↓qb6, ↓qce, ↓qcc, ↓qb8, ↓qca, ↓qcd, ↓qb7, ↓qaY, ↓qan, ↓qai, ↓qaj, ↓qam, ↓qak, ↓qal, ↓qct, ↓qcs, ↓qcr, ↓qaq, ↓qao, ↓qap, ↓qbv, ↓qah, ↓qbS, ↓qbC, ↓qaD, ↓qaC, ↓qbx, ↓qbw, ↓qcW, ↓qbT, ↓qbM, ↓qbN, ↓qbL, ↓qbD, ↓qbE, ↓qbO, qad, qbB, qbA, qbz, ↓qck, ↓qcj, ↓qcm, ↓qcl, qbV, ↓qbQ, ↓qbP, ↓qbR, qby, qcI, qcJ, qaI, behindInMarks, lastMarks, Option.map_some, List.contains_cons, List.map_cons, List.map_nil, String.reduceBEq, String.reduceEq, Bool.and_true, Bool.true_and, Bool.and_false, Bool.false_and, Bool.or_true, Bool.true_or, Bool.or_false, Bool.false_or, Bool.not_true, Bool.not_false, and_true, true_and, exists_eq_left', exists_eq_left, beq_self_eq_true, List.length_cons, List.length_nil, Nat.reduceAdd, Nat.zero_add, Nat.reduceLeDiff, decide_true, decide_false, if_false, if_true, reduceCtorEq, N20, ↓U20]
        refine forH_of (items := intsUp 0 (wid r.op)) (own_none rfl) (fun K hK => ?_) (fun u τ => τ = (Z tb20 [Slot.val (rowsD rs), Slot.val (.list (hs.map .int)), Slot.lst (m.held.map .int), Slot.dct (stC m.cells (hdA m.held r.b + r.c) (hdA m.held r.a) u), Slot.val (.int m.high), Slot.val m.last, Slot.val (.str (Str.ofString r.op.nm)), Slot.val (.int r.a), Slot.val (.int r.b), Slot.val (.int r.c)])) rfl (fun u d τ hd hτ => ?_) (fun τ hτ => ?_)
        · rw [hw] at hK
          simp (maxSteps := 1000000) (dsimp := false) only [↓qaG, ↓qaH, ↓qcp, ↓qco, ↓qcn, ↓qcq, ↓qa4, ↓qbG, ↓qbF, ↓qaa, ↓qac, ↓qab, ↓qba, ↓qbe, ↓qa6, ↓qbi, ↓qa5, ↓qbf, ↓qbb, ↓qa9, ↓qbh, ↓qbd, ↓qbg, ↓qcL, ↓qcK, ↓qcM, ↓qb4, ↓qbk, ↓qbj, ↓qaF, ↓qaE, ↓qcN, ↓qcO, ↓qa8, ↓qa7, ↓qbc, ↓qcT, ↓qcP, ↓qcR, ↓qcS, ↓qcQ, ↓qbl, ↓qbt, ↓qbs, ↓qbm, ↓qbo, ↓qbq, ↓qbu, ↓qbp, ↓qbr, ↓qbn, ↓qbW, ↓qbX, ↓qaf, ↓qae, ↓qag, ↓qaP, ↓qaO, ↓qaK, ↓qaJ, ↓qaL, ↓qaM, ↓qaN, ↓qaZ, ↓qbU, ↓qbH, ↓qbI, ↓qbJ, ↓qbK, ↓qcf, ↓qcg, ↓qch, ↓qci, ↓qa1, ↓qa3, ↓qa0, ↓qa2, ↓qar, ↓qaA, ↓qaw, ↓qav, ↓qau, ↓qay, ↓qaz, ↓qas, ↓qax, ↓qaB, ↓qat, ↓qcV, ↓qcU, ↓qaQ, ↓qaW, ↓qaV, ↓qaU, ↓qcF, ↓qcC, ↓qcz, ↓qcG, ↓qcA, ↓qcD, ↓qcE, ↓qcH, ↓qcB, ↓qb5, ↓qb3, ↓qb2, ↓qb1, ↓qbZ, ↓qbY, ↓qb0, ↓qcx, ↓qcv, ↓qcw, ↓qcu, ↓qcy, ↓qb9, ↓qcb, ↓qb6, ↓qce, ↓qcc, ↓qb8, ↓qca, ↓qcd, ↓qb7, ↓qaY, ↓qan, ↓qai, ↓qaj, ↓qam, ↓qak, ↓qal, ↓qct, ↓qcs, ↓qcr, ↓qaq, ↓qao, ↓qap, ↓qbv, ↓qah, ↓qbS, ↓qbC, ↓qaD, ↓qaC, ↓qbx, ↓qbw, ↓qcW, ↓qbT, ↓qbM, ↓qbN, ↓qbL, ↓qbD, ↓qbE, ↓qbO, qad, qbB, qbA, qbz, ↓qck, ↓qcj, ↓qcm, ↓qcl, qbV, ↓qbQ, ↓qbP, ↓qbR, qby, qcI, qcJ, qaI, behindInMarks, lastMarks, Option.map_some, List.contains_cons, List.map_cons, List.map_nil, String.reduceBEq, String.reduceEq, Bool.and_true, Bool.true_and, Bool.and_false, Bool.false_and, Bool.or_true, Bool.true_or, Bool.or_false, Bool.false_or, Bool.not_true, Bool.not_false, and_true, true_and, exists_eq_left', exists_eq_left, beq_self_eq_true, List.length_cons, List.length_nil, Nat.reduceAdd, Nat.zero_add, Nat.reduceLeDiff, decide_true, decide_false, if_false, if_true, reduceCtorEq, N20, ↓U20, ↓eq_STR]
          refine iteB_of (fun g => ?_) (fun g => ?_)
          · rw [if_pos (of_decide_eq_true g)] at hK
            simp (maxSteps := 1000000) (dsimp := false) only [↓qaG, ↓qaH, ↓qcp, ↓qco, ↓qcn, ↓qcq, ↓qa4, ↓qbG, ↓qbF, ↓qaa, ↓qac, ↓qab, ↓qba, ↓qbe, ↓qa6, ↓qbi, ↓qa5, ↓qbf, ↓qbb, ↓qa9, ↓qbh, ↓qbd, ↓qbg, ↓qcL, ↓qcK, ↓qcM, ↓qb4, ↓qbk, ↓qbj, ↓qaF, ↓qaE, ↓qcN, ↓qcO, ↓qa8, ↓qa7, ↓qbc, ↓qcT, ↓qcP, ↓qcR, ↓qcS, ↓qcQ, ↓qbl, ↓qbt, ↓qbs, ↓qbm, ↓qbo, ↓qbq, ↓qbu, ↓qbp, ↓qbr, ↓qbn, ↓qbW, ↓qbX, ↓qaf, ↓qae, ↓qag, ↓qaP, ↓qaO, ↓qaK, ↓qaJ, ↓qaL, ↓qaM, ↓qaN, ↓qaZ, ↓qbU, ↓qbH, ↓qbI, ↓qbJ, ↓qbK, ↓qcf, ↓qcg, ↓qch, ↓qci, ↓qa1, ↓qa3, ↓qa0, ↓qa2, ↓qar, ↓qaA, ↓qaw, ↓qav, ↓qau, ↓qay, ↓qaz, ↓qas, ↓qax, ↓qaB, ↓qat, ↓qcV, ↓qcU, ↓qaQ, ↓qaW, ↓qaV, ↓qaU, ↓qcF, ↓qcC, ↓qcz, ↓qcG, ↓qcA, ↓qcD, ↓qcE, ↓qcH, ↓qcB, ↓qb5, ↓qb3, ↓qb2, ↓qb1, ↓qbZ, ↓qbY, ↓qb0, ↓qcx, ↓qcv, ↓qcw, ↓qcu, ↓qcy, ↓qb9, ↓qcb, ↓qb6, ↓qce, ↓qcc, ↓qb8, ↓qca, ↓qcd, ↓qb7, ↓qaY, ↓qan, ↓qai, ↓qaj, ↓qam, ↓qak, ↓qal, ↓qct, ↓qcs, ↓qcr, ↓qaq, ↓qao, ↓qap, ↓qbv, ↓qah, ↓qbS, ↓qbC, ↓qaD, ↓qaC, ↓qbx, ↓qbw, ↓qcW, ↓qbT, ↓qbM, ↓qbN, ↓qbL, ↓qbD, ↓qbE, ↓qbO, qad, qbB, qbA, qbz, ↓qck, ↓qcj, ↓qcm, ↓qcl, qbV, ↓qbQ, ↓qbP, ↓qbR, qby, qcI, qcJ, qaI, behindInMarks, lastMarks, Option.map_some, List.contains_cons, List.map_cons, List.map_nil, String.reduceBEq, String.reduceEq, Bool.and_true, Bool.true_and, Bool.and_false, Bool.false_and, Bool.or_true, Bool.true_or, Bool.or_false, Bool.false_or, Bool.not_true, Bool.not_false, and_true, true_and, exists_eq_left', exists_eq_left, beq_self_eq_true, List.length_cons, List.length_nil, Nat.reduceAdd, Nat.zero_add, Nat.reduceLeDiff, decide_true, decide_false, if_false, if_true, reduceCtorEq, N20, ↓U20]
            exact ⟨by decide, by decide, hK⟩
          · rw [if_neg (of_decide_eq_false g)] at hK
            simp (maxSteps := 1000000) (dsimp := false) only [↓qaG, ↓qaH, ↓qcp, ↓qco, ↓qcn, ↓qcq, ↓qa4, ↓qbG, ↓qbF, ↓qaa, ↓qac, ↓qab, ↓qba, ↓qbe, ↓qa6, ↓qbi, ↓qa5, ↓qbf, ↓qbb, ↓qa9, ↓qbh, ↓qbd, ↓qbg, ↓qcL, ↓qcK, ↓qcM, ↓qb4, ↓qbk, ↓qbj, ↓qaF, ↓qaE, ↓qcN, ↓qcO, ↓qa8, ↓qa7, ↓qbc, ↓qcT, ↓qcP, ↓qcR, ↓qcS, ↓qcQ, ↓qbl, ↓qbt, ↓qbs, ↓qbm, ↓qbo, ↓qbq, ↓qbu, ↓qbp, ↓qbr, ↓qbn, ↓qbW, ↓qbX, ↓qaf, ↓qae, ↓qag, ↓qaP, ↓qaO, ↓qaK, ↓qaJ, ↓qaL, ↓qaM, ↓qaN, ↓qaZ, ↓qbU, ↓qbH, ↓qbI, ↓qbJ, ↓qbK, ↓qcf, ↓qcg, ↓qch, ↓qci, ↓qa1, ↓qa3, ↓qa0, ↓qa2, ↓qar, ↓qaA, ↓qaw, ↓qav, ↓qau, ↓qay, ↓qaz, ↓qas, ↓qax, ↓qaB, ↓qat, ↓qcV, ↓qcU, ↓qaQ, ↓qaW, ↓qaV, ↓qaU, ↓qcF, ↓qcC, ↓qcz, ↓qcG, ↓qcA, ↓qcD, ↓qcE, ↓qcH, ↓qcB, ↓qb5, ↓qb3, ↓qb2, ↓qb1, ↓qbZ, ↓qbY, ↓qb0, ↓qcx, ↓qcv, ↓qcw, ↓qcu, ↓qcy, ↓qb9, ↓qcb, ↓qb6, ↓qce, ↓qcc, ↓qb8, ↓qca, ↓qcd, ↓qb7, ↓qaY, ↓qan, ↓qai, ↓qaj, ↓qam, ↓qak, ↓qal, ↓qct, ↓qcs, ↓qcr, ↓qaq, ↓qao, ↓qap, ↓qbv, ↓qah, ↓qbS, ↓qbC, ↓qaD, ↓qaC, ↓qbx, ↓qbw, ↓qcW, ↓qbT, ↓qbM, ↓qbN, ↓qbL, ↓qbD, ↓qbE, ↓qbO, qad, qbB, qbA, qbz, ↓qck, ↓qcj, ↓qcm, ↓qcl, qbV, ↓qbQ, ↓qbP, ↓qbR, qby, qcI, qcJ, qaI, behindInMarks, lastMarks, Option.map_some, List.contains_cons, List.map_cons, List.map_nil, String.reduceBEq, String.reduceEq, Bool.and_true, Bool.true_and, Bool.and_false, Bool.false_and, Bool.or_true, Bool.true_or, Bool.or_false, Bool.false_or, Bool.not_true, Bool.not_false, and_true, true_and, exists_eq_left', exists_eq_left, beq_self_eq_true, List.length_cons, List.length_nil, Nat.reduceAdd, Nat.zero_add, Nat.reduceLeDiff, decide_true, decide_false, if_false, if_true, reduceCtorEq, N20, ↓U20]
            exact ⟨by decide, by decide, hK⟩
        · obtain ⟨hu, rfl⟩ := intsUp_at hd
          rw [Int.zero_add] at hu ⊢
          have hw4 : wid r.op ≤ 4 := by rw [hw]; split <;> decide
          subst hτ
          simp (maxSteps := 1000000) (dsimp := false) only [↓qaG, ↓qaH, ↓qcp, ↓qco, ↓qcn, ↓qcq, ↓qa4, ↓qbG, ↓qbF, ↓qaa, ↓qac, ↓qab, ↓qba, ↓qbe, ↓qa6, ↓qbi, ↓qa5, ↓qbf, ↓qbb, ↓qa9, ↓qbh, ↓qbd, ↓qbg, ↓qcL, ↓qcK, ↓qcM, ↓qb4, ↓qbk, ↓qbj, ↓qaF, ↓qaE, ↓qcN, ↓qcO, ↓qa8, ↓qa7, ↓qbc, ↓qcT, ↓qcP, ↓qcR, ↓qcS, ↓qcQ, ↓qbl, ↓qbt, ↓qbs, ↓qbm, ↓qbo, ↓qbq, ↓qbu, ↓qbp, ↓qbr, ↓qbn, ↓qbW, ↓qbX, ↓qaf, ↓qae, ↓qag, ↓qaP, ↓qaO, ↓qaK, ↓qaJ, ↓qaL, ↓qaM, ↓qaN, ↓qaZ, ↓qbU, ↓qbH, ↓qbI, ↓qbJ, ↓qbK, ↓qcf, ↓qcg, ↓qch, ↓qci, ↓qa1, ↓qa3, ↓qa0, ↓qa2, ↓qar, ↓qaA, ↓qaw, ↓qav, ↓qau, ↓qay, ↓qaz, ↓qas, ↓qax, ↓qaB, ↓qat, ↓qcV, ↓qcU, ↓qaQ, ↓qaW, ↓qaV, ↓qaU, ↓qcF, ↓qcC, ↓qcz, ↓qcG, ↓qcA, ↓qcD, ↓qcE, ↓qcH, ↓qcB, ↓qb5, ↓qb3, ↓qb2, ↓qb1, ↓qbZ, ↓qbY, ↓qb0, ↓qcx, ↓qcv, ↓qcw, ↓qcu, ↓qcy, ↓qb9, ↓qcb, ↓qb6, ↓qce, ↓qcc, ↓qb8, ↓qca, ↓qcd, ↓qb7, ↓qaY, ↓qan, ↓qai, ↓qaj, ↓qam, ↓qak, ↓qal, ↓qct, ↓qcs, ↓qcr, ↓qaq, ↓qao, ↓qap, ↓qbv, ↓qah, ↓qbS, ↓qbC, ↓qaD, ↓qaC, ↓qbx, ↓qbw, ↓qcW, ↓qbT, ↓qbM, ↓qbN, ↓qbL, ↓qbD, ↓qbE, ↓qbO, qad, qbB, qbA, qbz, ↓qck, ↓qcj, ↓qcm, ↓qcl, qbV, ↓qbQ, ↓qbP, ↓qbR, qby, qcI, qcJ, qaI, behindInMarks, lastMarks, Option.map_some, List.contains_cons, List.map_cons, List.map_nil, String.reduceBEq, String.reduceEq, Bool.and_true, Bool.true_and, Bool.and_false, Bool.false_and, Bool.or_true, Bool.true_or, Bool.or_false, Bool.false_or, Bool.not_true, Bool.not_false, and_true, true_and, exists_eq_left', exists_eq_left, beq_self_eq_true, List.length_cons, List.length_nil, Nat.reduceAdd, Nat.zero_add, Nat.reduceLeDiff, decide_true, decide_false, if_false, if_true, reduceCtorEq, N20, ↓U20, ↓held_at hl vr.a0 la', ↓held_at hl vr.b0 vr.b1]
          have hsc := (stC_ok (base := hdA m.held r.b + r.c) (v := hdA m.held r.a) hmok.byt hmok.nd u).1
          refine ⟨by decide, by omega, by omega, by omega, ?_⟩
          (refine ⟨_, sub_Z ?_, rfl⟩; repeat (first | exact subV_n | refine subV_e ?_ | refine subV_d ?_))
        · subst hτ
          simp (maxSteps := 1000000) (dsimp := false) only [↓qaG, ↓qaH, ↓qcp, ↓qco, ↓qcn, ↓qcq, ↓qa4, ↓qbG, ↓qbF, ↓qaa, ↓qac, ↓qab, ↓qba, ↓qbe, ↓qa6, ↓qbi, ↓qa5, ↓qbf, ↓qbb, ↓qa9, ↓qbh, ↓qbd, ↓qbg, ↓qcL, ↓qcK, ↓qcM, ↓qb4, ↓qbk, ↓qbj, ↓qaF, ↓qaE, ↓qcN, ↓qcO, ↓qa8, ↓qa7, ↓qbc, ↓qcT, ↓qcP, ↓qcR, ↓qcS, ↓qcQ, ↓qbl, ↓qbt, ↓qbs, ↓qbm, ↓qbo, ↓qbq, ↓qbu, ↓qbp, ↓qbr, ↓qbn, ↓qbW, ↓qbX, ↓qaf, ↓qae, ↓qag, ↓qaP, ↓qaO, ↓qaK, ↓qaJ, ↓qaL, ↓qaM, ↓qaN, ↓qaZ, ↓qbU, ↓qbH, ↓qbI, ↓qbJ, ↓qbK, ↓qcf, ↓qcg, ↓qch, ↓qci, ↓qa1, ↓qa3, ↓qa0, ↓qa2, ↓qar, ↓qaA, ↓qaw, ↓qav, ↓qau, ↓qay, ↓qaz, ↓qas, ↓qax, ↓qaB, ↓qat, ↓qcV, ↓qcU, ↓qaQ, ↓qaW, ↓qaV, ↓qaU, ↓qcF, ↓qcC, ↓qcz, ↓qcG, ↓qcA, ↓qcD, ↓qcE, ↓qcH, ↓qcB, ↓qb5, ↓qb3, ↓qb2, ↓qb1, ↓qbZ, ↓qbY, ↓qb0, ↓qcx, ↓qcv, ↓qcw, ↓qcu, ↓qcy, ↓qb9, ↓qcb, ↓qb6, ↓qce, ↓qcc, ↓qb8, ↓qca, ↓qcd, ↓qb7, ↓qaY, ↓qan, ↓qai, ↓qaj, ↓qam, ↓qak, ↓qal, ↓qct, ↓qcs, ↓qcr, ↓qaq, ↓qao, ↓qap, ↓qbv, ↓qah, ↓qbS, ↓qbC, ↓qaD, ↓qaC, ↓qbx, ↓qbw, ↓qcW, ↓qbT, ↓qbM, ↓qbN, ↓qbL, ↓qbD, ↓qbE, ↓qbO, qad, qbB, qbA, qbz, ↓qck, ↓qcj, ↓qcm, ↓qcl, qbV, ↓qbQ, ↓qbP, ↓qbR, qby, qcI, qcJ, qaI, behindInMarks, lastMarks, Option.map_some, List.contains_cons, List.map_cons, List.map_nil, String.reduceBEq, String.reduceEq, Bool.and_true, Bool.true_and, Bool.and_false, Bool.false_and, Bool.or_true, Bool.true_or, Bool.or_false, Bool.false_or, Bool.not_true, Bool.not_false, and_true, true_and, exists_eq_left', exists_eq_left, beq_self_eq_true, List.length_cons, List.length_nil, Nat.reduceAdd, Nat.zero_add, Nat.reduceLeDiff, decide_true, decide_false, if_false, if_true, reduceCtorEq, N20, ↓U20]
          refine nx _ (sub_Z ?_)
          rw [step_mark, step_high, step_cells, step_held, hst, if_pos rfl, if_pos rfl, if_pos (st_mem hst), if_neg (fun e => by rw [e] at hst; cases hst), intsUp_len, Int.sub_zero, Int.toNat_natCast]
          (repeat (first | exact subV_n | refine subV_e ?_ | refine subV_d ?_))
      · simp (maxSteps := 1000000) (dsimp := false) only [↓qaG, ↓qaH, ↓qcp, ↓qco, ↓qcn, ↓qcq, ↓qa4, ↓qbG, ↓qbF, ↓qaa, ↓qac, ↓qab, ↓qba, ↓qbe, ↓qa6, ↓qbi, ↓qa5, ↓qbf, ↓qbb, ↓qa9, ↓qbh, ↓qbd, ↓qbg, ↓qcL, ↓qcK, ↓qcM, ↓qb4, ↓qbk, ↓qbj, ↓qaF, ↓qaE, ↓qcN, ↓qcO, ↓qa8, ↓qa7, ↓qbc, ↓qcT, ↓qcP, ↓qcR, ↓qcS, ↓qcQ, ↓qbl, ↓qbt, ↓qbs, ↓qbm, ↓qbo, ↓qbq, ↓qbu, ↓qbp, ↓qbr, ↓qbn, ↓qbW, ↓qbX, ↓qaf, ↓qae, ↓qag, ↓qaP, ↓qaO, ↓qaK, ↓qaJ, ↓qaL, ↓qaM, ↓qaN, ↓qaZ, ↓qbU, ↓qbH, ↓qbI, ↓qbJ, ↓qbK, ↓qcf, ↓qcg, ↓qch, ↓qci, ↓qa1, ↓qa3, ↓qa0, ↓qa2, ↓qar, ↓qaA, ↓qaw, ↓qav, ↓qau, ↓qay, ↓qaz, ↓qas, ↓qax, ↓qaB, ↓qat, ↓qcV, ↓qcU, ↓qaQ, ↓qaW, ↓qaV, ↓qaU, ↓qcF, ↓qcC, ↓qcz, ↓qcG, ↓qcA, ↓qcD, ↓qcE, ↓qcH, ↓qcB, ↓qb5, ↓qb3, ↓qb2, ↓qb1, ↓qbZ, ↓qbY, ↓qb0, ↓qcx, ↓qcv, ↓qcw, ↓qcu, ↓qcy, ↓qb9, ↓qcb, ↓qb6, ↓qce, ↓qcc, ↓qb8, ↓qca, ↓qcd, ↓qb7, ↓qaY, ↓qan, ↓qai, ↓qaj, ↓qam, ↓qak, ↓qal, ↓qct, ↓qcs, ↓qcr, ↓qaq, ↓qao, ↓qap, ↓qbv, ↓qah, ↓qbS, ↓qbC, ↓qaD, ↓qaC, ↓qbx, ↓qbw, ↓qcW, ↓qbT, ↓qbM, ↓qbN, ↓qbL, ↓qbD, ↓qbE, ↓qbO, qad, qbB, qbA, qbz, ↓qck, ↓qcj, ↓qcm, ↓qcl, qbV, ↓qbQ, ↓qbP, ↓qbR, qby, qcI, qcJ, qaI, behindInMarks, lastMarks, Option.map_some, List.contains_cons, List.map_cons, List.map_nil, String.reduceBEq, String.reduceEq, Bool.and_true, Bool.true_and, Bool.and_false, Bool.false_and, Bool.or_true, Bool.true_or, Bool.or_false, Bool.false_or, Bool.not_true, Bool.not_false, and_true, true_and, exists_eq_left', exists_eq_left, beq_self_eq_true, List.length_cons, List.length_nil, Nat.reduceAdd, Nat.zero_add, Nat.reduceLeDiff, decide_true, decide_false, if_false, if_true, reduceCtorEq, N20, ↓U20, ↓in_ld]
        refine iteB_of (fun hld => ?_) (fun hld => ?_)
        · have hw := wid_ld hld
          simp (maxSteps := 1000000) (dsimp := false) only [↓qaG, ↓qaH, ↓qcp, ↓qco, ↓qcn, ↓qcq, ↓qa4, ↓qbG, ↓qbF, ↓qaa, ↓qac, ↓qab, ↓qba, ↓qbe, ↓qa6, ↓qbi, ↓qa5, ↓qbf, ↓qbb, ↓qa9, ↓qbh, ↓qbd, ↓qbg, ↓qcL, ↓qcK, ↓qcM, ↓qb4, ↓qbk, ↓qbj, ↓qaF, ↓qaE, ↓qcN, ↓qcO, ↓qa8, ↓qa7, ↓qbc, ↓qcT, ↓qcP, ↓qcR, ↓qcS, ↓qcQ, ↓qbl, ↓qbt, ↓qbs, ↓qbm, ↓qbo, ↓qbq, ↓qbu, ↓qbp, ↓qbr, ↓qbn, ↓qbW, ↓qbX, ↓qaf, ↓qae, ↓qag, ↓qaP, ↓qaO, ↓qaK, ↓qaJ, ↓qaL, ↓qaM, ↓qaN, ↓qaZ, ↓qbU, ↓qbH, ↓qbI, ↓qbJ, ↓qbK, ↓qcf, ↓qcg, ↓qch, ↓qci, ↓qa1, ↓qa3, ↓qa0, ↓qa2, ↓qar, ↓qaA, ↓qaw, ↓qav, ↓qau, ↓qay, ↓qaz, ↓qas, ↓qax, ↓qaB, ↓qat, ↓qcV, ↓qcU, ↓qaQ, ↓qaW, ↓qaV, ↓qaU, ↓qcF, ↓qcC, ↓qcz, ↓qcG, ↓qcA, ↓qcD, ↓qcE, ↓qcH, ↓qcB, ↓qb5, ↓qb3, ↓qb2, ↓qb1, ↓qbZ, ↓qbY, ↓qb0, ↓qcx, ↓qcv, ↓qcw, ↓qcu, ↓qcy, ↓qb9, ↓qcb, ↓qb6, ↓qce, ↓qcc, ↓qb8, ↓qca, ↓qcd, ↓qb7, ↓qaY, ↓qan, ↓qai, ↓qaj, ↓qam, ↓qak, ↓qal, ↓qct, ↓qcs, ↓qcr, ↓qaq, ↓qao, ↓qap, ↓qbv, ↓qah, ↓qbS, ↓qbC, ↓qaD, ↓qaC, ↓qbx, ↓qbw, ↓qcW, ↓qbT, ↓qbM, ↓qbN, ↓qbL, ↓qbD, ↓qbE, ↓qbO, qad, qbB, qbA, qbz, ↓qck, ↓qcj, ↓qcm, ↓qcl, qbV, ↓qbQ, ↓qbP, ↓qbR, qby, qcI, qcJ, qaI, behindInMarks, lastMarks, Option.map_some, List.contains_cons, List.map_cons, List.map_nil, String.reduceBEq, String.reduceEq, Bool.and_true, Bool.true_and, Bool.and_false, Bool.false_and, Bool.or_true, Bool.true_or, Bool.or_false, Bool.false_or, Bool.not_true, Bool.not_false, and_true, true_and, exists_eq_left', exists_eq_left, beq_self_eq_true, List.length_cons, List.length_nil, Nat.reduceAdd, Nat.zero_add, Nat.reduceLeDiff, decide_true, decide_false, if_false, if_true, reduceCtorEq, N20, ↓U20]
          refine forH_of (items := intsUp 0 (wid r.op)) (own_none rfl) (fun K hK => ?_) (fun u τ => τ = (Z tb20 [Slot.val (rowsD rs), Slot.val (.list (hs.map .int)), Slot.lst (m.held.map .int), Slot.dct m.cells, Slot.val (.int m.high), Slot.val m.last, Slot.val (.str (Str.ofString r.op.nm)), Slot.val (.int r.a), Slot.val (.int r.b), Slot.val (.int r.c), Slot.dead, Slot.val (.int (ldT m.cells (hdA m.held r.b + r.c) u))])) rfl (fun u d τ hd hτ => ?_) (fun τ hτ => ?_)
          · rw [hw] at hK
            simp (maxSteps := 1000000) (dsimp := false) only [↓qaG, ↓qaH, ↓qcp, ↓qco, ↓qcn, ↓qcq, ↓qa4, ↓qbG, ↓qbF, ↓qaa, ↓qac, ↓qab, ↓qba, ↓qbe, ↓qa6, ↓qbi, ↓qa5, ↓qbf, ↓qbb, ↓qa9, ↓qbh, ↓qbd, ↓qbg, ↓qcL, ↓qcK, ↓qcM, ↓qb4, ↓qbk, ↓qbj, ↓qaF, ↓qaE, ↓qcN, ↓qcO, ↓qa8, ↓qa7, ↓qbc, ↓qcT, ↓qcP, ↓qcR, ↓qcS, ↓qcQ, ↓qbl, ↓qbt, ↓qbs, ↓qbm, ↓qbo, ↓qbq, ↓qbu, ↓qbp, ↓qbr, ↓qbn, ↓qbW, ↓qbX, ↓qaf, ↓qae, ↓qag, ↓qaP, ↓qaO, ↓qaK, ↓qaJ, ↓qaL, ↓qaM, ↓qaN, ↓qaZ, ↓qbU, ↓qbH, ↓qbI, ↓qbJ, ↓qbK, ↓qcf, ↓qcg, ↓qch, ↓qci, ↓qa1, ↓qa3, ↓qa0, ↓qa2, ↓qar, ↓qaA, ↓qaw, ↓qav, ↓qau, ↓qay, ↓qaz, ↓qas, ↓qax, ↓qaB, ↓qat, ↓qcV, ↓qcU, ↓qaQ, ↓qaW, ↓qaV, ↓qaU, ↓qcF, ↓qcC, ↓qcz, ↓qcG, ↓qcA, ↓qcD, ↓qcE, ↓qcH, ↓qcB, ↓qb5, ↓qb3, ↓qb2, ↓qb1, ↓qbZ, ↓qbY, ↓qb0, ↓qcx, ↓qcv, ↓qcw, ↓qcu, ↓qcy, ↓qb9, ↓qcb, ↓qb6, ↓qce, ↓qcc, ↓qb8, ↓qca, ↓qcd, ↓qb7, ↓qaY, ↓qan, ↓qai, ↓qaj, ↓qam, ↓qak, ↓qal, ↓qct, ↓qcs, ↓qcr, ↓qaq, ↓qao, ↓qap, ↓qbv, ↓qah, ↓qbS, ↓qbC, ↓qaD, ↓qaC, ↓qbx, ↓qbw, ↓qcW, ↓qbT, ↓qbM, ↓qbN, ↓qbL, ↓qbD, ↓qbE, ↓qbO, qad, qbB, qbA, qbz, ↓qck, ↓qcj, ↓qcm, ↓qcl, qbV, ↓qbQ, ↓qbP, ↓qbR, qby, qcI, qcJ, qaI, behindInMarks, lastMarks, Option.map_some, List.contains_cons, List.map_cons, List.map_nil, String.reduceBEq, String.reduceEq, Bool.and_true, Bool.true_and, Bool.and_false, Bool.false_and, Bool.or_true, Bool.true_or, Bool.or_false, Bool.false_or, Bool.not_true, Bool.not_false, and_true, true_and, exists_eq_left', exists_eq_left, beq_self_eq_true, List.length_cons, List.length_nil, Nat.reduceAdd, Nat.zero_add, Nat.reduceLeDiff, decide_true, decide_false, if_false, if_true, reduceCtorEq, N20, ↓U20, ↓eq_LDR]
            refine iteB_of (fun g => ?_) (fun g => ?_)
            · rw [if_pos (of_decide_eq_true g)] at hK
              simp (maxSteps := 1000000) (dsimp := false) only [↓qaG, ↓qaH, ↓qcp, ↓qco, ↓qcn, ↓qcq, ↓qa4, ↓qbG, ↓qbF, ↓qaa, ↓qac, ↓qab, ↓qba, ↓qbe, ↓qa6, ↓qbi, ↓qa5, ↓qbf, ↓qbb, ↓qa9, ↓qbh, ↓qbd, ↓qbg, ↓qcL, ↓qcK, ↓qcM, ↓qb4, ↓qbk, ↓qbj, ↓qaF, ↓qaE, ↓qcN, ↓qcO, ↓qa8, ↓qa7, ↓qbc, ↓qcT, ↓qcP, ↓qcR, ↓qcS, ↓qcQ, ↓qbl, ↓qbt, ↓qbs, ↓qbm, ↓qbo, ↓qbq, ↓qbu, ↓qbp, ↓qbr, ↓qbn, ↓qbW, ↓qbX, ↓qaf, ↓qae, ↓qag, ↓qaP, ↓qaO, ↓qaK, ↓qaJ, ↓qaL, ↓qaM, ↓qaN, ↓qaZ, ↓qbU, ↓qbH, ↓qbI, ↓qbJ, ↓qbK, ↓qcf, ↓qcg, ↓qch, ↓qci, ↓qa1, ↓qa3, ↓qa0, ↓qa2, ↓qar, ↓qaA, ↓qaw, ↓qav, ↓qau, ↓qay, ↓qaz, ↓qas, ↓qax, ↓qaB, ↓qat, ↓qcV, ↓qcU, ↓qaQ, ↓qaW, ↓qaV, ↓qaU, ↓qcF, ↓qcC, ↓qcz, ↓qcG, ↓qcA, ↓qcD, ↓qcE, ↓qcH, ↓qcB, ↓qb5, ↓qb3, ↓qb2, ↓qb1, ↓qbZ, ↓qbY, ↓qb0, ↓qcx, ↓qcv, ↓qcw, ↓qcu, ↓qcy, ↓qb9, ↓qcb, ↓qb6, ↓qce, ↓qcc, ↓qb8, ↓qca, ↓qcd, ↓qb7, ↓qaY, ↓qan, ↓qai, ↓qaj, ↓qam, ↓qak, ↓qal, ↓qct, ↓qcs, ↓qcr, ↓qaq, ↓qao, ↓qap, ↓qbv, ↓qah, ↓qbS, ↓qbC, ↓qaD, ↓qaC, ↓qbx, ↓qbw, ↓qcW, ↓qbT, ↓qbM, ↓qbN, ↓qbL, ↓qbD, ↓qbE, ↓qbO, qad, qbB, qbA, qbz, ↓qck, ↓qcj, ↓qcm, ↓qcl, qbV, ↓qbQ, ↓qbP, ↓qbR, qby, qcI, qcJ, qaI, behindInMarks, lastMarks, Option.map_some, List.contains_cons, List.map_cons, List.map_nil, String.reduceBEq, String.reduceEq, Bool.and_true, Bool.true_and, Bool.and_false, Bool.false_and, Bool.or_true, Bool.true_or, Bool.or_false, Bool.false_or, Bool.not_true, Bool.not_false, and_true, true_and, exists_eq_left', exists_eq_left, beq_self_eq_true, List.length_cons, List.length_nil, Nat.reduceAdd, Nat.zero_add, Nat.reduceLeDiff, decide_true, decide_false, if_false, if_true, reduceCtorEq, N20, ↓U20]
              exact ⟨by decide, by decide, hK⟩
            · rw [if_neg (of_decide_eq_false g)] at hK
              simp (maxSteps := 1000000) (dsimp := false) only [↓qaG, ↓qaH, ↓qcp, ↓qco, ↓qcn, ↓qcq, ↓qa4, ↓qbG, ↓qbF, ↓qaa, ↓qac, ↓qab, ↓qba, ↓qbe, ↓qa6, ↓qbi, ↓qa5, ↓qbf, ↓qbb, ↓qa9, ↓qbh, ↓qbd, ↓qbg, ↓qcL, ↓qcK, ↓qcM, ↓qb4, ↓qbk, ↓qbj, ↓qaF, ↓qaE, ↓qcN, ↓qcO, ↓qa8, ↓qa7, ↓qbc, ↓qcT, ↓qcP, ↓qcR, ↓qcS, ↓qcQ, ↓qbl, ↓qbt, ↓qbs, ↓qbm, ↓qbo, ↓qbq, ↓qbu, ↓qbp, ↓qbr, ↓qbn, ↓qbW, ↓qbX, ↓qaf, ↓qae, ↓qag, ↓qaP, ↓qaO, ↓qaK, ↓qaJ, ↓qaL, ↓qaM, ↓qaN, ↓qaZ, ↓qbU, ↓qbH, ↓qbI, ↓qbJ, ↓qbK, ↓qcf, ↓qcg, ↓qch, ↓qci, ↓qa1, ↓qa3, ↓qa0, ↓qa2, ↓qar, ↓qaA, ↓qaw, ↓qav, ↓qau, ↓qay, ↓qaz, ↓qas, ↓qax, ↓qaB, ↓qat, ↓qcV, ↓qcU, ↓qaQ, ↓qaW, ↓qaV, ↓qaU, ↓qcF, ↓qcC, ↓qcz, ↓qcG, ↓qcA, ↓qcD, ↓qcE, ↓qcH, ↓qcB, ↓qb5, ↓qb3, ↓qb2, ↓qb1, ↓qbZ, ↓qbY, ↓qb0, ↓qcx, ↓qcv, ↓qcw, ↓qcu, ↓qcy, ↓qb9, ↓qcb, ↓qb6, ↓qce, ↓qcc, ↓qb8, ↓qca, ↓qcd, ↓qb7, ↓qaY, ↓qan, ↓qai, ↓qaj, ↓qam, ↓qak, ↓qal, ↓qct, ↓qcs, ↓qcr, ↓qaq, ↓qao, ↓qap, ↓qbv, ↓qah, ↓qbS, ↓qbC, ↓qaD, ↓qaC, ↓qbx, ↓qbw, ↓qcW, ↓qbT, ↓qbM, ↓qbN, ↓qbL, ↓qbD, ↓qbE, ↓qbO, qad, qbB, qbA, qbz, ↓qck, ↓qcj, ↓qcm, ↓qcl, qbV, ↓qbQ, ↓qbP, ↓qbR, qby, qcI, qcJ, qaI, behindInMarks, lastMarks, Option.map_some, List.contains_cons, List.map_cons, List.map_nil, String.reduceBEq, String.reduceEq, Bool.and_true, Bool.true_and, Bool.and_false, Bool.false_and, Bool.or_true, Bool.true_or, Bool.or_false, Bool.false_or, Bool.not_true, Bool.not_false, and_true, true_and, exists_eq_left', exists_eq_left, beq_self_eq_true, List.length_cons, List.length_nil, Nat.reduceAdd, Nat.zero_add, Nat.reduceLeDiff, decide_true, decide_false, if_false, if_true, reduceCtorEq, N20, ↓U20]
              exact ⟨by decide, by decide, hK⟩
          · obtain ⟨hu, rfl⟩ := intsUp_at hd
            rw [Int.zero_add] at hu ⊢
            have hw4 : wid r.op ≤ 4 := by rw [hw]; split <;> decide
            subst hτ
            simp (maxSteps := 1000000) (dsimp := false) only [↓qaG, ↓qaH, ↓qcp, ↓qco, ↓qcn, ↓qcq, ↓qa4, ↓qbG, ↓qbF, ↓qaa, ↓qac, ↓qab, ↓qba, ↓qbe, ↓qa6, ↓qbi, ↓qa5, ↓qbf, ↓qbb, ↓qa9, ↓qbh, ↓qbd, ↓qbg, ↓qcL, ↓qcK, ↓qcM, ↓qb4, ↓qbk, ↓qbj, ↓qaF, ↓qaE, ↓qcN, ↓qcO, ↓qa8, ↓qa7, ↓qbc, ↓qcT, ↓qcP, ↓qcR, ↓qcS, ↓qcQ, ↓qbl, ↓qbt, ↓qbs, ↓qbm, ↓qbo, ↓qbq, ↓qbu, ↓qbp, ↓qbr, ↓qbn, ↓qbW, ↓qbX, ↓qaf, ↓qae, ↓qag, ↓qaP, ↓qaO, ↓qaK, ↓qaJ, ↓qaL, ↓qaM, ↓qaN, ↓qaZ, ↓qbU, ↓qbH, ↓qbI, ↓qbJ, ↓qbK, ↓qcf, ↓qcg, ↓qch, ↓qci, ↓qa1, ↓qa3, ↓qa0, ↓qa2, ↓qar, ↓qaA, ↓qaw, ↓qav, ↓qau, ↓qay, ↓qaz, ↓qas, ↓qax, ↓qaB, ↓qat, ↓qcV, ↓qcU, ↓qaQ, ↓qaW, ↓qaV, ↓qaU, ↓qcF, ↓qcC, ↓qcz, ↓qcG, ↓qcA, ↓qcD, ↓qcE, ↓qcH, ↓qcB, ↓qb5, ↓qb3, ↓qb2, ↓qb1, ↓qbZ, ↓qbY, ↓qb0, ↓qcx, ↓qcv, ↓qcw, ↓qcu, ↓qcy, ↓qb9, ↓qcb, ↓qb6, ↓qce, ↓qcc, ↓qb8, ↓qca, ↓qcd, ↓qb7, ↓qaY, ↓qan, ↓qai, ↓qaj, ↓qam, ↓qak, ↓qal, ↓qct, ↓qcs, ↓qcr, ↓qaq, ↓qao, ↓qap, ↓qbv, ↓qah, ↓qbS, ↓qbC, ↓qaD, ↓qaC, ↓qbx, ↓qbw, ↓qcW, ↓qbT, ↓qbM, ↓qbN, ↓qbL, ↓qbD, ↓qbE, ↓qbO, qad, qbB, qbA, qbz, ↓qck, ↓qcj, ↓qcm, ↓qcl, qbV, ↓qbQ, ↓qbP, ↓qbR, qby, qcI, qcJ, qaI, behindInMarks, lastMarks, Option.map_some, List.contains_cons, List.map_cons, List.map_nil, String.reduceBEq, String.reduceEq, Bool.and_true, Bool.true_and, Bool.and_false, Bool.false_and, Bool.or_true, Bool.true_or, Bool.or_false, Bool.false_or, Bool.not_true, Bool.not_false, and_true, true_and, exists_eq_left', exists_eq_left, beq_self_eq_true, List.length_cons, List.length_nil, Nat.reduceAdd, Nat.zero_add, Nat.reduceLeDiff, decide_true, decide_false, if_false, if_true, reduceCtorEq, N20, ↓U20, ↓held_at hl vr.a0 la', ↓held_at hl vr.b0 vr.b1]
            have hgc := gtC_rng hmok.byt (hdA m.held r.b + r.c + (u : Int))
            unfold gtC at hgc
            refine ⟨by omega, by decide, by decide, by decide, by omega, by omega, by omega, by omega, ?_⟩
            (refine ⟨_, sub_Z ?_, rfl⟩; repeat (first | exact subV_n | refine subV_e ?_ | refine subV_d ?_))
          · subst hτ
            simp (maxSteps := 1000000) (dsimp := false) only [↓qaG, ↓qaH, ↓qcp, ↓qco, ↓qcn, ↓qcq, ↓qa4, ↓qbG, ↓qbF, ↓qaa, ↓qac, ↓qab, ↓qba, ↓qbe, ↓qa6, ↓qbi, ↓qa5, ↓qbf, ↓qbb, ↓qa9, ↓qbh, ↓qbd, ↓qbg, ↓qcL, ↓qcK, ↓qcM, ↓qb4, ↓qbk, ↓qbj, ↓qaF, ↓qaE, ↓qcN, ↓qcO, ↓qa8, ↓qa7, ↓qbc, ↓qcT, ↓qcP, ↓qcR, ↓qcS, ↓qcQ, ↓qbl, ↓qbt, ↓qbs, ↓qbm, ↓qbo, ↓qbq, ↓qbu, ↓qbp, ↓qbr, ↓qbn, ↓qbW, ↓qbX, ↓qaf, ↓qae, ↓qag, ↓qaP, ↓qaO, ↓qaK, ↓qaJ, ↓qaL, ↓qaM, ↓qaN, ↓qaZ, ↓qbU, ↓qbH, ↓qbI, ↓qbJ, ↓qbK, ↓qcf, ↓qcg, ↓qch, ↓qci, ↓qa1, ↓qa3, ↓qa0, ↓qa2, ↓qar, ↓qaA, ↓qaw, ↓qav, ↓qau, ↓qay, ↓qaz, ↓qas, ↓qax, ↓qaB, ↓qat, ↓qcV, ↓qcU, ↓qaQ, ↓qaW, ↓qaV, ↓qaU, ↓qcF, ↓qcC, ↓qcz, ↓qcG, ↓qcA, ↓qcD, ↓qcE, ↓qcH, ↓qcB, ↓qb5, ↓qb3, ↓qb2, ↓qb1, ↓qbZ, ↓qbY, ↓qb0, ↓qcx, ↓qcv, ↓qcw, ↓qcu, ↓qcy, ↓qb9, ↓qcb, ↓qb6, ↓qce, ↓qcc, ↓qb8, ↓qca, ↓qcd, ↓qb7, ↓qaY, ↓qan, ↓qai, ↓qaj, ↓qam, ↓qak, ↓qal, ↓qct, ↓qcs, ↓qcr, ↓qaq, ↓qao, ↓qap, ↓qbv, ↓qah, ↓qbS, ↓qbC, ↓qaD, ↓qaC, ↓qbx, ↓qbw, ↓qcW, ↓qbT, ↓qbM, ↓qbN, ↓qbL, ↓qbD, ↓qbE, ↓qbO, qad, qbB, qbA, qbz, ↓qck, ↓qcj, ↓qcm, ↓qcl, qbV, ↓qbQ, ↓qbP, ↓qbR, qby, qcI, qcJ, qaI, behindInMarks, lastMarks, Option.map_some, List.contains_cons, List.map_cons, List.map_nil, String.reduceBEq, String.reduceEq, Bool.and_true, Bool.true_and, Bool.and_false, Bool.false_and, Bool.or_true, Bool.true_or, Bool.or_false, Bool.false_or, Bool.not_true, Bool.not_false, and_true, true_and, exists_eq_left', exists_eq_left, beq_self_eq_true, List.length_cons, List.length_nil, Nat.reduceAdd, Nat.zero_add, Nat.reduceLeDiff, decide_true, decide_false, if_false, if_true, reduceCtorEq, N20, ↓U20, set_int]
            refine ⟨vr.a0, la, lb, nx _ (sub_Z ?_)⟩
            rw [step_mark, step_high, step_cells, step_held, hst, if_neg (by simp), if_neg (by simp), if_pos (ld_mem hld), if_neg (fun e => by rw [e] at hld; cases hld), val_ld hld, intsUp_len, Int.sub_zero, Int.toNat_natCast]
            (repeat (first | exact subV_n | refine subV_e ?_ | refine subV_d ?_))
        · have hmm : r.op.isMem = false := by unfold Op.isMem; rw [hst, hld]; rfl
          have hvl : val m r = low (res m r) := by
            unfold val
            cases ho : r.op <;> first | rfl | (rw [ho] at hld; exact absurd hld (by decide))
          have fin : ∀ (v h : Int) (υ : List Slot), res m r = v → (step m r).high = h → SubV [Slot.val (rowsD rs), Slot.val (.list (hs.map .int)), Slot.lst ((m.held.set r.a.toNat (low v)).map .int), Slot.dct m.cells, Slot.val (.int h), Slot.val (mark r (low v))] υ → ∃ υ', Sub υ' (Z tb20 υ) ∧ υ' = (Z tb20 [Slot.val (rowsD rs), Slot.val (.list (hs.map .int)), Slot.lst ((rn (t + 1)).held.map .int), Slot.dct (rn (t + 1)).cells, Slot.val (.int (rn (t + 1)).high), Slot.val (rn (t + 1)).last]) := fun v h υ e1 e2 hs => nx _ (sub_Z (by
            rw [step_mark, step_cells, step_held, hst, if_neg (by simp), if_neg (by simp), hmm, if_neg (by simp), hvl, e1, e2]
            exact hs))
          have hnm : r.op ≠ .mul → (step m r).high = m.high := fun e => by rw [step_high, if_neg e]
          have hcr : r.op ≠ .movi → r.op ≠ .addi → r.op ≠ .lsli → r.op ≠ .andi → r.c < 6 := fun a b c d => vr.cr a b c d hmm
          have hsa : ∀ {x : Int} {Q : PyData → Prop}, itemW (.list ((m.held.map .int).set r.a.toNat (.int x))) (.int r.a) Q = Q (.int x) := fun {x Q} => by
            rw [set_int, held_at (hset _) vr.a0 la', hdA_set hl vr.a0 la']
          simp (maxSteps := 1000000) (dsimp := false) only [↓qaG, ↓qaH, ↓qcp, ↓qco, ↓qcn, ↓qcq, ↓qa4, ↓qbG, ↓qbF, ↓qaa, ↓qac, ↓qab, ↓qba, ↓qbe, ↓qa6, ↓qbi, ↓qa5, ↓qbf, ↓qbb, ↓qa9, ↓qbh, ↓qbd, ↓qbg, ↓qcL, ↓qcK, ↓qcM, ↓qb4, ↓qbk, ↓qbj, ↓qaF, ↓qaE, ↓qcN, ↓qcO, ↓qa8, ↓qa7, ↓qbc, ↓qcT, ↓qcP, ↓qcR, ↓qcS, ↓qcQ, ↓qbl, ↓qbt, ↓qbs, ↓qbm, ↓qbo, ↓qbq, ↓qbu, ↓qbp, ↓qbr, ↓qbn, ↓qbW, ↓qbX, ↓qaf, ↓qae, ↓qag, ↓qaP, ↓qaO, ↓qaK, ↓qaJ, ↓qaL, ↓qaM, ↓qaN, ↓qaZ, ↓qbU, ↓qbH, ↓qbI, ↓qbJ, ↓qbK, ↓qcf, ↓qcg, ↓qch, ↓qci, ↓qa1, ↓qa3, ↓qa0, ↓qa2, ↓qar, ↓qaA, ↓qaw, ↓qav, ↓qau, ↓qay, ↓qaz, ↓qas, ↓qax, ↓qaB, ↓qat, ↓qcV, ↓qcU, ↓qaQ, ↓qaW, ↓qaV, ↓qaU, ↓qcF, ↓qcC, ↓qcz, ↓qcG, ↓qcA, ↓qcD, ↓qcE, ↓qcH, ↓qcB, ↓qb5, ↓qb3, ↓qb2, ↓qb1, ↓qbZ, ↓qbY, ↓qb0, ↓qcx, ↓qcv, ↓qcw, ↓qcu, ↓qcy, ↓qb9, ↓qcb, ↓qb6, ↓qce, ↓qcc, ↓qb8, ↓qca, ↓qcd, ↓qb7, ↓qaY, ↓qan, ↓qai, ↓qaj, ↓qam, ↓qak, ↓qal, ↓qct, ↓qcs, ↓qcr, ↓qaq, ↓qao, ↓qap, ↓qbv, ↓qah, ↓qbS, ↓qbC, ↓qaD, ↓qaC, ↓qbx, ↓qbw, ↓qcW, ↓qbT, ↓qbM, ↓qbN, ↓qbL, ↓qbD, ↓qbE, ↓qbO, qad, qbB, qbA, qbz, ↓qck, ↓qcj, ↓qcm, ↓qcl, qbV, ↓qbQ, ↓qbP, ↓qbR, qby, qcI, qcJ, qaI, behindInMarks, lastMarks, Option.map_some, List.contains_cons, List.map_cons, List.map_nil, String.reduceBEq, String.reduceEq, Bool.and_true, Bool.true_and, Bool.and_false, Bool.false_and, Bool.or_true, Bool.true_or, Bool.or_false, Bool.false_or, Bool.not_true, Bool.not_false, and_true, true_and, exists_eq_left', exists_eq_left, beq_self_eq_true, List.length_cons, List.length_nil, Nat.reduceAdd, Nat.zero_add, Nat.reduceLeDiff, decide_true, decide_false, if_false, if_true, reduceCtorEq, N20, ↓U20, ↓eq_MOV]
          refine iteB_of (fun g => ?_) (fun g1 => ?_)
          · have g' := of_decide_eq_true g
            have hc := hcr (by rw [g']; decide) (by rw [g']; decide) (by rw [g']; decide) (by rw [g']; decide)
            simp (maxSteps := 1000000) (dsimp := false) only [↓qaG, ↓qaH, ↓qcp, ↓qco, ↓qcn, ↓qcq, ↓qa4, ↓qbG, ↓qbF, ↓qaa, ↓qac, ↓qab, ↓qba, ↓qbe, ↓qa6, ↓qbi, ↓qa5, ↓qbf, ↓qbb, ↓qa9, ↓qbh, ↓qbd, ↓qbg, ↓qcL, ↓qcK, ↓qcM, ↓qb4, ↓qbk, ↓qbj, ↓qaF, ↓qaE, ↓qcN, ↓qcO, ↓qa8, ↓qa7, ↓qbc, ↓qcT, ↓qcP, ↓qcR, ↓qcS, ↓qcQ, ↓qbl, ↓qbt, ↓qbs, ↓qbm, ↓qbo, ↓qbq, ↓qbu, ↓qbp, ↓qbr, ↓qbn, ↓qbW, ↓qbX, ↓qaf, ↓qae, ↓qag, ↓qaP, ↓qaO, ↓qaK, ↓qaJ, ↓qaL, ↓qaM, ↓qaN, ↓qaZ, ↓qbU, ↓qbH, ↓qbI, ↓qbJ, ↓qbK, ↓qcf, ↓qcg, ↓qch, ↓qci, ↓qa1, ↓qa3, ↓qa0, ↓qa2, ↓qar, ↓qaA, ↓qaw, ↓qav, ↓qau, ↓qay, ↓qaz, ↓qas, ↓qax, ↓qaB, ↓qat, ↓qcV, ↓qcU, ↓qaQ, ↓qaW, ↓qaV, ↓qaU, ↓qcF, ↓qcC, ↓qcz, ↓qcG, ↓qcA, ↓qcD, ↓qcE, ↓qcH, ↓qcB, ↓qb5, ↓qb3, ↓qb2, ↓qb1, ↓qbZ, ↓qbY, ↓qb0, ↓qcx, ↓qcv, ↓qcw, ↓qcu, ↓qcy, ↓qb9, ↓qcb, ↓qb6, ↓qce, ↓qcc, ↓qb8, ↓qca, ↓qcd, ↓qb7, ↓qaY, ↓qan, ↓qai, ↓qaj, ↓qam, ↓qak, ↓qal, ↓qct, ↓qcs, ↓qcr, ↓qaq, ↓qao, ↓qap, ↓qbv, ↓qah, ↓qbS, ↓qbC, ↓qaD, ↓qaC, ↓qbx, ↓qbw, ↓qcW, ↓qbT, ↓qbM, ↓qbN, ↓qbL, ↓qbD, ↓qbE, ↓qbO, qad, qbB, qbA, qbz, ↓qck, ↓qcj, ↓qcm, ↓qcl, qbV, ↓qbQ, ↓qbP, ↓qbR, qby, qcI, qcJ, qaI, behindInMarks, lastMarks, Option.map_some, List.contains_cons, List.map_cons, List.map_nil, String.reduceBEq, String.reduceEq, Bool.and_true, Bool.true_and, Bool.and_false, Bool.false_and, Bool.or_true, Bool.true_or, Bool.or_false, Bool.false_or, Bool.not_true, Bool.not_false, and_true, true_and, exists_eq_left', exists_eq_left, beq_self_eq_true, List.length_cons, List.length_nil, Nat.reduceAdd, Nat.zero_add, Nat.reduceLeDiff, decide_true, decide_false, if_false, if_true, reduceCtorEq, N20, ↓U20, ↓held_at hl vr.c0 hc, ↓hsa]
            refine ⟨vr.a0, la, lb, fin _ _ _ (by unfold res; rw [g']) (hnm (by rw [g']; decide)) ?_⟩
            rw [← set_int]
            (repeat (first | exact subV_n | refine subV_e ?_ | refine subV_d ?_))
          · simp (maxSteps := 1000000) (dsimp := false) only [↓qaG, ↓qaH, ↓qcp, ↓qco, ↓qcn, ↓qcq, ↓qa4, ↓qbG, ↓qbF, ↓qaa, ↓qac, ↓qab, ↓qba, ↓qbe, ↓qa6, ↓qbi, ↓qa5, ↓qbf, ↓qbb, ↓qa9, ↓qbh, ↓qbd, ↓qbg, ↓qcL, ↓qcK, ↓qcM, ↓qb4, ↓qbk, ↓qbj, ↓qaF, ↓qaE, ↓qcN, ↓qcO, ↓qa8, ↓qa7, ↓qbc, ↓qcT, ↓qcP, ↓qcR, ↓qcS, ↓qcQ, ↓qbl, ↓qbt, ↓qbs, ↓qbm, ↓qbo, ↓qbq, ↓qbu, ↓qbp, ↓qbr, ↓qbn, ↓qbW, ↓qbX, ↓qaf, ↓qae, ↓qag, ↓qaP, ↓qaO, ↓qaK, ↓qaJ, ↓qaL, ↓qaM, ↓qaN, ↓qaZ, ↓qbU, ↓qbH, ↓qbI, ↓qbJ, ↓qbK, ↓qcf, ↓qcg, ↓qch, ↓qci, ↓qa1, ↓qa3, ↓qa0, ↓qa2, ↓qar, ↓qaA, ↓qaw, ↓qav, ↓qau, ↓qay, ↓qaz, ↓qas, ↓qax, ↓qaB, ↓qat, ↓qcV, ↓qcU, ↓qaQ, ↓qaW, ↓qaV, ↓qaU, ↓qcF, ↓qcC, ↓qcz, ↓qcG, ↓qcA, ↓qcD, ↓qcE, ↓qcH, ↓qcB, ↓qb5, ↓qb3, ↓qb2, ↓qb1, ↓qbZ, ↓qbY, ↓qb0, ↓qcx, ↓qcv, ↓qcw, ↓qcu, ↓qcy, ↓qb9, ↓qcb, ↓qb6, ↓qce, ↓qcc, ↓qb8, ↓qca, ↓qcd, ↓qb7, ↓qaY, ↓qan, ↓qai, ↓qaj, ↓qam, ↓qak, ↓qal, ↓qct, ↓qcs, ↓qcr, ↓qaq, ↓qao, ↓qap, ↓qbv, ↓qah, ↓qbS, ↓qbC, ↓qaD, ↓qaC, ↓qbx, ↓qbw, ↓qcW, ↓qbT, ↓qbM, ↓qbN, ↓qbL, ↓qbD, ↓qbE, ↓qbO, qad, qbB, qbA, qbz, ↓qck, ↓qcj, ↓qcm, ↓qcl, qbV, ↓qbQ, ↓qbP, ↓qbR, qby, qcI, qcJ, qaI, behindInMarks, lastMarks, Option.map_some, List.contains_cons, List.map_cons, List.map_nil, String.reduceBEq, String.reduceEq, Bool.and_true, Bool.true_and, Bool.and_false, Bool.false_and, Bool.or_true, Bool.true_or, Bool.or_false, Bool.false_or, Bool.not_true, Bool.not_false, and_true, true_and, exists_eq_left', exists_eq_left, beq_self_eq_true, List.length_cons, List.length_nil, Nat.reduceAdd, Nat.zero_add, Nat.reduceLeDiff, decide_true, decide_false, if_false, if_true, reduceCtorEq, N20, ↓U20, ↓eq_MOVI]
            refine iteB_of (fun g => ?_) (fun g2 => ?_)
            · have g' := of_decide_eq_true g
              simp (maxSteps := 1000000) (dsimp := false) only [↓qaG, ↓qaH, ↓qcp, ↓qco, ↓qcn, ↓qcq, ↓qa4, ↓qbG, ↓qbF, ↓qaa, ↓qac, ↓qab, ↓qba, ↓qbe, ↓qa6, ↓qbi, ↓qa5, ↓qbf, ↓qbb, ↓qa9, ↓qbh, ↓qbd, ↓qbg, ↓qcL, ↓qcK, ↓qcM, ↓qb4, ↓qbk, ↓qbj, ↓qaF, ↓qaE, ↓qcN, ↓qcO, ↓qa8, ↓qa7, ↓qbc, ↓qcT, ↓qcP, ↓qcR, ↓qcS, ↓qcQ, ↓qbl, ↓qbt, ↓qbs, ↓qbm, ↓qbo, ↓qbq, ↓qbu, ↓qbp, ↓qbr, ↓qbn, ↓qbW, ↓qbX, ↓qaf, ↓qae, ↓qag, ↓qaP, ↓qaO, ↓qaK, ↓qaJ, ↓qaL, ↓qaM, ↓qaN, ↓qaZ, ↓qbU, ↓qbH, ↓qbI, ↓qbJ, ↓qbK, ↓qcf, ↓qcg, ↓qch, ↓qci, ↓qa1, ↓qa3, ↓qa0, ↓qa2, ↓qar, ↓qaA, ↓qaw, ↓qav, ↓qau, ↓qay, ↓qaz, ↓qas, ↓qax, ↓qaB, ↓qat, ↓qcV, ↓qcU, ↓qaQ, ↓qaW, ↓qaV, ↓qaU, ↓qcF, ↓qcC, ↓qcz, ↓qcG, ↓qcA, ↓qcD, ↓qcE, ↓qcH, ↓qcB, ↓qb5, ↓qb3, ↓qb2, ↓qb1, ↓qbZ, ↓qbY, ↓qb0, ↓qcx, ↓qcv, ↓qcw, ↓qcu, ↓qcy, ↓qb9, ↓qcb, ↓qb6, ↓qce, ↓qcc, ↓qb8, ↓qca, ↓qcd, ↓qb7, ↓qaY, ↓qan, ↓qai, ↓qaj, ↓qam, ↓qak, ↓qal, ↓qct, ↓qcs, ↓qcr, ↓qaq, ↓qao, ↓qap, ↓qbv, ↓qah, ↓qbS, ↓qbC, ↓qaD, ↓qaC, ↓qbx, ↓qbw, ↓qcW, ↓qbT, ↓qbM, ↓qbN, ↓qbL, ↓qbD, ↓qbE, ↓qbO, qad, qbB, qbA, qbz, ↓qck, ↓qcj, ↓qcm, ↓qcl, qbV, ↓qbQ, ↓qbP, ↓qbR, qby, qcI, qcJ, qaI, behindInMarks, lastMarks, Option.map_some, List.contains_cons, List.map_cons, List.map_nil, String.reduceBEq, String.reduceEq, Bool.and_true, Bool.true_and, Bool.and_false, Bool.false_and, Bool.or_true, Bool.true_or, Bool.or_false, Bool.false_or, Bool.not_true, Bool.not_false, and_true, true_and, exists_eq_left', exists_eq_left, beq_self_eq_true, List.length_cons, List.length_nil, Nat.reduceAdd, Nat.zero_add, Nat.reduceLeDiff, decide_true, decide_false, if_false, if_true, reduceCtorEq, N20, ↓U20, ↓hsa]
              refine ⟨vr.a0, la, lb, fin _ _ _ (by unfold res; rw [g']) (hnm (by rw [g']; decide)) ?_⟩
              rw [← set_int]
              (repeat (first | exact subV_n | refine subV_e ?_ | refine subV_d ?_))
            · simp (maxSteps := 1000000) (dsimp := false) only [↓qaG, ↓qaH, ↓qcp, ↓qco, ↓qcn, ↓qcq, ↓qa4, ↓qbG, ↓qbF, ↓qaa, ↓qac, ↓qab, ↓qba, ↓qbe, ↓qa6, ↓qbi, ↓qa5, ↓qbf, ↓qbb, ↓qa9, ↓qbh, ↓qbd, ↓qbg, ↓qcL, ↓qcK, ↓qcM, ↓qb4, ↓qbk, ↓qbj, ↓qaF, ↓qaE, ↓qcN, ↓qcO, ↓qa8, ↓qa7, ↓qbc, ↓qcT, ↓qcP, ↓qcR, ↓qcS, ↓qcQ, ↓qbl, ↓qbt, ↓qbs, ↓qbm, ↓qbo, ↓qbq, ↓qbu, ↓qbp, ↓qbr, ↓qbn, ↓qbW, ↓qbX, ↓qaf, ↓qae, ↓qag, ↓qaP, ↓qaO, ↓qaK, ↓qaJ, ↓qaL, ↓qaM, ↓qaN, ↓qaZ, ↓qbU, ↓qbH, ↓qbI, ↓qbJ, ↓qbK, ↓qcf, ↓qcg, ↓qch, ↓qci, ↓qa1, ↓qa3, ↓qa0, ↓qa2, ↓qar, ↓qaA, ↓qaw, ↓qav, ↓qau, ↓qay, ↓qaz, ↓qas, ↓qax, ↓qaB, ↓qat, ↓qcV, ↓qcU, ↓qaQ, ↓qaW, ↓qaV, ↓qaU, ↓qcF, ↓qcC, ↓qcz, ↓qcG, ↓qcA, ↓qcD, ↓qcE, ↓qcH, ↓qcB, ↓qb5, ↓qb3, ↓qb2, ↓qb1, ↓qbZ, ↓qbY, ↓qb0, ↓qcx, ↓qcv, ↓qcw, ↓qcu, ↓qcy, ↓qb9, ↓qcb, ↓qb6, ↓qce, ↓qcc, ↓qb8, ↓qca, ↓qcd, ↓qb7, ↓qaY, ↓qan, ↓qai, ↓qaj, ↓qam, ↓qak, ↓qal, ↓qct, ↓qcs, ↓qcr, ↓qaq, ↓qao, ↓qap, ↓qbv, ↓qah, ↓qbS, ↓qbC, ↓qaD, ↓qaC, ↓qbx, ↓qbw, ↓qcW, ↓qbT, ↓qbM, ↓qbN, ↓qbL, ↓qbD, ↓qbE, ↓qbO, qad, qbB, qbA, qbz, ↓qck, ↓qcj, ↓qcm, ↓qcl, qbV, ↓qbQ, ↓qbP, ↓qbR, qby, qcI, qcJ, qaI, behindInMarks, lastMarks, Option.map_some, List.contains_cons, List.map_cons, List.map_nil, String.reduceBEq, String.reduceEq, Bool.and_true, Bool.true_and, Bool.and_false, Bool.false_and, Bool.or_true, Bool.true_or, Bool.or_false, Bool.false_or, Bool.not_true, Bool.not_false, and_true, true_and, exists_eq_left', exists_eq_left, beq_self_eq_true, List.length_cons, List.length_nil, Nat.reduceAdd, Nat.zero_add, Nat.reduceLeDiff, decide_true, decide_false, if_false, if_true, reduceCtorEq, N20, ↓U20, ↓eq_GETH]
              refine iteB_of (fun g => ?_) (fun g3 => ?_)
              · have g' := of_decide_eq_true g
                simp (maxSteps := 1000000) (dsimp := false) only [↓qaG, ↓qaH, ↓qcp, ↓qco, ↓qcn, ↓qcq, ↓qa4, ↓qbG, ↓qbF, ↓qaa, ↓qac, ↓qab, ↓qba, ↓qbe, ↓qa6, ↓qbi, ↓qa5, ↓qbf, ↓qbb, ↓qa9, ↓qbh, ↓qbd, ↓qbg, ↓qcL, ↓qcK, ↓qcM, ↓qb4, ↓qbk, ↓qbj, ↓qaF, ↓qaE, ↓qcN, ↓qcO, ↓qa8, ↓qa7, ↓qbc, ↓qcT, ↓qcP, ↓qcR, ↓qcS, ↓qcQ, ↓qbl, ↓qbt, ↓qbs, ↓qbm, ↓qbo, ↓qbq, ↓qbu, ↓qbp, ↓qbr, ↓qbn, ↓qbW, ↓qbX, ↓qaf, ↓qae, ↓qag, ↓qaP, ↓qaO, ↓qaK, ↓qaJ, ↓qaL, ↓qaM, ↓qaN, ↓qaZ, ↓qbU, ↓qbH, ↓qbI, ↓qbJ, ↓qbK, ↓qcf, ↓qcg, ↓qch, ↓qci, ↓qa1, ↓qa3, ↓qa0, ↓qa2, ↓qar, ↓qaA, ↓qaw, ↓qav, ↓qau, ↓qay, ↓qaz, ↓qas, ↓qax, ↓qaB, ↓qat, ↓qcV, ↓qcU, ↓qaQ, ↓qaW, ↓qaV, ↓qaU, ↓qcF, ↓qcC, ↓qcz, ↓qcG, ↓qcA, ↓qcD, ↓qcE, ↓qcH, ↓qcB, ↓qb5, ↓qb3, ↓qb2, ↓qb1, ↓qbZ, ↓qbY, ↓qb0, ↓qcx, ↓qcv, ↓qcw, ↓qcu, ↓qcy, ↓qb9, ↓qcb, ↓qb6, ↓qce, ↓qcc, ↓qb8, ↓qca, ↓qcd, ↓qb7, ↓qaY, ↓qan, ↓qai, ↓qaj, ↓qam, ↓qak, ↓qal, ↓qct, ↓qcs, ↓qcr, ↓qaq, ↓qao, ↓qap, ↓qbv, ↓qah, ↓qbS, ↓qbC, ↓qaD, ↓qaC, ↓qbx, ↓qbw, ↓qcW, ↓qbT, ↓qbM, ↓qbN, ↓qbL, ↓qbD, ↓qbE, ↓qbO, qad, qbB, qbA, qbz, ↓qck, ↓qcj, ↓qcm, ↓qcl, qbV, ↓qbQ, ↓qbP, ↓qbR, qby, qcI, qcJ, qaI, behindInMarks, lastMarks, Option.map_some, List.contains_cons, List.map_cons, List.map_nil, String.reduceBEq, String.reduceEq, Bool.and_true, Bool.true_and, Bool.and_false, Bool.false_and, Bool.or_true, Bool.true_or, Bool.or_false, Bool.false_or, Bool.not_true, Bool.not_false, and_true, true_and, exists_eq_left', exists_eq_left, beq_self_eq_true, List.length_cons, List.length_nil, Nat.reduceAdd, Nat.zero_add, Nat.reduceLeDiff, decide_true, decide_false, if_false, if_true, reduceCtorEq, N20, ↓U20, ↓hsa]
                refine ⟨vr.a0, la, lb, fin _ _ _ (by unfold res; rw [g']) (hnm (by rw [g']; decide)) ?_⟩
                rw [← set_int]
                (repeat (first | exact subV_n | refine subV_e ?_ | refine subV_d ?_))
              · have ops : (r.op.lastI = true ∧ (r.op = .addi ∨ r.op = .lsli ∨ r.op = .andi)) ∨ (r.op.lastI = false ∧ (r.op = .add ∨ r.op = .sub ∨ r.op = .mul ∨ r.op = .ior ∨ r.op = .xor)) := by
                  revert hmm g1 g2 g3
                  cases r.op <;> decide
                rcases ops with ⟨hI, ho⟩ | ⟨hI, ho⟩
                · simp (maxSteps := 1000000) (dsimp := false) only [↓qaG, ↓qaH, ↓qcp, ↓qco, ↓qcn, ↓qcq, ↓qa4, ↓qbG, ↓qbF, ↓qaa, ↓qac, ↓qab, ↓qba, ↓qbe, ↓qa6, ↓qbi, ↓qa5, ↓qbf, ↓qbb, ↓qa9, ↓qbh, ↓qbd, ↓qbg, ↓qcL, ↓qcK, ↓qcM, ↓qb4, ↓qbk, ↓qbj, ↓qaF, ↓qaE, ↓qcN, ↓qcO, ↓qa8, ↓qa7, ↓qbc, ↓qcT, ↓qcP, ↓qcR, ↓qcS, ↓qcQ, ↓qbl, ↓qbt, ↓qbs, ↓qbm, ↓qbo, ↓qbq, ↓qbu, ↓qbp, ↓qbr, ↓qbn, ↓qbW, ↓qbX, ↓qaf, ↓qae, ↓qag, ↓qaP, ↓qaO, ↓qaK, ↓qaJ, ↓qaL, ↓qaM, ↓qaN, ↓qaZ, ↓qbU, ↓qbH, ↓qbI, ↓qbJ, ↓qbK, ↓qcf, ↓qcg, ↓qch, ↓qci, ↓qa1, ↓qa3, ↓qa0, ↓qa2, ↓qar, ↓qaA, ↓qaw, ↓qav, ↓qau, ↓qay, ↓qaz, ↓qas, ↓qax, ↓qaB, ↓qat, ↓qcV, ↓qcU, ↓qaQ, ↓qaW, ↓qaV, ↓qaU, ↓qcF, ↓qcC, ↓qcz, ↓qcG, ↓qcA, ↓qcD, ↓qcE, ↓qcH, ↓qcB, ↓qb5, ↓qb3, ↓qb2, ↓qb1, ↓qbZ, ↓qbY, ↓qb0, ↓qcx, ↓qcv, ↓qcw, ↓qcu, ↓qcy, ↓qb9, ↓qcb, ↓qb6, ↓qce, ↓qcc, ↓qb8, ↓qca, ↓qcd, ↓qb7, ↓qaY, ↓qan, ↓qai, ↓qaj, ↓qam, ↓qak, ↓qal, ↓qct, ↓qcs, ↓qcr, ↓qaq, ↓qao, ↓qap, ↓qbv, ↓qah, ↓qbS, ↓qbC, ↓qaD, ↓qaC, ↓qbx, ↓qbw, ↓qcW, ↓qbT, ↓qbM, ↓qbN, ↓qbL, ↓qbD, ↓qbE, ↓qbO, qad, qbB, qbA, qbz, ↓qck, ↓qcj, ↓qcm, ↓qcl, qbV, ↓qbQ, ↓qbP, ↓qbR, qby, qcI, qcJ, qaI, behindInMarks, lastMarks, Option.map_some, List.contains_cons, List.map_cons, List.map_nil, String.reduceBEq, String.reduceEq, Bool.and_true, Bool.true_and, Bool.and_false, Bool.false_and, Bool.or_true, Bool.true_or, Bool.or_false, Bool.false_or, Bool.not_true, Bool.not_false, and_true, true_and, exists_eq_left', exists_eq_left, beq_self_eq_true, List.length_cons, List.length_nil, Nat.reduceAdd, Nat.zero_add, Nat.reduceLeDiff, decide_true, decide_false, if_false, if_true, reduceCtorEq, N20, ↓U20, ↓it_last, ↓eq_lastI, hI, ↓sl_init, ↓held_at hl vr.b0 vr.b1]
                  rcases ho with ho | ho | ho
                  · have fADD : (r.op.init == "ADD") = true := by rw [ho]; decide
                    simp (maxSteps := 1000000) (dsimp := false) only [↓qaG, ↓qaH, ↓qcp, ↓qco, ↓qcn, ↓qcq, ↓qa4, ↓qbG, ↓qbF, ↓qaa, ↓qac, ↓qab, ↓qba, ↓qbe, ↓qa6, ↓qbi, ↓qa5, ↓qbf, ↓qbb, ↓qa9, ↓qbh, ↓qbd, ↓qbg, ↓qcL, ↓qcK, ↓qcM, ↓qb4, ↓qbk, ↓qbj, ↓qaF, ↓qaE, ↓qcN, ↓qcO, ↓qa8, ↓qa7, ↓qbc, ↓qcT, ↓qcP, ↓qcR, ↓qcS, ↓qcQ, ↓qbl, ↓qbt, ↓qbs, ↓qbm, ↓qbo, ↓qbq, ↓qbu, ↓qbp, ↓qbr, ↓qbn, ↓qbW, ↓qbX, ↓qaf, ↓qae, ↓qag, ↓qaP, ↓qaO, ↓qaK, ↓qaJ, ↓qaL, ↓qaM, ↓qaN, ↓qaZ, ↓qbU, ↓qbH, ↓qbI, ↓qbJ, ↓qbK, ↓qcf, ↓qcg, ↓qch, ↓qci, ↓qa1, ↓qa3, ↓qa0, ↓qa2, ↓qar, ↓qaA, ↓qaw, ↓qav, ↓qau, ↓qay, ↓qaz, ↓qas, ↓qax, ↓qaB, ↓qat, ↓qcV, ↓qcU, ↓qaQ, ↓qaW, ↓qaV, ↓qaU, ↓qcF, ↓qcC, ↓qcz, ↓qcG, ↓qcA, ↓qcD, ↓qcE, ↓qcH, ↓qcB, ↓qb5, ↓qb3, ↓qb2, ↓qb1, ↓qbZ, ↓qbY, ↓qb0, ↓qcx, ↓qcv, ↓qcw, ↓qcu, ↓qcy, ↓qb9, ↓qcb, ↓qb6, ↓qce, ↓qcc, ↓qb8, ↓qca, ↓qcd, ↓qb7, ↓qaY, ↓qan, ↓qai, ↓qaj, ↓qam, ↓qak, ↓qal, ↓qct, ↓qcs, ↓qcr, ↓qaq, ↓qao, ↓qap, ↓qbv, ↓qah, ↓qbS, ↓qbC, ↓qaD, ↓qaC, ↓qbx, ↓qbw, ↓qcW, ↓qbT, ↓qbM, ↓qbN, ↓qbL, ↓qbD, ↓qbE, ↓qbO, qad, qbB, qbA, qbz, ↓qck, ↓qcj, ↓qcm, ↓qcl, qbV, ↓qbQ, ↓qbP, ↓qbR, qby, qcI, qcJ, qaI, behindInMarks, lastMarks, Option.map_some, List.contains_cons, List.map_cons, List.map_nil, String.reduceBEq, String.reduceEq, Bool.and_true, Bool.true_and, Bool.and_false, Bool.false_and, Bool.or_true, Bool.true_or, Bool.or_false, Bool.false_or, Bool.not_true, Bool.not_false, and_true, true_and, exists_eq_left', exists_eq_left, beq_self_eq_true, List.length_cons, List.length_nil, Nat.reduceAdd, Nat.zero_add, Nat.reduceLeDiff, decide_true, decide_false, if_false, if_true, reduceCtorEq, ↓qaR, ↓qaX, ↓qaS, ↓qaT, N20, ↓U20, fADD, ↓hsa]
                    refine ⟨vr.a0, la, lb, fin _ _ _ (by unfold res; rw [ho]) (hnm (by rw [ho]; decide)) ?_⟩
                    rw [← set_int]
                    (repeat (first | exact subV_n | refine subV_e ?_ | refine subV_d ?_))
                  · have fADD : (r.op.init == "ADD") = false := by rw [ho]; decide
                    have fSUB : (r.op.init == "SUB") = false := by rw [ho]; decide
                    have fMUL : (r.op.init == "MUL") = false := by rw [ho]; decide
                    have fIOR : (r.op.init == "IOR") = false := by rw [ho]; decide
                    have fXOR : (r.op.init == "XOR") = false := by rw [ho]; decide
                    have fAND : (r.op.init == "AND") = false := by rw [ho]; decide
                    simp (maxSteps := 1000000) (dsimp := false) only [↓qaG, ↓qaH, ↓qcp, ↓qco, ↓qcn, ↓qcq, ↓qa4, ↓qbG, ↓qbF, ↓qaa, ↓qac, ↓qab, ↓qba, ↓qbe, ↓qa6, ↓qbi, ↓qa5, ↓qbf, ↓qbb, ↓qa9, ↓qbh, ↓qbd, ↓qbg, ↓qcL, ↓qcK, ↓qcM, ↓qb4, ↓qbk, ↓qbj, ↓qaF, ↓qaE, ↓qcN, ↓qcO, ↓qa8, ↓qa7, ↓qbc, ↓qcT, ↓qcP, ↓qcR, ↓qcS, ↓qcQ, ↓qbl, ↓qbt, ↓qbs, ↓qbm, ↓qbo, ↓qbq, ↓qbu, ↓qbp, ↓qbr, ↓qbn, ↓qbW, ↓qbX, ↓qaf, ↓qae, ↓qag, ↓qaP, ↓qaO, ↓qaK, ↓qaJ, ↓qaL, ↓qaM, ↓qaN, ↓qaZ, ↓qbU, ↓qbH, ↓qbI, ↓qbJ, ↓qbK, ↓qcf, ↓qcg, ↓qch, ↓qci, ↓qa1, ↓qa3, ↓qa0, ↓qa2, ↓qar, ↓qaA, ↓qaw, ↓qav, ↓qau, ↓qay, ↓qaz, ↓qas, ↓qax, ↓qaB, ↓qat, ↓qcV, ↓qcU, ↓qaQ, ↓qaW, ↓qaV, ↓qaU, ↓qcF, ↓qcC, ↓qcz, ↓qcG, ↓qcA, ↓qcD, ↓qcE, ↓qcH, ↓qcB, ↓qb5, ↓qb3, ↓qb2, ↓qb1, ↓qbZ, ↓qbY, ↓qb0, ↓qcx, ↓qcv, ↓qcw, ↓qcu, ↓qcy, ↓qb9, ↓qcb, ↓qb6, ↓qce, ↓qcc, ↓qb8, ↓qca, ↓qcd, ↓qb7, ↓qaY, ↓qan, ↓qai, ↓qaj, ↓qam, ↓qak, ↓qal, ↓qct, ↓qcs, ↓qcr, ↓qaq, ↓qao, ↓qap, ↓qbv, ↓qah, ↓qbS, ↓qbC, ↓qaD, ↓qaC, ↓qbx, ↓qbw, ↓qcW, ↓qbT, ↓qbM, ↓qbN, ↓qbL, ↓qbD, ↓qbE, ↓qbO, qad, qbB, qbA, qbz, ↓qck, ↓qcj, ↓qcm, ↓qcl, qbV, ↓qbQ, ↓qbP, ↓qbR, qby, qcI, qcJ, qaI, behindInMarks, lastMarks, Option.map_some, List.contains_cons, List.map_cons, List.map_nil, String.reduceBEq, String.reduceEq, Bool.and_true, Bool.true_and, Bool.and_false, Bool.false_and, Bool.or_true, Bool.true_or, Bool.or_false, Bool.false_or, Bool.not_true, Bool.not_false, and_true, true_and, exists_eq_left', exists_eq_left, beq_self_eq_true, List.length_cons, List.length_nil, Nat.reduceAdd, Nat.zero_add, Nat.reduceLeDiff, decide_true, decide_false, if_false, if_true, reduceCtorEq, ↓qaR, ↓qaX, ↓qaS, ↓qaT, N20, ↓U20, fADD, fSUB, fMUL, fIOR, fXOR, fAND, ↓hsa]
                    refine ⟨vr.c0, vr.cU, by omega, vr.a0, la, lb, fin _ _ _ (by unfold res; rw [ho]) (hnm (by rw [ho]; decide)) ?_⟩
                    rw [← set_int]
                    (repeat (first | exact subV_n | refine subV_e ?_ | refine subV_d ?_))
                  · have fADD : (r.op.init == "ADD") = false := by rw [ho]; decide
                    have fSUB : (r.op.init == "SUB") = false := by rw [ho]; decide
                    have fMUL : (r.op.init == "MUL") = false := by rw [ho]; decide
                    have fIOR : (r.op.init == "IOR") = false := by rw [ho]; decide
                    have fXOR : (r.op.init == "XOR") = false := by rw [ho]; decide
                    have fAND : (r.op.init == "AND") = true := by rw [ho]; decide
                    simp (maxSteps := 1000000) (dsimp := false) only [↓qaG, ↓qaH, ↓qcp, ↓qco, ↓qcn, ↓qcq, ↓qa4, ↓qbG, ↓qbF, ↓qaa, ↓qac, ↓qab, ↓qba, ↓qbe, ↓qa6, ↓qbi, ↓qa5, ↓qbf, ↓qbb, ↓qa9, ↓qbh, ↓qbd, ↓qbg, ↓qcL, ↓qcK, ↓qcM, ↓qb4, ↓qbk, ↓qbj, ↓qaF, ↓qaE, ↓qcN, ↓qcO, ↓qa8, ↓qa7, ↓qbc, ↓qcT, ↓qcP, ↓qcR, ↓qcS, ↓qcQ, ↓qbl, ↓qbt, ↓qbs, ↓qbm, ↓qbo, ↓qbq, ↓qbu, ↓qbp, ↓qbr, ↓qbn, ↓qbW, ↓qbX, ↓qaf, ↓qae, ↓qag, ↓qaP, ↓qaO, ↓qaK, ↓qaJ, ↓qaL, ↓qaM, ↓qaN, ↓qaZ, ↓qbU, ↓qbH, ↓qbI, ↓qbJ, ↓qbK, ↓qcf, ↓qcg, ↓qch, ↓qci, ↓qa1, ↓qa3, ↓qa0, ↓qa2, ↓qar, ↓qaA, ↓qaw, ↓qav, ↓qau, ↓qay, ↓qaz, ↓qas, ↓qax, ↓qaB, ↓qat, ↓qcV, ↓qcU, ↓qaQ, ↓qaW, ↓qaV, ↓qaU, ↓qcF, ↓qcC, ↓qcz, ↓qcG, ↓qcA, ↓qcD, ↓qcE, ↓qcH, ↓qcB, ↓qb5, ↓qb3, ↓qb2, ↓qb1, ↓qbZ, ↓qbY, ↓qb0, ↓qcx, ↓qcv, ↓qcw, ↓qcu, ↓qcy, ↓qb9, ↓qcb, ↓qb6, ↓qce, ↓qcc, ↓qb8, ↓qca, ↓qcd, ↓qb7, ↓qaY, ↓qan, ↓qai, ↓qaj, ↓qam, ↓qak, ↓qal, ↓qct, ↓qcs, ↓qcr, ↓qaq, ↓qao, ↓qap, ↓qbv, ↓qah, ↓qbS, ↓qbC, ↓qaD, ↓qaC, ↓qbx, ↓qbw, ↓qcW, ↓qbT, ↓qbM, ↓qbN, ↓qbL, ↓qbD, ↓qbE, ↓qbO, qad, qbB, qbA, qbz, ↓qck, ↓qcj, ↓qcm, ↓qcl, qbV, ↓qbQ, ↓qbP, ↓qbR, qby, qcI, qcJ, qaI, behindInMarks, lastMarks, Option.map_some, List.contains_cons, List.map_cons, List.map_nil, String.reduceBEq, String.reduceEq, Bool.and_true, Bool.true_and, Bool.and_false, Bool.false_and, Bool.or_true, Bool.true_or, Bool.or_false, Bool.false_or, Bool.not_true, Bool.not_false, and_true, true_and, exists_eq_left', exists_eq_left, beq_self_eq_true, List.length_cons, List.length_nil, Nat.reduceAdd, Nat.zero_add, Nat.reduceLeDiff, decide_true, decide_false, if_false, if_true, reduceCtorEq, ↓qaR, ↓qaX, ↓qaS, ↓qaT, N20, ↓U20, fADD, fSUB, fMUL, fIOR, fXOR, fAND, ↓hsa]
                    refine ⟨vr.a0, la, lb, fin _ _ _ (by unfold res; rw [ho]) (hnm (by rw [ho]; decide)) ?_⟩
                    rw [← set_int]
                    (repeat (first | exact subV_n | refine subV_e ?_ | refine subV_d ?_))
                · have hc := hcr (by rintro e; rw [e] at ho; revert ho; decide) (by rintro e; rw [e] at ho; revert ho; decide) (by rintro e; rw [e] at ho; revert ho; decide) (by rintro e; rw [e] at ho; revert ho; decide)
                  have rc := hmok.rng _ (hdA_mem hl vr.c0 hc)
                  simp (maxSteps := 1000000) (dsimp := false) only [↓qaG, ↓qaH, ↓qcp, ↓qco, ↓qcn, ↓qcq, ↓qa4, ↓qbG, ↓qbF, ↓qaa, ↓qac, ↓qab, ↓qba, ↓qbe, ↓qa6, ↓qbi, ↓qa5, ↓qbf, ↓qbb, ↓qa9, ↓qbh, ↓qbd, ↓qbg, ↓qcL, ↓qcK, ↓qcM, ↓qb4, ↓qbk, ↓qbj, ↓qaF, ↓qaE, ↓qcN, ↓qcO, ↓qa8, ↓qa7, ↓qbc, ↓qcT, ↓qcP, ↓qcR, ↓qcS, ↓qcQ, ↓qbl, ↓qbt, ↓qbs, ↓qbm, ↓qbo, ↓qbq, ↓qbu, ↓qbp, ↓qbr, ↓qbn, ↓qbW, ↓qbX, ↓qaf, ↓qae, ↓qag, ↓qaP, ↓qaO, ↓qaK, ↓qaJ, ↓qaL, ↓qaM, ↓qaN, ↓qaZ, ↓qbU, ↓qbH, ↓qbI, ↓qbJ, ↓qbK, ↓qcf, ↓qcg, ↓qch, ↓qci, ↓qa1, ↓qa3, ↓qa0, ↓qa2, ↓qar, ↓qaA, ↓qaw, ↓qav, ↓qau, ↓qay, ↓qaz, ↓qas, ↓qax, ↓qaB, ↓qat, ↓qcV, ↓qcU, ↓qaQ, ↓qaW, ↓qaV, ↓qaU, ↓qcF, ↓qcC, ↓qcz, ↓qcG, ↓qcA, ↓qcD, ↓qcE, ↓qcH, ↓qcB, ↓qb5, ↓qb3, ↓qb2, ↓qb1, ↓qbZ, ↓qbY, ↓qb0, ↓qcx, ↓qcv, ↓qcw, ↓qcu, ↓qcy, ↓qb9, ↓qcb, ↓qb6, ↓qce, ↓qcc, ↓qb8, ↓qca, ↓qcd, ↓qb7, ↓qaY, ↓qan, ↓qai, ↓qaj, ↓qam, ↓qak, ↓qal, ↓qct, ↓qcs, ↓qcr, ↓qaq, ↓qao, ↓qap, ↓qbv, ↓qah, ↓qbS, ↓qbC, ↓qaD, ↓qaC, ↓qbx, ↓qbw, ↓qcW, ↓qbT, ↓qbM, ↓qbN, ↓qbL, ↓qbD, ↓qbE, ↓qbO, qad, qbB, qbA, qbz, ↓qck, ↓qcj, ↓qcm, ↓qcl, qbV, ↓qbQ, ↓qbP, ↓qbR, qby, qcI, qcJ, qaI, behindInMarks, lastMarks, Option.map_some, List.contains_cons, List.map_cons, List.map_nil, String.reduceBEq, String.reduceEq, Bool.and_true, Bool.true_and, Bool.and_false, Bool.false_and, Bool.or_true, Bool.true_or, Bool.or_false, Bool.false_or, Bool.not_true, Bool.not_false, and_true, true_and, exists_eq_left', exists_eq_left, beq_self_eq_true, List.length_cons, List.length_nil, Nat.reduceAdd, Nat.zero_add, Nat.reduceLeDiff, decide_true, decide_false, if_false, if_true, reduceCtorEq, N20, ↓U20, ↓it_last, ↓eq_lastI, hI, ↓held_at hl vr.b0 vr.b1, ↓held_at hl vr.c0 hc]
                  rcases ho with ho | ho | ho | ho | ho
                  · have fADD : (r.op.nm == "ADD") = true := by rw [ho]; decide
                    simp (maxSteps := 1000000) (dsimp := false) only [↓qaG, ↓qaH, ↓qcp, ↓qco, ↓qcn, ↓qcq, ↓qa4, ↓qbG, ↓qbF, ↓qaa, ↓qac, ↓qab, ↓qba, ↓qbe, ↓qa6, ↓qbi, ↓qa5, ↓qbf, ↓qbb, ↓qa9, ↓qbh, ↓qbd, ↓qbg, ↓qcL, ↓qcK, ↓qcM, ↓qb4, ↓qbk, ↓qbj, ↓qaF, ↓qaE, ↓qcN, ↓qcO, ↓qa8, ↓qa7, ↓qbc, ↓qcT, ↓qcP, ↓qcR, ↓qcS, ↓qcQ, ↓qbl, ↓qbt, ↓qbs, ↓qbm, ↓qbo, ↓qbq, ↓qbu, ↓qbp, ↓qbr, ↓qbn, ↓qbW, ↓qbX, ↓qaf, ↓qae, ↓qag, ↓qaP, ↓qaO, ↓qaK, ↓qaJ, ↓qaL, ↓qaM, ↓qaN, ↓qaZ, ↓qbU, ↓qbH, ↓qbI, ↓qbJ, ↓qbK, ↓qcf, ↓qcg, ↓qch, ↓qci, ↓qa1, ↓qa3, ↓qa0, ↓qa2, ↓qar, ↓qaA, ↓qaw, ↓qav, ↓qau, ↓qay, ↓qaz, ↓qas, ↓qax, ↓qaB, ↓qat, ↓qcV, ↓qcU, ↓qaQ, ↓qaW, ↓qaV, ↓qaU, ↓qcF, ↓qcC, ↓qcz, ↓qcG, ↓qcA, ↓qcD, ↓qcE, ↓qcH, ↓qcB, ↓qb5, ↓qb3, ↓qb2, ↓qb1, ↓qbZ, ↓qbY, ↓qb0, ↓qcx, ↓qcv, ↓qcw, ↓qcu, ↓qcy, ↓qb9, ↓qcb, ↓qb6, ↓qce, ↓qcc, ↓qb8, ↓qca, ↓qcd, ↓qb7, ↓qaY, ↓qan, ↓qai, ↓qaj, ↓qam, ↓qak, ↓qal, ↓qct, ↓qcs, ↓qcr, ↓qaq, ↓qao, ↓qap, ↓qbv, ↓qah, ↓qbS, ↓qbC, ↓qaD, ↓qaC, ↓qbx, ↓qbw, ↓qcW, ↓qbT, ↓qbM, ↓qbN, ↓qbL, ↓qbD, ↓qbE, ↓qbO, qad, qbB, qbA, qbz, ↓qck, ↓qcj, ↓qcm, ↓qcl, qbV, ↓qbQ, ↓qbP, ↓qbR, qby, qcI, qcJ, qaI, behindInMarks, lastMarks, Option.map_some, List.contains_cons, List.map_cons, List.map_nil, String.reduceBEq, String.reduceEq, Bool.and_true, Bool.true_and, Bool.and_false, Bool.false_and, Bool.or_true, Bool.true_or, Bool.or_false, Bool.false_or, Bool.not_true, Bool.not_false, and_true, true_and, exists_eq_left', exists_eq_left, beq_self_eq_true, List.length_cons, List.length_nil, Nat.reduceAdd, Nat.zero_add, Nat.reduceLeDiff, decide_true, decide_false, if_false, if_true, reduceCtorEq, ↓qaR, ↓qaX, ↓qaS, ↓qaT, N20, ↓U20, fADD, ↓hsa]
                    refine ⟨vr.a0, la, lb, fin _ _ _ (by unfold res; rw [ho]) (hnm (by rw [ho]; decide)) ?_⟩
                    rw [← set_int]
                    (repeat (first | exact subV_n | refine subV_e ?_ | refine subV_d ?_))
                  · have fADD : (r.op.nm == "ADD") = false := by rw [ho]; decide
                    have fSUB : (r.op.nm == "SUB") = true := by rw [ho]; decide
                    simp (maxSteps := 1000000) (dsimp := false) only [↓qaG, ↓qaH, ↓qcp, ↓qco, ↓qcn, ↓qcq, ↓qa4, ↓qbG, ↓qbF, ↓qaa, ↓qac, ↓qab, ↓qba, ↓qbe, ↓qa6, ↓qbi, ↓qa5, ↓qbf, ↓qbb, ↓qa9, ↓qbh, ↓qbd, ↓qbg, ↓qcL, ↓qcK, ↓qcM, ↓qb4, ↓qbk, ↓qbj, ↓qaF, ↓qaE, ↓qcN, ↓qcO, ↓qa8, ↓qa7, ↓qbc, ↓qcT, ↓qcP, ↓qcR, ↓qcS, ↓qcQ, ↓qbl, ↓qbt, ↓qbs, ↓qbm, ↓qbo, ↓qbq, ↓qbu, ↓qbp, ↓qbr, ↓qbn, ↓qbW, ↓qbX, ↓qaf, ↓qae, ↓qag, ↓qaP, ↓qaO, ↓qaK, ↓qaJ, ↓qaL, ↓qaM, ↓qaN, ↓qaZ, ↓qbU, ↓qbH, ↓qbI, ↓qbJ, ↓qbK, ↓qcf, ↓qcg, ↓qch, ↓qci, ↓qa1, ↓qa3, ↓qa0, ↓qa2, ↓qar, ↓qaA, ↓qaw, ↓qav, ↓qau, ↓qay, ↓qaz, ↓qas, ↓qax, ↓qaB, ↓qat, ↓qcV, ↓qcU, ↓qaQ, ↓qaW, ↓qaV, ↓qaU, ↓qcF, ↓qcC, ↓qcz, ↓qcG, ↓qcA, ↓qcD, ↓qcE, ↓qcH, ↓qcB, ↓qb5, ↓qb3, ↓qb2, ↓qb1, ↓qbZ, ↓qbY, ↓qb0, ↓qcx, ↓qcv, ↓qcw, ↓qcu, ↓qcy, ↓qb9, ↓qcb, ↓qb6, ↓qce, ↓qcc, ↓qb8, ↓qca, ↓qcd, ↓qb7, ↓qaY, ↓qan, ↓qai, ↓qaj, ↓qam, ↓qak, ↓qal, ↓qct, ↓qcs, ↓qcr, ↓qaq, ↓qao, ↓qap, ↓qbv, ↓qah, ↓qbS, ↓qbC, ↓qaD, ↓qaC, ↓qbx, ↓qbw, ↓qcW, ↓qbT, ↓qbM, ↓qbN, ↓qbL, ↓qbD, ↓qbE, ↓qbO, qad, qbB, qbA, qbz, ↓qck, ↓qcj, ↓qcm, ↓qcl, qbV, ↓qbQ, ↓qbP, ↓qbR, qby, qcI, qcJ, qaI, behindInMarks, lastMarks, Option.map_some, List.contains_cons, List.map_cons, List.map_nil, String.reduceBEq, String.reduceEq, Bool.and_true, Bool.true_and, Bool.and_false, Bool.false_and, Bool.or_true, Bool.true_or, Bool.or_false, Bool.false_or, Bool.not_true, Bool.not_false, and_true, true_and, exists_eq_left', exists_eq_left, beq_self_eq_true, List.length_cons, List.length_nil, Nat.reduceAdd, Nat.zero_add, Nat.reduceLeDiff, decide_true, decide_false, if_false, if_true, reduceCtorEq, ↓qaR, ↓qaX, ↓qaS, ↓qaT, N20, ↓U20, fADD, fSUB, ↓hsa]
                    refine ⟨vr.a0, la, lb, fin _ _ _ (by unfold res; rw [ho]) (hnm (by rw [ho]; decide)) ?_⟩
                    rw [← set_int]
                    (repeat (first | exact subV_n | refine subV_e ?_ | refine subV_d ?_))
                  · have fADD : (r.op.nm == "ADD") = false := by rw [ho]; decide
                    have fSUB : (r.op.nm == "SUB") = false := by rw [ho]; decide
                    have fMUL : (r.op.nm == "MUL") = true := by rw [ho]; decide
                    simp (maxSteps := 1000000) (dsimp := false) only [↓qaG, ↓qaH, ↓qcp, ↓qco, ↓qcn, ↓qcq, ↓qa4, ↓qbG, ↓qbF, ↓qaa, ↓qac, ↓qab, ↓qba, ↓qbe, ↓qa6, ↓qbi, ↓qa5, ↓qbf, ↓qbb, ↓qa9, ↓qbh, ↓qbd, ↓qbg, ↓qcL, ↓qcK, ↓qcM, ↓qb4, ↓qbk, ↓qbj, ↓qaF, ↓qaE, ↓qcN, ↓qcO, ↓qa8, ↓qa7, ↓qbc, ↓qcT, ↓qcP, ↓qcR, ↓qcS, ↓qcQ, ↓qbl, ↓qbt, ↓qbs, ↓qbm, ↓qbo, ↓qbq, ↓qbu, ↓qbp, ↓qbr, ↓qbn, ↓qbW, ↓qbX, ↓qaf, ↓qae, ↓qag, ↓qaP, ↓qaO, ↓qaK, ↓qaJ, ↓qaL, ↓qaM, ↓qaN, ↓qaZ, ↓qbU, ↓qbH, ↓qbI, ↓qbJ, ↓qbK, ↓qcf, ↓qcg, ↓qch, ↓qci, ↓qa1, ↓qa3, ↓qa0, ↓qa2, ↓qar, ↓qaA, ↓qaw, ↓qav, ↓qau, ↓qay, ↓qaz, ↓qas, ↓qax, ↓qaB, ↓qat, ↓qcV, ↓qcU, ↓qaQ, ↓qaW, ↓qaV, ↓qaU, ↓qcF, ↓qcC, ↓qcz, ↓qcG, ↓qcA, ↓qcD, ↓qcE, ↓qcH, ↓qcB, ↓qb5, ↓qb3, ↓qb2, ↓qb1, ↓qbZ, ↓qbY, ↓qb0, ↓qcx, ↓qcv, ↓qcw, ↓qcu, ↓qcy, ↓qb9, ↓qcb, ↓qb6, ↓qce, ↓qcc, ↓qb8, ↓qca, ↓qcd, ↓qb7, ↓qaY, ↓qan, ↓qai, ↓qaj, ↓qam, ↓qak, ↓qal, ↓qct, ↓qcs, ↓qcr, ↓qaq, ↓qao, ↓qap, ↓qbv, ↓qah, ↓qbS, ↓qbC, ↓qaD, ↓qaC, ↓qbx, ↓qbw, ↓qcW, ↓qbT, ↓qbM, ↓qbN, ↓qbL, ↓qbD, ↓qbE, ↓qbO, qad, qbB, qbA, qbz, ↓qck, ↓qcj, ↓qcm, ↓qcl, qbV, ↓qbQ, ↓qbP, ↓qbR, qby, qcI, qcJ, qaI, behindInMarks, lastMarks, Option.map_some, List.contains_cons, List.map_cons, List.map_nil, String.reduceBEq, String.reduceEq, Bool.and_true, Bool.true_and, Bool.and_false, Bool.false_and, Bool.or_true, Bool.true_or, Bool.or_false, Bool.false_or, Bool.not_true, Bool.not_false, and_true, true_and, exists_eq_left', exists_eq_left, beq_self_eq_true, List.length_cons, List.length_nil, Nat.reduceAdd, Nat.zero_add, Nat.reduceLeDiff, decide_true, decide_false, if_false, if_true, reduceCtorEq, ↓qaR, ↓qaX, ↓qaS, ↓qaT, N20, ↓U20, fADD, fSUB, fMUL, ↓hsa]
                    have hres : res m r = hdA m.held r.b * hdA m.held r.c := by unfold res; rw [ho]
                    refine ⟨by omega, by omega, by decide, vr.a0, la, lb, fin _ _ _ hres (by rw [step_high, if_pos ho, hres]) ?_⟩
                    rw [← set_int]
                    (repeat (first | exact subV_n | refine subV_e ?_ | refine subV_d ?_))
                  · have fADD : (r.op.nm == "ADD") = false := by rw [ho]; decide
                    have fSUB : (r.op.nm == "SUB") = false := by rw [ho]; decide
                    have fMUL : (r.op.nm == "MUL") = false := by rw [ho]; decide
                    have fIOR : (r.op.nm == "IOR") = true := by rw [ho]; decide
                    simp (maxSteps := 1000000) (dsimp := false) only [↓qaG, ↓qaH, ↓qcp, ↓qco, ↓qcn, ↓qcq, ↓qa4, ↓qbG, ↓qbF, ↓qaa, ↓qac, ↓qab, ↓qba, ↓qbe, ↓qa6, ↓qbi, ↓qa5, ↓qbf, ↓qbb, ↓qa9, ↓qbh, ↓qbd, ↓qbg, ↓qcL, ↓qcK, ↓qcM, ↓qb4, ↓qbk, ↓qbj, ↓qaF, ↓qaE, ↓qcN, ↓qcO, ↓qa8, ↓qa7, ↓qbc, ↓qcT, ↓qcP, ↓qcR, ↓qcS, ↓qcQ, ↓qbl, ↓qbt, ↓qbs, ↓qbm, ↓qbo, ↓qbq, ↓qbu, ↓qbp, ↓qbr, ↓qbn, ↓qbW, ↓qbX, ↓qaf, ↓qae, ↓qag, ↓qaP, ↓qaO, ↓qaK, ↓qaJ, ↓qaL, ↓qaM, ↓qaN, ↓qaZ, ↓qbU, ↓qbH, ↓qbI, ↓qbJ, ↓qbK, ↓qcf, ↓qcg, ↓qch, ↓qci, ↓qa1, ↓qa3, ↓qa0, ↓qa2, ↓qar, ↓qaA, ↓qaw, ↓qav, ↓qau, ↓qay, ↓qaz, ↓qas, ↓qax, ↓qaB, ↓qat, ↓qcV, ↓qcU, ↓qaQ, ↓qaW, ↓qaV, ↓qaU, ↓qcF, ↓qcC, ↓qcz, ↓qcG, ↓qcA, ↓qcD, ↓qcE, ↓qcH, ↓qcB, ↓qb5, ↓qb3, ↓qb2, ↓qb1, ↓qbZ, ↓qbY, ↓qb0, ↓qcx, ↓qcv, ↓qcw, ↓qcu, ↓qcy, ↓qb9, ↓qcb, ↓qb6, ↓qce, ↓qcc, ↓qb8, ↓qca, ↓qcd, ↓qb7, ↓qaY, ↓qan, ↓qai, ↓qaj, ↓qam, ↓qak, ↓qal, ↓qct, ↓qcs, ↓qcr, ↓qaq, ↓qao, ↓qap, ↓qbv, ↓qah, ↓qbS, ↓qbC, ↓qaD, ↓qaC, ↓qbx, ↓qbw, ↓qcW, ↓qbT, ↓qbM, ↓qbN, ↓qbL, ↓qbD, ↓qbE, ↓qbO, qad, qbB, qbA, qbz, ↓qck, ↓qcj, ↓qcm, ↓qcl, qbV, ↓qbQ, ↓qbP, ↓qbR, qby, qcI, qcJ, qaI, behindInMarks, lastMarks, Option.map_some, List.contains_cons, List.map_cons, List.map_nil, String.reduceBEq, String.reduceEq, Bool.and_true, Bool.true_and, Bool.and_false, Bool.false_and, Bool.or_true, Bool.true_or, Bool.or_false, Bool.false_or, Bool.not_true, Bool.not_false, and_true, true_and, exists_eq_left', exists_eq_left, beq_self_eq_true, List.length_cons, List.length_nil, Nat.reduceAdd, Nat.zero_add, Nat.reduceLeDiff, decide_true, decide_false, if_false, if_true, reduceCtorEq, ↓qaR, ↓qaX, ↓qaS, ↓qaT, N20, ↓U20, fADD, fSUB, fMUL, fIOR, ↓hsa]
                    refine ⟨vr.a0, la, lb, fin _ _ _ (by unfold res; rw [ho]) (hnm (by rw [ho]; decide)) ?_⟩
                    rw [← set_int]
                    (repeat (first | exact subV_n | refine subV_e ?_ | refine subV_d ?_))
                  · have fADD : (r.op.nm == "ADD") = false := by rw [ho]; decide
                    have fSUB : (r.op.nm == "SUB") = false := by rw [ho]; decide
                    have fMUL : (r.op.nm == "MUL") = false := by rw [ho]; decide
                    have fIOR : (r.op.nm == "IOR") = false := by rw [ho]; decide
                    have fXOR : (r.op.nm == "XOR") = true := by rw [ho]; decide
                    simp (maxSteps := 1000000) (dsimp := false) only [↓qaG, ↓qaH, ↓qcp, ↓qco, ↓qcn, ↓qcq, ↓qa4, ↓qbG, ↓qbF, ↓qaa, ↓qac, ↓qab, ↓qba, ↓qbe, ↓qa6, ↓qbi, ↓qa5, ↓qbf, ↓qbb, ↓qa9, ↓qbh, ↓qbd, ↓qbg, ↓qcL, ↓qcK, ↓qcM, ↓qb4, ↓qbk, ↓qbj, ↓qaF, ↓qaE, ↓qcN, ↓qcO, ↓qa8, ↓qa7, ↓qbc, ↓qcT, ↓qcP, ↓qcR, ↓qcS, ↓qcQ, ↓qbl, ↓qbt, ↓qbs, ↓qbm, ↓qbo, ↓qbq, ↓qbu, ↓qbp, ↓qbr, ↓qbn, ↓qbW, ↓qbX, ↓qaf, ↓qae, ↓qag, ↓qaP, ↓qaO, ↓qaK, ↓qaJ, ↓qaL, ↓qaM, ↓qaN, ↓qaZ, ↓qbU, ↓qbH, ↓qbI, ↓qbJ, ↓qbK, ↓qcf, ↓qcg, ↓qch, ↓qci, ↓qa1, ↓qa3, ↓qa0, ↓qa2, ↓qar, ↓qaA, ↓qaw, ↓qav, ↓qau, ↓qay, ↓qaz, ↓qas, ↓qax, ↓qaB, ↓qat, ↓qcV, ↓qcU, ↓qaQ, ↓qaW, ↓qaV, ↓qaU, ↓qcF, ↓qcC, ↓qcz, ↓qcG, ↓qcA, ↓qcD, ↓qcE, ↓qcH, ↓qcB, ↓qb5, ↓qb3, ↓qb2, ↓qb1, ↓qbZ, ↓qbY, ↓qb0, ↓qcx, ↓qcv, ↓qcw, ↓qcu, ↓qcy, ↓qb9, ↓qcb, ↓qb6, ↓qce, ↓qcc, ↓qb8, ↓qca, ↓qcd, ↓qb7, ↓qaY, ↓qan, ↓qai, ↓qaj, ↓qam, ↓qak, ↓qal, ↓qct, ↓qcs, ↓qcr, ↓qaq, ↓qao, ↓qap, ↓qbv, ↓qah, ↓qbS, ↓qbC, ↓qaD, ↓qaC, ↓qbx, ↓qbw, ↓qcW, ↓qbT, ↓qbM, ↓qbN, ↓qbL, ↓qbD, ↓qbE, ↓qbO, qad, qbB, qbA, qbz, ↓qck, ↓qcj, ↓qcm, ↓qcl, qbV, ↓qbQ, ↓qbP, ↓qbR, qby, qcI, qcJ, qaI, behindInMarks, lastMarks, Option.map_some, List.contains_cons, List.map_cons, List.map_nil, String.reduceBEq, String.reduceEq, Bool.and_true, Bool.true_and, Bool.and_false, Bool.false_and, Bool.or_true, Bool.true_or, Bool.or_false, Bool.false_or, Bool.not_true, Bool.not_false, and_true, true_and, exists_eq_left', exists_eq_left, beq_self_eq_true, List.length_cons, List.length_nil, Nat.reduceAdd, Nat.zero_add, Nat.reduceLeDiff, decide_true, decide_false, if_false, if_true, reduceCtorEq, ↓qaR, ↓qaX, ↓qaS, ↓qaT, N20, ↓U20, fADD, fSUB, fMUL, fIOR, fXOR, ↓hsa]
                    refine ⟨vr.a0, la, lb, fin _ _ _ (by unfold res; rw [ho]) (hnm (by rw [ho]; decide)) ?_⟩
                    rw [← set_int]
                    (repeat (first | exact subV_n | refine subV_e ?_ | refine subV_d ?_))
  · subst hτ
    rw [List.length_map]
    obtain ⟨m, hm⟩ : ∃ m, m = run ⟨hs, [], 5, .none⟩ rs := ⟨_, rfl⟩
    have hrm : rn rs.length = m := by rw [hrn, hm]; show run _ (rs.take rs.length) = _; rw [List.take_length]
    rw [hrm]
    have hmok : Mok m rs.length := by
      rw [hm]
      have := run_ok (rs := rs) M0
      rwa [Nat.zero_add] at this
    have hfew := hmok.few
    have hkok : Kok m := by
      rw [hm]
      exact run_key hv M0 fun p (hp : p ∈ []) => (by simp at hp)
    rw [← hm]
    simp (maxSteps := 1000000) (dsimp := false) only [↓qaG, ↓qaH, ↓qcp, ↓qco, ↓qcn, ↓qcq, ↓qa4, ↓qbG, ↓qbF, ↓qaa, ↓qac, ↓qab, ↓qba, ↓qbe, ↓qa6, ↓qbi, ↓qa5, ↓qbf, ↓qbb, ↓qa9, ↓qbh, ↓qbd, ↓qbg, ↓qcL, ↓qcK, ↓qcM, ↓qb4, ↓qbk, ↓qbj, ↓qaF, ↓qaE, ↓qcN, ↓qcO, ↓qa8, ↓qa7, ↓qbc, ↓qcT, ↓qcP, ↓qcR, ↓qcS, ↓qcQ, ↓qbl, ↓qbt, ↓qbs, ↓qbm, ↓qbo, ↓qbq, ↓qbu, ↓qbp, ↓qbr, ↓qbn, ↓qbW, ↓qbX, ↓qaf, ↓qae, ↓qag, ↓qaP, ↓qaO, ↓qaK, ↓qaJ, ↓qaL, ↓qaM, ↓qaN, ↓qaZ, ↓qbU, ↓qbH, ↓qbI, ↓qbJ, ↓qbK, ↓qcf, ↓qcg, ↓qch, ↓qci, ↓qa1, ↓qa3, ↓qa0, ↓qa2, ↓qar, ↓qaA, ↓qaw, ↓qav, ↓qau, ↓qay, ↓qaz, ↓qas, ↓qax, ↓qaB, ↓qat, ↓qcV, ↓qcU, ↓qaQ, ↓qaW, ↓qaV, ↓qaU, ↓qcF, ↓qcC, ↓qcz, ↓qcG, ↓qcA, ↓qcD, ↓qcE, ↓qcH, ↓qcB, ↓qb5, ↓qb3, ↓qb2, ↓qb1, ↓qbZ, ↓qbY, ↓qb0, ↓qcx, ↓qcv, ↓qcw, ↓qcu, ↓qcy, ↓qb9, ↓qcb, ↓qb6, ↓qce, ↓qcc, ↓qb8, ↓qca, ↓qcd, ↓qb7, ↓qaY, ↓qan, ↓qai, ↓qaj, ↓qam, ↓qak, ↓qal, ↓qct, ↓qcs, ↓qcr, ↓qaq, ↓qao, ↓qap, ↓qbv, ↓qah, ↓qbS, ↓qbC, ↓qaD, ↓qaC, ↓qbx, ↓qbw, ↓qcW, ↓qbT, ↓qbM, ↓qbN, ↓qbL, ↓qbD, ↓qbE, ↓qbO, qad, qbB, qbA, qbz, ↓qck, ↓qcj, ↓qcm, ↓qcl, qbV, ↓qbQ, ↓qbP, ↓qbR, qby, qcI, qcJ, qaI, behindInMarks, lastMarks, Option.map_some, List.contains_cons, List.map_cons, List.map_nil, String.reduceBEq, String.reduceEq, Bool.and_true, Bool.true_and, Bool.and_false, Bool.false_and, Bool.or_true, Bool.true_or, Bool.or_false, Bool.false_or, Bool.not_true, Bool.not_false, and_true, true_and, exists_eq_left', exists_eq_left, beq_self_eq_true, List.length_cons, List.length_nil, Nat.reduceAdd, Nat.zero_add, Nat.reduceLeDiff, decide_true, decide_false, if_false, if_true, reduceCtorEq, N20, ↓U20]
    refine compV (items := m.cells) (fun p => .int p.1) (filF m.cells) ((filledOf m.cells).map pairD) (by kernel_rfl) (σc := ([(Str.ofString "cells", Slot.dct m.cells)] : Sg)) (by kernel_rfl) (fun K hK => ?_) (fun p hp => ?_) (filF_all hmok.nd) ?_
    · simp (maxSteps := 1000000) (dsimp := false) only [↓qaG, ↓qaH, ↓qcp, ↓qco, ↓qcn, ↓qcq, ↓qa4, ↓qbG, ↓qbF, ↓qaa, ↓qac, ↓qab, ↓qba, ↓qbe, ↓qa6, ↓qbi, ↓qa5, ↓qbf, ↓qbb, ↓qa9, ↓qbh, ↓qbd, ↓qbg, ↓qcL, ↓qcK, ↓qcM, ↓qb4, ↓qbk, ↓qbj, ↓qaF, ↓qaE, ↓qcN, ↓qcO, ↓qa8, ↓qa7, ↓qbc, ↓qcT, ↓qcP, ↓qcR, ↓qcS, ↓qcQ, ↓qbl, ↓qbt, ↓qbs, ↓qbm, ↓qbo, ↓qbq, ↓qbu, ↓qbp, ↓qbr, ↓qbn, ↓qbW, ↓qbX, ↓qaf, ↓qae, ↓qag, ↓qaP, ↓qaO, ↓qaK, ↓qaJ, ↓qaL, ↓qaM, ↓qaN, ↓qaZ, ↓qbU, ↓qbH, ↓qbI, ↓qbJ, ↓qbK, ↓qcf, ↓qcg, ↓qch, ↓qci, ↓qa1, ↓qa3, ↓qa0, ↓qa2, ↓qar, ↓qaA, ↓qaw, ↓qav, ↓qau, ↓qay, ↓qaz, ↓qas, ↓qax, ↓qaB, ↓qat, ↓qcV, ↓qcU, ↓qaQ, ↓qaW, ↓qaV, ↓qaU, ↓qcF, ↓qcC, ↓qcz, ↓qcG, ↓qcA, ↓qcD, ↓qcE, ↓qcH, ↓qcB, ↓qb5, ↓qb3, ↓qb2, ↓qb1, ↓qbZ, ↓qbY, ↓qb0, ↓qcx, ↓qcv, ↓qcw, ↓qcu, ↓qcy, ↓qb9, ↓qcb, ↓qb6, ↓qce, ↓qcc, ↓qb8, ↓qca, ↓qcd, ↓qb7, ↓qaY, ↓qan, ↓qai, ↓qaj, ↓qam, ↓qak, ↓qal, ↓qct, ↓qcs, ↓qcr, ↓qaq, ↓qao, ↓qap, ↓qbv, ↓qah, ↓qbS, ↓qbC, ↓qaD, ↓qaC, ↓qbx, ↓qbw, ↓qcW, ↓qbT, ↓qbM, ↓qbN, ↓qbL, ↓qbD, ↓qbE, ↓qbO, qad, qbB, qbA, qbz, ↓qck, ↓qcj, ↓qcm, ↓qcl, qbV, ↓qbQ, ↓qbP, ↓qbR, qby, qcI, qcJ, qaI, behindInMarks, lastMarks, Option.map_some, List.contains_cons, List.map_cons, List.map_nil, String.reduceBEq, String.reduceEq, Bool.and_true, Bool.true_and, Bool.and_false, Bool.false_and, Bool.or_true, Bool.true_or, Bool.or_false, Bool.false_or, Bool.not_true, Bool.not_false, and_true, true_and, exists_eq_left', exists_eq_left, beq_self_eq_true, List.length_cons, List.length_nil, Nat.reduceAdd, Nat.zero_add, Nat.reduceLeDiff, decide_true, decide_false, if_false, if_true, reduceCtorEq, N20, ↓U20]
      exact ⟨by omega, hK⟩
    · have hg := getKV_mem hmok.nd hp
      have hk := hkok p hp
      simp (maxSteps := 1000000) (dsimp := false) only [↓qaG, ↓qaH, ↓qcp, ↓qco, ↓qcn, ↓qcq, ↓qa4, ↓qbG, ↓qbF, ↓qaa, ↓qac, ↓qab, ↓qba, ↓qbe, ↓qa6, ↓qbi, ↓qa5, ↓qbf, ↓qbb, ↓qa9, ↓qbh, ↓qbd, ↓qbg, ↓qcL, ↓qcK, ↓qcM, ↓qb4, ↓qbk, ↓qbj, ↓qaF, ↓qaE, ↓qcN, ↓qcO, ↓qa8, ↓qa7, ↓qbc, ↓qcT, ↓qcP, ↓qcR, ↓qcS, ↓qcQ, ↓qbl, ↓qbt, ↓qbs, ↓qbm, ↓qbo, ↓qbq, ↓qbu, ↓qbp, ↓qbr, ↓qbn, ↓qbW, ↓qbX, ↓qaf, ↓qae, ↓qag, ↓qaP, ↓qaO, ↓qaK, ↓qaJ, ↓qaL, ↓qaM, ↓qaN, ↓qaZ, ↓qbU, ↓qbH, ↓qbI, ↓qbJ, ↓qbK, ↓qcf, ↓qcg, ↓qch, ↓qci, ↓qa1, ↓qa3, ↓qa0, ↓qa2, ↓qar, ↓qaA, ↓qaw, ↓qav, ↓qau, ↓qay, ↓qaz, ↓qas, ↓qax, ↓qaB, ↓qat, ↓qcV, ↓qcU, ↓qaQ, ↓qaW, ↓qaV, ↓qaU, ↓qcF, ↓qcC, ↓qcz, ↓qcG, ↓qcA, ↓qcD, ↓qcE, ↓qcH, ↓qcB, ↓qb5, ↓qb3, ↓qb2, ↓qb1, ↓qbZ, ↓qbY, ↓qb0, ↓qcx, ↓qcv, ↓qcw, ↓qcu, ↓qcy, ↓qb9, ↓qcb, ↓qb6, ↓qce, ↓qcc, ↓qb8, ↓qca, ↓qcd, ↓qb7, ↓qaY, ↓qan, ↓qai, ↓qaj, ↓qam, ↓qak, ↓qal, ↓qct, ↓qcs, ↓qcr, ↓qaq, ↓qao, ↓qap, ↓qbv, ↓qah, ↓qbS, ↓qbC, ↓qaD, ↓qaC, ↓qbx, ↓qbw, ↓qcW, ↓qbT, ↓qbM, ↓qbN, ↓qbL, ↓qbD, ↓qbE, ↓qbO, qad, qbB, qbA, qbz, ↓qck, ↓qcj, ↓qcm, ↓qcl, qbV, ↓qbQ, ↓qbP, ↓qbR, qby, qcI, qcJ, qaI, behindInMarks, lastMarks, Option.map_some, List.contains_cons, List.map_cons, List.map_nil, String.reduceBEq, String.reduceEq, Bool.and_true, Bool.true_and, Bool.and_false, Bool.false_and, Bool.or_true, Bool.true_or, Bool.or_false, Bool.false_or, Bool.not_true, Bool.not_false, and_true, true_and, exists_eq_left', exists_eq_left, beq_self_eq_true, List.length_cons, List.length_nil, Nat.reduceAdd, Nat.zero_add, Nat.reduceLeDiff, decide_true, decide_false, if_false, if_true, reduceCtorEq, N20, ↓U20, kdC, List.lookup_cons, List.lookup_nil, nb1, nb2, nb3, nb4]
      refine ⟨p.2, hg, by omega, by decide, by decide, iteB_of (fun h2 => ?_) (fun h2 => ?_)⟩
      · simp (maxSteps := 1000000) (dsimp := false) only [↓qaG, ↓qaH, ↓qcp, ↓qco, ↓qcn, ↓qcq, ↓qa4, ↓qbG, ↓qbF, ↓qaa, ↓qac, ↓qab, ↓qba, ↓qbe, ↓qa6, ↓qbi, ↓qa5, ↓qbf, ↓qbb, ↓qa9, ↓qbh, ↓qbd, ↓qbg, ↓qcL, ↓qcK, ↓qcM, ↓qb4, ↓qbk, ↓qbj, ↓qaF, ↓qaE, ↓qcN, ↓qcO, ↓qa8, ↓qa7, ↓qbc, ↓qcT, ↓qcP, ↓qcR, ↓qcS, ↓qcQ, ↓qbl, ↓qbt, ↓qbs, ↓qbm, ↓qbo, ↓qbq, ↓qbu, ↓qbp, ↓qbr, ↓qbn, ↓qbW, ↓qbX, ↓qaf, ↓qae, ↓qag, ↓qaP, ↓qaO, ↓qaK, ↓qaJ, ↓qaL, ↓qaM, ↓qaN, ↓qaZ, ↓qbU, ↓qbH, ↓qbI, ↓qbJ, ↓qbK, ↓qcf, ↓qcg, ↓qch, ↓qci, ↓qa1, ↓qa3, ↓qa0, ↓qa2, ↓qar, ↓qaA, ↓qaw, ↓qav, ↓qau, ↓qay, ↓qaz, ↓qas, ↓qax, ↓qaB, ↓qat, ↓qcV, ↓qcU, ↓qaQ, ↓qaW, ↓qaV, ↓qaU, ↓qcF, ↓qcC, ↓qcz, ↓qcG, ↓qcA, ↓qcD, ↓qcE, ↓qcH, ↓qcB, ↓qb5, ↓qb3, ↓qb2, ↓qb1, ↓qbZ, ↓qbY, ↓qb0, ↓qcx, ↓qcv, ↓qcw, ↓qcu, ↓qcy, ↓qb9, ↓qcb, ↓qb6, ↓qce, ↓qcc, ↓qb8, ↓qca, ↓qcd, ↓qb7, ↓qaY, ↓qan, ↓qai, ↓qaj, ↓qam, ↓qak, ↓qal, ↓qct, ↓qcs, ↓qcr, ↓qaq, ↓qao, ↓qap, ↓qbv, ↓qah, ↓qbS, ↓qbC, ↓qaD, ↓qaC, ↓qbx, ↓qbw, ↓qcW, ↓qbT, ↓qbM, ↓qbN, ↓qbL, ↓qbD, ↓qbE, ↓qbO, qad, qbB, qbA, qbz, ↓qck, ↓qcj, ↓qcm, ↓qcl, qbV, ↓qbQ, ↓qbP, ↓qbR, qby, qcI, qcJ, qaI, behindInMarks, lastMarks, Option.map_some, List.contains_cons, List.map_cons, List.map_nil, String.reduceBEq, String.reduceEq, Bool.and_true, Bool.true_and, Bool.and_false, Bool.false_and, Bool.or_true, Bool.true_or, Bool.or_false, Bool.false_or, Bool.not_true, Bool.not_false, and_true, true_and, exists_eq_left', exists_eq_left, beq_self_eq_true, List.length_cons, List.length_nil, Nat.reduceAdd, Nat.zero_add, Nat.reduceLeDiff, decide_true, decide_false, if_false, if_true, reduceCtorEq, N20, ↓U20, List.lookup_cons, List.lookup_nil]
        refine ⟨p.2, hg, ?_⟩
        simp only [filF, hg, h2, if_true, pairD]
      · simp only [filF, hg, h2, Bool.false_eq_true, if_false]
    · refine ⟨filledOf m.cells, rfl, ?_, ?_⟩
      · have := List.length_filter_le (fun p : Int × Int => p.2 != (p.1 * 7).fmod 256) m.cells
        unfold filledOf
        omega
      · simp (maxSteps := 1000000) (dsimp := false) only [↓qaG, ↓qaH, ↓qcp, ↓qco, ↓qcn, ↓qcq, ↓qa4, ↓qbG, ↓qbF, ↓qaa, ↓qac, ↓qab, ↓qba, ↓qbe, ↓qa6, ↓qbi, ↓qa5, ↓qbf, ↓qbb, ↓qa9, ↓qbh, ↓qbd, ↓qbg, ↓qcL, ↓qcK, ↓qcM, ↓qb4, ↓qbk, ↓qbj, ↓qaF, ↓qaE, ↓qcN, ↓qcO, ↓qa8, ↓qa7, ↓qbc, ↓qcT, ↓qcP, ↓qcR, ↓qcS, ↓qcQ, ↓qbl, ↓qbt, ↓qbs, ↓qbm, ↓qbo, ↓qbq, ↓qbu, ↓qbp, ↓qbr, ↓qbn, ↓qbW, ↓qbX, ↓qaf, ↓qae, ↓qag, ↓qaP, ↓qaO, ↓qaK, ↓qaJ, ↓qaL, ↓qaM, ↓qaN, ↓qaZ, ↓qbU, ↓qbH, ↓qbI, ↓qbJ, ↓qbK, ↓qcf, ↓qcg, ↓qch, ↓qci, ↓qa1, ↓qa3, ↓qa0, ↓qa2, ↓qar, ↓qaA, ↓qaw, ↓qav, ↓qau, ↓qay, ↓qaz, ↓qas, ↓qax, ↓qaB, ↓qat, ↓qcV, ↓qcU, ↓qaQ, ↓qaW, ↓qaV, ↓qaU, ↓qcF, ↓qcC, ↓qcz, ↓qcG, ↓qcA, ↓qcD, ↓qcE, ↓qcH, ↓qcB, ↓qb5, ↓qb3, ↓qb2, ↓qb1, ↓qbZ, ↓qbY, ↓qb0, ↓qcx, ↓qcv, ↓qcw, ↓qcu, ↓qcy, ↓qb9, ↓qcb, ↓qb6, ↓qce, ↓qcc, ↓qb8, ↓qca, ↓qcd, ↓qb7, ↓qaY, ↓qan, ↓qai, ↓qaj, ↓qam, ↓qak, ↓qal, ↓qct, ↓qcs, ↓qcr, ↓qaq, ↓qao, ↓qap, ↓qbv, ↓qah, ↓qbS, ↓qbC, ↓qaD, ↓qaC, ↓qbx, ↓qbw, ↓qcW, ↓qbT, ↓qbM, ↓qbN, ↓qbL, ↓qbD, ↓qbE, ↓qbO, qad, qbB, qbA, qbz, ↓qck, ↓qcj, ↓qcm, ↓qcl, qbV, ↓qbQ, ↓qbP, ↓qbR, qby, qcI, qcJ, qaI, behindInMarks, lastMarks, Option.map_some, List.contains_cons, List.map_cons, List.map_nil, String.reduceBEq, String.reduceEq, Bool.and_true, Bool.true_and, Bool.and_false, Bool.false_and, Bool.or_true, Bool.true_or, Bool.or_false, Bool.false_or, Bool.not_true, Bool.not_false, and_true, true_and, exists_eq_left', exists_eq_left, beq_self_eq_true, List.length_cons, List.length_nil, Nat.reduceAdd, Nat.zero_add, Nat.reduceLeDiff, decide_true, decide_false, if_false, if_true, reduceCtorEq, N20, ↓U20]
        rfl
end
theorem sm_fin {m : M} (h : LastOk m.last) : Sm 3 (finD m) := by
  unfold finD
  refine .tup (smAll_cons ?_ (smAll_cons (.int _) (smAll_cons ?_ (smAll_cons ((sm_last h).le (by decide)) smAll_nil))))
  · exact (Sm.list (n := 0) (smAll_map _ fun a _ => .int a)).le (by decide)
  · exact .list (smAll_map _ fun a _ => sm_pair a)
theorem step_last {m : M} {r : Row} (h : LastOk m.last) : LastOk (step m r).last := by
  unfold step
  split <;> first
    | exact h
    | exact .inr ⟨_, _, rfl⟩
theorem run_last {rs : List Row} : ∀ {m : M}, LastOk m.last → LastOk (run m rs).last := by
  induction rs with
  | nil => intro m h; exact h
  | cons r rs ih => intro m h; exact ih (m := step m r) (step_last h)
theorem ne_fin {m : M} {Q : Bool → Prop} (h : LastOk m.last) : cmpW .NotEq (finD m) (finD m) Q = Q false := ne_same ((sm_fin h).le (by decide)) rfl
def sd (S : List Int) (i : Nat) : Int := S.getD i 0
theorem seed_at {S : List Int} {i : Int} {Q : PyData → Prop} (hl : S.length = 45) (h0 : 0 ≤ i) (h1 : i < 45) : itemW (.list (S.map .int)) (.int i) Q = Q (.int (sd S i.toNat)) := by
  have h : i.toNat < S.length := by omega
  have e : (S.map PyData.int)[i.toNat]? = some (.int (sd S i.toNat)) := by
    rw [List.getElem?_map, List.getElem?_eq_getElem h]
    unfold sd
    rw [List.getD_eq_getElem?_getD, List.getElem?_eq_getElem h]
    rfl
  unfold itemW
  simp [h0, e]
  intro _
  omega
theorem sd_rng {S : List Int} (h : ∀ x ∈ S, 0 ≤ x ∧ x < 65536) (i : Nat) : 0 ≤ sd S i ∧ sd S i < 65536 := by
  unfold sd
  rw [List.getD_eq_getElem?_getD]
  cases e : S[i]? with
  | none => exact ⟨by decide, by decide⟩
  | some x => exact h x (List.mem_of_getElem? e)
def many (S : List Int) : Nat := ((sd S 0).fmod 8).toNat
def rowAt (S : List Int) (e : Nat) : Row := rowOf (sd S (1 + 2 * e)) (sd S (2 + 2 * e))
def rowsOf (S : List Int) : List Row := (List.range (many S)).map (rowAt S)
def fst4 (S : List Int) (e : Nat) : Int := (sd S (16 + e) * 65521).fmod 4294967296
def base2 (S : List Int) : Int := if (sd S 20).fmod 3 = 0 then 1000 else 1002 + (sd S 21).fmod 5
def firstsOf (S : List Int) : List Int := [fst4 S 0, fst4 S 1, fst4 S 2, fst4 S 3, 1000, base2 S]
theorem mapF {α β : Type} {f : PyData → Option PyData} {d : α → PyData} {g : α → β} {e : β → PyData} : ∀ (l : List α), (∀ a ∈ l, f (d a) = some (e (g a))) → (l.map d).filterMap f = (l.map g).map e
  | [], _ => rfl
  | a :: l, h => by
    rw [List.map_cons, List.filterMap_cons, h a List.mem_cons_self]
    simp only
    rw [mapF l fun b hb => h b (List.mem_cons_of_mem _ hb)]
    rfl
theorem rowsOf_len (S : List Int) : (rowsOf S).length = many S := by unfold rowsOf; rw [List.length_map, List.length_range]
theorem many_lt {S : List Int} : many S < 8 := by
  have := fm1 (sd S 0) (k := 8) (by decide)
  unfold many; omega
theorem many_eq {S : List Int} : (sd S 0).fmod 8 = (many S : Int) := by
  have := fm0 (sd S 0) (k := 8) (by decide)
  unfold many; omega
def isI (d : PyData) (g : Int → PyData) : Option PyData := match d with
  | .int e => some (g e)
  | _ => none
theorem intsUp_mem {n : Nat} {d : PyData} (h : d ∈ intsUp 0 n) : ∃ e : Nat, e < n ∧ d = .int e := by
  unfold intsUp at h
  obtain ⟨i, hi, rfl⟩ := List.mem_map.mp h
  refine ⟨i, by have := List.mem_range.mp hi; omega, by rw [Int.zero_add]⟩
theorem intsUp_nat (n : Nat) : intsUp 0 n = (List.range n).map fun (e : Nat) => PyData.int e := by
  unfold intsUp
  rw [show ((n : Int) - 0).toNat = n by omega]
  exact List.map_congr_left fun i _ => by rw [Int.zero_add]
theorem isI_all {g : Int → PyData} : ∀ (l : List Nat), (l.map fun (e : Nat) => PyData.int e).filterMap (fun d => isI d g) = l.map fun (e : Nat) => g e
  | [] => rfl
  | a :: l => by
    rw [List.map_cons, List.filterMap_cons, isI_all l]; rfl
theorem iteB_ev {ev : EvF} {kd : Kd} {σ : Sg} {e1 e2 : Expr} {R : PyData → Prop} {c : Bool} {t : Tag (ev kd σ e1 R, ev kd σ e2 R)} (v : PyData) (h1 : c = true → ∀ Q : PyData → Prop, Q v → ev kd σ e1 Q) (h2 : c = false → ∀ Q : PyData → Prop, Q v → ev kd σ e2 Q) (h : R v) :
    iteB c (ev kd σ e1 R) (ev kd σ e2 R) t := iteB_of (fun hc => h1 hc R h) (fun hc => h2 hc R h)
def swapAt (rs : List Row) (e : Nat) (r q : Row) : List Row := rs.take e ++ [q, r] ++ rs.drop (e + 2)
structure Law (rs : List Row) (hs : List Int) : Prop where
  sorted : sortP (opairs rs) = opairs rs
  mem : ∀ p ∈ opairs rs, 0 ≤ p.1 ∧ p.1 < p.2 ∧ p.2 < (rs.length : Int)
  swap : ∀ (e : Nat) (r q : Row), rs[e]? = some r → rs[e + 1]? = some q → ((e : Int), (e : Int) + 1) ∉ opairs rs → finD (run ⟨hs, [], 5, .none⟩ (swapAt rs e r q)) = finD (run ⟨hs, [], 5, .none⟩ rs)
  reads : ∀ (i j : Nat) (r q : Row), i < j → rs[i]? = some r → rs[j]? = some q → r.op.isSt = false → ((q.op.isSt = false ∧ q.a = r.a) ∨ (q.op.isSt = true ∧ q.a = r.a) ∨ (q.op = .mov ∧ q.c = r.a)) → ((i : Int), (j : Int)) ∈ opairs rs
theorem useS_of {d : PyData} {Q : PyData → Prop} {t : Tag Q} (ps : List (Int × Int)) (hd : d = .list (ps.map pairD)) (hl : ps.length < 64) (h : Q (.list ((sortP ps).map pairD))) : useS d Q t := ⟨ps, hd, hl, h⟩
theorem firsts_eq (S : List Int) : [PyData.int (fst4 S 0), .int (fst4 S 1), .int (fst4 S 2), .int (fst4 S 3)] ++ [PyData.int 1000, .int (base2 S)] = (firstsOf S).map .int := rfl
theorem outerP_len2 (rs : List Row) : ∀ t, (outerP rs t).length ≤ t * rs.length
  | 0 => by simp [outerP]
  | t + 1 => by
    have ih := outerP_len2 rs t
    have := innerP_len rs t (rs.length - (t + 1))
    rw [outerP_succ, List.length_append, Nat.succ_mul]
    omega
theorem opairs_len {rs : List Row} (h : rs.length < 8) : (opairs rs).length < 64 := by
  have h1 := outerP_len2 rs rs.length
  have h2 : rs.length * rs.length ≤ 7 * 7 := Nat.mul_le_mul (by omega) (by omega)
  unfold opairs
  omega
theorem filterNone {α : Type} {dd : α → PyData} : ∀ (l : List α), (l.map dd).filterMap (fun _ => (none : Option PyData)) = []
  | [] => rfl
  | a :: l => by rw [List.map_cons, List.filterMap_cons, filterNone l]
section
variable {cx : Cx} (hS : SortOk cx) (hp : cx.p = vw)
include hS hp
theorem c_law (HL : ∀ (rs : List Row) (hs : List Int), (∀ r ∈ rs, VR r) → rs.length < 8 → hs.length = 6 → (∀ x ∈ hs, 0 ≤ x ∧ x < 4294967296) → Law rs hs) (ns : List Int) (hn : ns.length < 100) : CallsTo cx 8 "law" [.list (ns.map .int)] (.bool true) := by
  have hl := lawSeeds_len ns
  have hr := lawSeeds_rng ns
  have hcs := c_law_seeds hS hp ns hn
  generalize lawSeeds ns = S at hl hr hcs
  have hm8 := many_lt (S := S)
  have s0 : ∀ Q : PyData → Prop, itemW (.list (S.map .int)) (.int 0) Q = Q (.int (sd S 0)) := fun Q => seed_at hl (by decide) (by decide)
  have s20 : ∀ Q : PyData → Prop, itemW (.list (S.map .int)) (.int 20) Q = Q (.int (sd S 20)) := fun Q => seed_at hl (by decide) (by decide)
  have s21 : ∀ Q : PyData → Prop, itemW (.list (S.map .int)) (.int 21) Q = Q (.int (sd S 21)) := fun Q => seed_at hl (by decide) (by decide)
  refine fn_at2 hS hp 21 (own := [Str.ofString "firsts"]) (k := 7) (n := 10) (m := 16) (xs := [Str.ofString "script"]) (ys := [Str.ofString "seeds", Str.ofString "many", Str.ofString "rows", Str.ofString "firsts", Str.ofString "pairs", Str.ofString "due", Str.ofString "each", Str.ofString "swapped_rows", Str.ofString "later", Str.ofString "name", Str.ofString "one", Str.ofString "two", Str.ofString "three", Str.ofString "sets_it", Str.ofString "reads_it"]) (tb := tb21) rfl (by kernel_rfl) rfl rfl (fun _ _ _ vs h => ?_) rfl (by kernel_rfl) (by simp [qcJ]) rfl ?_
  · rcases vs with _ | ⟨v1, _ | ⟨w, ws⟩⟩ <;> first | rfl | simp at h
  simp (maxSteps := 1000000) (dsimp := false) only [↓qaG, ↓qaH, ↓qcp, ↓qco, ↓qcn, ↓qcq, ↓qa4, ↓qbG, ↓qbF, ↓qaa, ↓qac, ↓qab, ↓qba, ↓qbe, ↓qa6, ↓qbi, ↓qa5, ↓qbf, ↓qbb, ↓qa9, ↓qbh, ↓qbd, ↓qbg, ↓qcL, ↓qcK, ↓qcM, ↓qb4, ↓qbk, ↓qbj, ↓qaF, ↓qaE, ↓qcN, ↓qcO, ↓qa8, ↓qa7, ↓qbc, ↓qcT, ↓qcP, ↓qcR, ↓qcS, ↓qcQ, ↓qbl, ↓qbt, ↓qbs, ↓qbm, ↓qbo, ↓qbq, ↓qbu, ↓qbp, ↓qbr, ↓qbn, ↓qbW, ↓qbX, ↓qaf, ↓qae, ↓qag, ↓qaP, ↓qaO, ↓qaK, ↓qaJ, ↓qaL, ↓qaM, ↓qaN, ↓qaZ, ↓qbU, ↓qbH, ↓qbI, ↓qbJ, ↓qbK, ↓qcf, ↓qcg, ↓qch, ↓qci, ↓qa1, ↓qa3, ↓qa0, ↓qa2, ↓qar, ↓qaA, ↓qaw, ↓qav, ↓qau, ↓qay, ↓qaz, ↓qas, ↓qax, ↓qaB, ↓qat, ↓qcV, ↓qcU, ↓qaQ, ↓qaW, ↓qaV, ↓qaU, ↓qcF, ↓qcC, ↓qcz, ↓qcG, ↓qcA, ↓qcD, ↓qcE, ↓qcH, ↓qcB, ↓qb5, ↓qb3, ↓qb2, ↓qb1, ↓qbZ, ↓qbY, ↓qb0, ↓qcx, ↓qcv, ↓qcw, ↓qcu, ↓qcy, ↓qb9, ↓qcb, ↓qb6, ↓qce, ↓qcc, ↓qb8, ↓qca, ↓qcd, ↓qb7, ↓qaY, ↓qan, ↓qai, ↓qaj, ↓qam, ↓qak, ↓qal, ↓qct, ↓qcs, ↓qcr, ↓qaq, ↓qao, ↓qap, ↓qbv, ↓qah, ↓qbS, ↓qbC, ↓qaD, ↓qaC, ↓qbx, ↓qbw, ↓qcW, ↓qbT, ↓qbM, ↓qbN, ↓qbL, ↓qbD, ↓qbE, ↓qbO, qad, qbB, qbA, qbz, ↓qck, ↓qcj, ↓qcm, ↓qcl, qbV, ↓qbQ, ↓qbP, ↓qbR, qby, qcI, qcJ, qaI, behindInMarks, lastMarks, Option.map_some, List.contains_cons, List.map_cons, List.map_nil, String.reduceBEq, String.reduceEq, Bool.and_true, Bool.true_and, Bool.and_false, Bool.false_and, Bool.or_true, Bool.true_or, Bool.or_false, Bool.false_or, Bool.not_true, Bool.not_false, and_true, true_and, exists_eq_left', exists_eq_left, beq_self_eq_true, List.length_cons, List.length_nil, Nat.reduceAdd, Nat.zero_add, Nat.reduceLeDiff, decide_true, decide_false, if_false, if_true, reduceCtorEq, N21, ↓U21]
  refine ⟨(hcs).isFn, useC_of ((hcs).le (by decide)) ?_⟩
  simp (maxSteps := 1000000) (dsimp := false) only [↓qaG, ↓qaH, ↓qcp, ↓qco, ↓qcn, ↓qcq, ↓qa4, ↓qbG, ↓qbF, ↓qaa, ↓qac, ↓qab, ↓qba, ↓qbe, ↓qa6, ↓qbi, ↓qa5, ↓qbf, ↓qbb, ↓qa9, ↓qbh, ↓qbd, ↓qbg, ↓qcL, ↓qcK, ↓qcM, ↓qb4, ↓qbk, ↓qbj, ↓qaF, ↓qaE, ↓qcN, ↓qcO, ↓qa8, ↓qa7, ↓qbc, ↓qcT, ↓qcP, ↓qcR, ↓qcS, ↓qcQ, ↓qbl, ↓qbt, ↓qbs, ↓qbm, ↓qbo, ↓qbq, ↓qbu, ↓qbp, ↓qbr, ↓qbn, ↓qbW, ↓qbX, ↓qaf, ↓qae, ↓qag, ↓qaP, ↓qaO, ↓qaK, ↓qaJ, ↓qaL, ↓qaM, ↓qaN, ↓qaZ, ↓qbU, ↓qbH, ↓qbI, ↓qbJ, ↓qbK, ↓qcf, ↓qcg, ↓qch, ↓qci, ↓qa1, ↓qa3, ↓qa0, ↓qa2, ↓qar, ↓qaA, ↓qaw, ↓qav, ↓qau, ↓qay, ↓qaz, ↓qas, ↓qax, ↓qaB, ↓qat, ↓qcV, ↓qcU, ↓qaQ, ↓qaW, ↓qaV, ↓qaU, ↓qcF, ↓qcC, ↓qcz, ↓qcG, ↓qcA, ↓qcD, ↓qcE, ↓qcH, ↓qcB, ↓qb5, ↓qb3, ↓qb2, ↓qb1, ↓qbZ, ↓qbY, ↓qb0, ↓qcx, ↓qcv, ↓qcw, ↓qcu, ↓qcy, ↓qb9, ↓qcb, ↓qb6, ↓qce, ↓qcc, ↓qb8, ↓qca, ↓qcd, ↓qb7, ↓qaY, ↓qan, ↓qai, ↓qaj, ↓qam, ↓qak, ↓qal, ↓qct, ↓qcs, ↓qcr, ↓qaq, ↓qao, ↓qap, ↓qbv, ↓qah, ↓qbS, ↓qbC, ↓qaD, ↓qaC, ↓qbx, ↓qbw, ↓qcW, ↓qbT, ↓qbM, ↓qbN, ↓qbL, ↓qbD, ↓qbE, ↓qbO, qad, qbB, qbA, qbz, ↓qck, ↓qcj, ↓qcm, ↓qcl, qbV, ↓qbQ, ↓qbP, ↓qbR, qby, qcI, qcJ, qaI, behindInMarks, lastMarks, Option.map_some, List.contains_cons, List.map_cons, List.map_nil, String.reduceBEq, String.reduceEq, Bool.and_true, Bool.true_and, Bool.and_false, Bool.false_and, Bool.or_true, Bool.true_or, Bool.or_false, Bool.false_or, Bool.not_true, Bool.not_false, and_true, true_and, exists_eq_left', exists_eq_left, beq_self_eq_true, List.length_cons, List.length_nil, Nat.reduceAdd, Nat.zero_add, Nat.reduceLeDiff, decide_true, decide_false, if_false, if_true, reduceCtorEq, N21, ↓U21, ↓s0]
  rw [many_eq]
  refine ⟨by decide, ?_⟩
  refine swapK_of (by kernel_rfl) ?_
  refine compV (items := List.range (many S)) (fun e => .int e) (fun d => isI d fun e => rowD (rowAt S e.toNat)) ((rowsOf S).map rowD) (by kernel_rfl) (σc := ([(Str.ofString "seeds", Slot.val (.list (S.map .int)))] : Sg)) (by kernel_rfl) (fun K hK => ?_) (fun e hd => ?_) ?_ ?_
  · rw [← intsUp_nat] at hK
    simp (maxSteps := 1000000) (dsimp := false) only [↓qaG, ↓qaH, ↓qcp, ↓qco, ↓qcn, ↓qcq, ↓qa4, ↓qbG, ↓qbF, ↓qaa, ↓qac, ↓qab, ↓qba, ↓qbe, ↓qa6, ↓qbi, ↓qa5, ↓qbf, ↓qbb, ↓qa9, ↓qbh, ↓qbd, ↓qbg, ↓qcL, ↓qcK, ↓qcM, ↓qb4, ↓qbk, ↓qbj, ↓qaF, ↓qaE, ↓qcN, ↓qcO, ↓qa8, ↓qa7, ↓qbc, ↓qcT, ↓qcP, ↓qcR, ↓qcS, ↓qcQ, ↓qbl, ↓qbt, ↓qbs, ↓qbm, ↓qbo, ↓qbq, ↓qbu, ↓qbp, ↓qbr, ↓qbn, ↓qbW, ↓qbX, ↓qaf, ↓qae, ↓qag, ↓qaP, ↓qaO, ↓qaK, ↓qaJ, ↓qaL, ↓qaM, ↓qaN, ↓qaZ, ↓qbU, ↓qbH, ↓qbI, ↓qbJ, ↓qbK, ↓qcf, ↓qcg, ↓qch, ↓qci, ↓qa1, ↓qa3, ↓qa0, ↓qa2, ↓qar, ↓qaA, ↓qaw, ↓qav, ↓qau, ↓qay, ↓qaz, ↓qas, ↓qax, ↓qaB, ↓qat, ↓qcV, ↓qcU, ↓qaQ, ↓qaW, ↓qaV, ↓qaU, ↓qcF, ↓qcC, ↓qcz, ↓qcG, ↓qcA, ↓qcD, ↓qcE, ↓qcH, ↓qcB, ↓qb5, ↓qb3, ↓qb2, ↓qb1, ↓qbZ, ↓qbY, ↓qb0, ↓qcx, ↓qcv, ↓qcw, ↓qcu, ↓qcy, ↓qb9, ↓qcb, ↓qb6, ↓qce, ↓qcc, ↓qb8, ↓qca, ↓qcd, ↓qb7, ↓qaY, ↓qan, ↓qai, ↓qaj, ↓qam, ↓qak, ↓qal, ↓qct, ↓qcs, ↓qcr, ↓qaq, ↓qao, ↓qap, ↓qbv, ↓qah, ↓qbS, ↓qbC, ↓qaD, ↓qaC, ↓qbx, ↓qbw, ↓qcW, ↓qbT, ↓qbM, ↓qbN, ↓qbL, ↓qbD, ↓qbE, ↓qbO, qad, qbB, qbA, qbz, ↓qck, ↓qcj, ↓qcm, ↓qcl, qbV, ↓qbQ, ↓qbP, ↓qbR, qby, qcI, qcJ, qaI, behindInMarks, lastMarks, Option.map_some, List.contains_cons, List.map_cons, List.map_nil, String.reduceBEq, String.reduceEq, Bool.and_true, Bool.true_and, Bool.and_false, Bool.false_and, Bool.or_true, Bool.true_or, Bool.or_false, Bool.false_or, Bool.not_true, Bool.not_false, and_true, true_and, exists_eq_left', exists_eq_left, beq_self_eq_true, List.length_cons, List.length_nil, Nat.reduceAdd, Nat.zero_add, Nat.reduceLeDiff, decide_true, decide_false, if_false, if_true, reduceCtorEq, N21, ↓U21]
    exact ⟨by omega, by omega, hK⟩
  · have he := List.mem_range.mp hd
    simp (maxSteps := 1000000) (dsimp := false) only [↓qaG, ↓qaH, ↓qcp, ↓qco, ↓qcn, ↓qcq, ↓qa4, ↓qbG, ↓qbF, ↓qaa, ↓qac, ↓qab, ↓qba, ↓qbe, ↓qa6, ↓qbi, ↓qa5, ↓qbf, ↓qbb, ↓qa9, ↓qbh, ↓qbd, ↓qbg, ↓qcL, ↓qcK, ↓qcM, ↓qb4, ↓qbk, ↓qbj, ↓qaF, ↓qaE, ↓qcN, ↓qcO, ↓qa8, ↓qa7, ↓qbc, ↓qcT, ↓qcP, ↓qcR, ↓qcS, ↓qcQ, ↓qbl, ↓qbt, ↓qbs, ↓qbm, ↓qbo, ↓qbq, ↓qbu, ↓qbp, ↓qbr, ↓qbn, ↓qbW, ↓qbX, ↓qaf, ↓qae, ↓qag, ↓qaP, ↓qaO, ↓qaK, ↓qaJ, ↓qaL, ↓qaM, ↓qaN, ↓qaZ, ↓qbU, ↓qbH, ↓qbI, ↓qbJ, ↓qbK, ↓qcf, ↓qcg, ↓qch, ↓qci, ↓qa1, ↓qa3, ↓qa0, ↓qa2, ↓qar, ↓qaA, ↓qaw, ↓qav, ↓qau, ↓qay, ↓qaz, ↓qas, ↓qax, ↓qaB, ↓qat, ↓qcV, ↓qcU, ↓qaQ, ↓qaW, ↓qaV, ↓qaU, ↓qcF, ↓qcC, ↓qcz, ↓qcG, ↓qcA, ↓qcD, ↓qcE, ↓qcH, ↓qcB, ↓qb5, ↓qb3, ↓qb2, ↓qb1, ↓qbZ, ↓qbY, ↓qb0, ↓qcx, ↓qcv, ↓qcw, ↓qcu, ↓qcy, ↓qb9, ↓qcb, ↓qb6, ↓qce, ↓qcc, ↓qb8, ↓qca, ↓qcd, ↓qb7, ↓qaY, ↓qan, ↓qai, ↓qaj, ↓qam, ↓qak, ↓qal, ↓qct, ↓qcs, ↓qcr, ↓qaq, ↓qao, ↓qap, ↓qbv, ↓qah, ↓qbS, ↓qbC, ↓qaD, ↓qaC, ↓qbx, ↓qbw, ↓qcW, ↓qbT, ↓qbM, ↓qbN, ↓qbL, ↓qbD, ↓qbE, ↓qbO, qad, qbB, qbA, qbz, ↓qck, ↓qcj, ↓qcm, ↓qcl, qbV, ↓qbQ, ↓qbP, ↓qbR, qby, qcI, qcJ, qaI, behindInMarks, lastMarks, Option.map_some, List.contains_cons, List.map_cons, List.map_nil, String.reduceBEq, String.reduceEq, Bool.and_true, Bool.true_and, Bool.and_false, Bool.false_and, Bool.or_true, Bool.true_or, Bool.or_false, Bool.false_or, Bool.not_true, Bool.not_false, and_true, true_and, exists_eq_left', exists_eq_left, beq_self_eq_true, List.length_cons, List.length_nil, Nat.reduceAdd, Nat.zero_add, Nat.reduceLeDiff, decide_true, decide_false, if_false, if_true, reduceCtorEq, N21, ↓U21, kdC, List.lookup_cons, List.lookup_nil, nb1, nb2, nb3, nb4, ↓seed_at hl (i := 1 + 2 * (e : Int)) (by omega) (by omega), ↓seed_at hl (i := 2 + 2 * (e : Int)) (by omega) (by omega)]
    refine ⟨(c_law_row hS hp 0 0).isFn, by decide, by omega, by decide, by omega, useC_of ((c_law_row hS hp _ _).le (by decide)) ?_⟩
    unfold isI rowAt
    rw [show (1 + 2 * (e : Int)).toNat = 1 + 2 * e by omega, show (2 + 2 * (e : Int)).toNat = 2 + 2 * e by omega]
    rfl
  · rw [isI_all]
    unfold rowsOf
    rw [List.map_map]
    rfl
  · simp (maxSteps := 1000000) (dsimp := false) only [↓qaG, ↓qaH, ↓qcp, ↓qco, ↓qcn, ↓qcq, ↓qa4, ↓qbG, ↓qbF, ↓qaa, ↓qac, ↓qab, ↓qba, ↓qbe, ↓qa6, ↓qbi, ↓qa5, ↓qbf, ↓qbb, ↓qa9, ↓qbh, ↓qbd, ↓qbg, ↓qcL, ↓qcK, ↓qcM, ↓qb4, ↓qbk, ↓qbj, ↓qaF, ↓qaE, ↓qcN, ↓qcO, ↓qa8, ↓qa7, ↓qbc, ↓qcT, ↓qcP, ↓qcR, ↓qcS, ↓qcQ, ↓qbl, ↓qbt, ↓qbs, ↓qbm, ↓qbo, ↓qbq, ↓qbu, ↓qbp, ↓qbr, ↓qbn, ↓qbW, ↓qbX, ↓qaf, ↓qae, ↓qag, ↓qaP, ↓qaO, ↓qaK, ↓qaJ, ↓qaL, ↓qaM, ↓qaN, ↓qaZ, ↓qbU, ↓qbH, ↓qbI, ↓qbJ, ↓qbK, ↓qcf, ↓qcg, ↓qch, ↓qci, ↓qa1, ↓qa3, ↓qa0, ↓qa2, ↓qar, ↓qaA, ↓qaw, ↓qav, ↓qau, ↓qay, ↓qaz, ↓qas, ↓qax, ↓qaB, ↓qat, ↓qcV, ↓qcU, ↓qaQ, ↓qaW, ↓qaV, ↓qaU, ↓qcF, ↓qcC, ↓qcz, ↓qcG, ↓qcA, ↓qcD, ↓qcE, ↓qcH, ↓qcB, ↓qb5, ↓qb3, ↓qb2, ↓qb1, ↓qbZ, ↓qbY, ↓qb0, ↓qcx, ↓qcv, ↓qcw, ↓qcu, ↓qcy, ↓qb9, ↓qcb, ↓qb6, ↓qce, ↓qcc, ↓qb8, ↓qca, ↓qcd, ↓qb7, ↓qaY, ↓qan, ↓qai, ↓qaj, ↓qam, ↓qak, ↓qal, ↓qct, ↓qcs, ↓qcr, ↓qaq, ↓qao, ↓qap, ↓qbv, ↓qah, ↓qbS, ↓qbC, ↓qaD, ↓qaC, ↓qbx, ↓qbw, ↓qcW, ↓qbT, ↓qbM, ↓qbN, ↓qbL, ↓qbD, ↓qbE, ↓qbO, qad, qbB, qbA, qbz, ↓qck, ↓qcj, ↓qcm, ↓qcl, qbV, ↓qbQ, ↓qbP, ↓qbR, qby, qcI, qcJ, qaI, behindInMarks, lastMarks, Option.map_some, List.contains_cons, List.map_cons, List.map_nil, String.reduceBEq, String.reduceEq, Bool.and_true, Bool.true_and, Bool.and_false, Bool.false_and, Bool.or_true, Bool.true_or, Bool.or_false, Bool.false_or, Bool.not_true, Bool.not_false, and_true, true_and, exists_eq_left', exists_eq_left, beq_self_eq_true, List.length_cons, List.length_nil, Nat.reduceAdd, Nat.zero_add, Nat.reduceLeDiff, decide_true, decide_false, if_false, if_true, reduceCtorEq, N21, ↓U21]
    refine swapK_of (by kernel_rfl) ?_
    refine compV (items := [0, 1, 2, 3]) (fun (e : Int) => .int e) (fun d => isI d fun e => .int (fst4 S e.toNat)) [.int (fst4 S 0), .int (fst4 S 1), .int (fst4 S 2), .int (fst4 S 3)] (by kernel_rfl) (σc := ([(Str.ofString "seeds", Slot.val (.list (S.map .int)))] : Sg)) (by kernel_rfl) (fun K hK => ?_) (fun e hd => ?_) rfl ?_
    · simp (maxSteps := 1000000) (dsimp := false) only [↓qaG, ↓qaH, ↓qcp, ↓qco, ↓qcn, ↓qcq, ↓qa4, ↓qbG, ↓qbF, ↓qaa, ↓qac, ↓qab, ↓qba, ↓qbe, ↓qa6, ↓qbi, ↓qa5, ↓qbf, ↓qbb, ↓qa9, ↓qbh, ↓qbd, ↓qbg, ↓qcL, ↓qcK, ↓qcM, ↓qb4, ↓qbk, ↓qbj, ↓qaF, ↓qaE, ↓qcN, ↓qcO, ↓qa8, ↓qa7, ↓qbc, ↓qcT, ↓qcP, ↓qcR, ↓qcS, ↓qcQ, ↓qbl, ↓qbt, ↓qbs, ↓qbm, ↓qbo, ↓qbq, ↓qbu, ↓qbp, ↓qbr, ↓qbn, ↓qbW, ↓qbX, ↓qaf, ↓qae, ↓qag, ↓qaP, ↓qaO, ↓qaK, ↓qaJ, ↓qaL, ↓qaM, ↓qaN, ↓qaZ, ↓qbU, ↓qbH, ↓qbI, ↓qbJ, ↓qbK, ↓qcf, ↓qcg, ↓qch, ↓qci, ↓qa1, ↓qa3, ↓qa0, ↓qa2, ↓qar, ↓qaA, ↓qaw, ↓qav, ↓qau, ↓qay, ↓qaz, ↓qas, ↓qax, ↓qaB, ↓qat, ↓qcV, ↓qcU, ↓qaQ, ↓qaW, ↓qaV, ↓qaU, ↓qcF, ↓qcC, ↓qcz, ↓qcG, ↓qcA, ↓qcD, ↓qcE, ↓qcH, ↓qcB, ↓qb5, ↓qb3, ↓qb2, ↓qb1, ↓qbZ, ↓qbY, ↓qb0, ↓qcx, ↓qcv, ↓qcw, ↓qcu, ↓qcy, ↓qb9, ↓qcb, ↓qb6, ↓qce, ↓qcc, ↓qb8, ↓qca, ↓qcd, ↓qb7, ↓qaY, ↓qan, ↓qai, ↓qaj, ↓qam, ↓qak, ↓qal, ↓qct, ↓qcs, ↓qcr, ↓qaq, ↓qao, ↓qap, ↓qbv, ↓qah, ↓qbS, ↓qbC, ↓qaD, ↓qaC, ↓qbx, ↓qbw, ↓qcW, ↓qbT, ↓qbM, ↓qbN, ↓qbL, ↓qbD, ↓qbE, ↓qbO, qad, qbB, qbA, qbz, ↓qck, ↓qcj, ↓qcm, ↓qcl, qbV, ↓qbQ, ↓qbP, ↓qbR, qby, qcI, qcJ, qaI, behindInMarks, lastMarks, Option.map_some, List.contains_cons, List.map_cons, List.map_nil, String.reduceBEq, String.reduceEq, Bool.and_true, Bool.true_and, Bool.and_false, Bool.false_and, Bool.or_true, Bool.true_or, Bool.or_false, Bool.false_or, Bool.not_true, Bool.not_false, and_true, true_and, exists_eq_left', exists_eq_left, beq_self_eq_true, List.length_cons, List.length_nil, Nat.reduceAdd, Nat.zero_add, Nat.reduceLeDiff, decide_true, decide_false, if_false, if_true, reduceCtorEq, N21, ↓U21]
      exact ⟨by decide, by decide, hK⟩
    · have he : 0 ≤ e ∧ e < 4 := by simp at hd; omega
      have hrg := sd_rng hr (16 + e).toNat
      simp (maxSteps := 1000000) (dsimp := false) only [↓qaG, ↓qaH, ↓qcp, ↓qco, ↓qcn, ↓qcq, ↓qa4, ↓qbG, ↓qbF, ↓qaa, ↓qac, ↓qab, ↓qba, ↓qbe, ↓qa6, ↓qbi, ↓qa5, ↓qbf, ↓qbb, ↓qa9, ↓qbh, ↓qbd, ↓qbg, ↓qcL, ↓qcK, ↓qcM, ↓qb4, ↓qbk, ↓qbj, ↓qaF, ↓qaE, ↓qcN, ↓qcO, ↓qa8, ↓qa7, ↓qbc, ↓qcT, ↓qcP, ↓qcR, ↓qcS, ↓qcQ, ↓qbl, ↓qbt, ↓qbs, ↓qbm, ↓qbo, ↓qbq, ↓qbu, ↓qbp, ↓qbr, ↓qbn, ↓qbW, ↓qbX, ↓qaf, ↓qae, ↓qag, ↓qaP, ↓qaO, ↓qaK, ↓qaJ, ↓qaL, ↓qaM, ↓qaN, ↓qaZ, ↓qbU, ↓qbH, ↓qbI, ↓qbJ, ↓qbK, ↓qcf, ↓qcg, ↓qch, ↓qci, ↓qa1, ↓qa3, ↓qa0, ↓qa2, ↓qar, ↓qaA, ↓qaw, ↓qav, ↓qau, ↓qay, ↓qaz, ↓qas, ↓qax, ↓qaB, ↓qat, ↓qcV, ↓qcU, ↓qaQ, ↓qaW, ↓qaV, ↓qaU, ↓qcF, ↓qcC, ↓qcz, ↓qcG, ↓qcA, ↓qcD, ↓qcE, ↓qcH, ↓qcB, ↓qb5, ↓qb3, ↓qb2, ↓qb1, ↓qbZ, ↓qbY, ↓qb0, ↓qcx, ↓qcv, ↓qcw, ↓qcu, ↓qcy, ↓qb9, ↓qcb, ↓qb6, ↓qce, ↓qcc, ↓qb8, ↓qca, ↓qcd, ↓qb7, ↓qaY, ↓qan, ↓qai, ↓qaj, ↓qam, ↓qak, ↓qal, ↓qct, ↓qcs, ↓qcr, ↓qaq, ↓qao, ↓qap, ↓qbv, ↓qah, ↓qbS, ↓qbC, ↓qaD, ↓qaC, ↓qbx, ↓qbw, ↓qcW, ↓qbT, ↓qbM, ↓qbN, ↓qbL, ↓qbD, ↓qbE, ↓qbO, qad, qbB, qbA, qbz, ↓qck, ↓qcj, ↓qcm, ↓qcl, qbV, ↓qbQ, ↓qbP, ↓qbR, qby, qcI, qcJ, qaI, behindInMarks, lastMarks, Option.map_some, List.contains_cons, List.map_cons, List.map_nil, String.reduceBEq, String.reduceEq, Bool.and_true, Bool.true_and, Bool.and_false, Bool.false_and, Bool.or_true, Bool.true_or, Bool.or_false, Bool.false_or, Bool.not_true, Bool.not_false, and_true, true_and, exists_eq_left', exists_eq_left, beq_self_eq_true, List.length_cons, List.length_nil, Nat.reduceAdd, Nat.zero_add, Nat.reduceLeDiff, decide_true, decide_false, if_false, if_true, reduceCtorEq, N21, ↓U21, kdC, List.lookup_cons, List.lookup_nil, nb1, nb2, nb3, nb4, ↓seed_at hl (i := 16 + e) (by omega) (by omega)]
      refine ⟨by omega, by decide, by decide, ?_⟩
      unfold isI fst4
      rw [show (16 + e).toNat = 16 + e.toNat by omega]
    · have hv : ∀ r ∈ rowsOf S, VR r := fun r hr => by
        unfold rowsOf at hr
        obtain ⟨e, _, rfl⟩ := List.mem_map.mp hr
        exact rowOf_vr _ _
      have hlen := rowsOf_len S
      have hn8 : (rowsOf S).length < 8 := by omega
      generalize rowsOf S = rs at hv hlen hn8
      have hpr := c_order_pairs hS hp rs hv (by omega)
      simp (maxSteps := 1000000) (dsimp := false) only [↓qaG, ↓qaH, ↓qcp, ↓qco, ↓qcn, ↓qcq, ↓qa4, ↓qbG, ↓qbF, ↓qaa, ↓qac, ↓qab, ↓qba, ↓qbe, ↓qa6, ↓qbi, ↓qa5, ↓qbf, ↓qbb, ↓qa9, ↓qbh, ↓qbd, ↓qbg, ↓qcL, ↓qcK, ↓qcM, ↓qb4, ↓qbk, ↓qbj, ↓qaF, ↓qaE, ↓qcN, ↓qcO, ↓qa8, ↓qa7, ↓qbc, ↓qcT, ↓qcP, ↓qcR, ↓qcS, ↓qcQ, ↓qbl, ↓qbt, ↓qbs, ↓qbm, ↓qbo, ↓qbq, ↓qbu, ↓qbp, ↓qbr, ↓qbn, ↓qbW, ↓qbX, ↓qaf, ↓qae, ↓qag, ↓qaP, ↓qaO, ↓qaK, ↓qaJ, ↓qaL, ↓qaM, ↓qaN, ↓qaZ, ↓qbU, ↓qbH, ↓qbI, ↓qbJ, ↓qbK, ↓qcf, ↓qcg, ↓qch, ↓qci, ↓qa1, ↓qa3, ↓qa0, ↓qa2, ↓qar, ↓qaA, ↓qaw, ↓qav, ↓qau, ↓qay, ↓qaz, ↓qas, ↓qax, ↓qaB, ↓qat, ↓qcV, ↓qcU, ↓qaQ, ↓qaW, ↓qaV, ↓qaU, ↓qcF, ↓qcC, ↓qcz, ↓qcG, ↓qcA, ↓qcD, ↓qcE, ↓qcH, ↓qcB, ↓qb5, ↓qb3, ↓qb2, ↓qb1, ↓qbZ, ↓qbY, ↓qb0, ↓qcx, ↓qcv, ↓qcw, ↓qcu, ↓qcy, ↓qb9, ↓qcb, ↓qb6, ↓qce, ↓qcc, ↓qb8, ↓qca, ↓qcd, ↓qb7, ↓qaY, ↓qan, ↓qai, ↓qaj, ↓qam, ↓qak, ↓qal, ↓qct, ↓qcs, ↓qcr, ↓qaq, ↓qao, ↓qap, ↓qbv, ↓qah, ↓qbS, ↓qbC, ↓qaD, ↓qaC, ↓qbx, ↓qbw, ↓qcW, ↓qbT, ↓qbM, ↓qbN, ↓qbL, ↓qbD, ↓qbE, ↓qbO, qad, qbB, qbA, qbz, ↓qck, ↓qcj, ↓qcm, ↓qcl, qbV, ↓qbQ, ↓qbP, ↓qbR, qby, qcI, qcJ, qaI, behindInMarks, lastMarks, Option.map_some, List.contains_cons, List.map_cons, List.map_nil, String.reduceBEq, String.reduceEq, Bool.and_true, Bool.true_and, Bool.and_false, Bool.false_and, Bool.or_true, Bool.true_or, Bool.or_false, Bool.false_or, Bool.not_true, Bool.not_false, and_true, true_and, exists_eq_left', exists_eq_left, beq_self_eq_true, List.length_cons, List.length_nil, Nat.reduceAdd, Nat.zero_add, Nat.reduceLeDiff, decide_true, decide_false, if_false, if_true, reduceCtorEq, N21, ↓U21, ↓s20]
      refine ⟨by decide, iteB_ev (.int (base2 S)) (fun hc Q hQ => ?_) (fun hc Q hQ => ?_) ?_⟩
      · simp (maxSteps := 1000000) (dsimp := false) only [↓qaG, ↓qaH, ↓qcp, ↓qco, ↓qcn, ↓qcq, ↓qa4, ↓qbG, ↓qbF, ↓qaa, ↓qac, ↓qab, ↓qba, ↓qbe, ↓qa6, ↓qbi, ↓qa5, ↓qbf, ↓qbb, ↓qa9, ↓qbh, ↓qbd, ↓qbg, ↓qcL, ↓qcK, ↓qcM, ↓qb4, ↓qbk, ↓qbj, ↓qaF, ↓qaE, ↓qcN, ↓qcO, ↓qa8, ↓qa7, ↓qbc, ↓qcT, ↓qcP, ↓qcR, ↓qcS, ↓qcQ, ↓qbl, ↓qbt, ↓qbs, ↓qbm, ↓qbo, ↓qbq, ↓qbu, ↓qbp, ↓qbr, ↓qbn, ↓qbW, ↓qbX, ↓qaf, ↓qae, ↓qag, ↓qaP, ↓qaO, ↓qaK, ↓qaJ, ↓qaL, ↓qaM, ↓qaN, ↓qaZ, ↓qbU, ↓qbH, ↓qbI, ↓qbJ, ↓qbK, ↓qcf, ↓qcg, ↓qch, ↓qci, ↓qa1, ↓qa3, ↓qa0, ↓qa2, ↓qar, ↓qaA, ↓qaw, ↓qav, ↓qau, ↓qay, ↓qaz, ↓qas, ↓qax, ↓qaB, ↓qat, ↓qcV, ↓qcU, ↓qaQ, ↓qaW, ↓qaV, ↓qaU, ↓qcF, ↓qcC, ↓qcz, ↓qcG, ↓qcA, ↓qcD, ↓qcE, ↓qcH, ↓qcB, ↓qb5, ↓qb3, ↓qb2, ↓qb1, ↓qbZ, ↓qbY, ↓qb0, ↓qcx, ↓qcv, ↓qcw, ↓qcu, ↓qcy, ↓qb9, ↓qcb, ↓qb6, ↓qce, ↓qcc, ↓qb8, ↓qca, ↓qcd, ↓qb7, ↓qaY, ↓qan, ↓qai, ↓qaj, ↓qam, ↓qak, ↓qal, ↓qct, ↓qcs, ↓qcr, ↓qaq, ↓qao, ↓qap, ↓qbv, ↓qah, ↓qbS, ↓qbC, ↓qaD, ↓qaC, ↓qbx, ↓qbw, ↓qcW, ↓qbT, ↓qbM, ↓qbN, ↓qbL, ↓qbD, ↓qbE, ↓qbO, qad, qbB, qbA, qbz, ↓qck, ↓qcj, ↓qcm, ↓qcl, qbV, ↓qbQ, ↓qbP, ↓qbR, qby, qcI, qcJ, qaI, behindInMarks, lastMarks, Option.map_some, List.contains_cons, List.map_cons, List.map_nil, String.reduceBEq, String.reduceEq, Bool.and_true, Bool.true_and, Bool.and_false, Bool.false_and, Bool.or_true, Bool.true_or, Bool.or_false, Bool.false_or, Bool.not_true, Bool.not_false, and_true, true_and, exists_eq_left', exists_eq_left, beq_self_eq_true, List.length_cons, List.length_nil, Nat.reduceAdd, Nat.zero_add, Nat.reduceLeDiff, decide_true, decide_false, if_false, if_true, reduceCtorEq, N21, ↓U21]
        unfold base2 at hQ
        rwa [if_pos (beq_iff_eq.mp hc)] at hQ
      · simp (maxSteps := 1000000) (dsimp := false) only [↓qaG, ↓qaH, ↓qcp, ↓qco, ↓qcn, ↓qcq, ↓qa4, ↓qbG, ↓qbF, ↓qaa, ↓qac, ↓qab, ↓qba, ↓qbe, ↓qa6, ↓qbi, ↓qa5, ↓qbf, ↓qbb, ↓qa9, ↓qbh, ↓qbd, ↓qbg, ↓qcL, ↓qcK, ↓qcM, ↓qb4, ↓qbk, ↓qbj, ↓qaF, ↓qaE, ↓qcN, ↓qcO, ↓qa8, ↓qa7, ↓qbc, ↓qcT, ↓qcP, ↓qcR, ↓qcS, ↓qcQ, ↓qbl, ↓qbt, ↓qbs, ↓qbm, ↓qbo, ↓qbq, ↓qbu, ↓qbp, ↓qbr, ↓qbn, ↓qbW, ↓qbX, ↓qaf, ↓qae, ↓qag, ↓qaP, ↓qaO, ↓qaK, ↓qaJ, ↓qaL, ↓qaM, ↓qaN, ↓qaZ, ↓qbU, ↓qbH, ↓qbI, ↓qbJ, ↓qbK, ↓qcf, ↓qcg, ↓qch, ↓qci, ↓qa1, ↓qa3, ↓qa0, ↓qa2, ↓qar, ↓qaA, ↓qaw, ↓qav, ↓qau, ↓qay, ↓qaz, ↓qas, ↓qax, ↓qaB, ↓qat, ↓qcV, ↓qcU, ↓qaQ, ↓qaW, ↓qaV, ↓qaU, ↓qcF, ↓qcC, ↓qcz, ↓qcG, ↓qcA, ↓qcD, ↓qcE, ↓qcH, ↓qcB, ↓qb5, ↓qb3, ↓qb2, ↓qb1, ↓qbZ, ↓qbY, ↓qb0, ↓qcx, ↓qcv, ↓qcw, ↓qcu, ↓qcy, ↓qb9, ↓qcb, ↓qb6, ↓qce, ↓qcc, ↓qb8, ↓qca, ↓qcd, ↓qb7, ↓qaY, ↓qan, ↓qai, ↓qaj, ↓qam, ↓qak, ↓qal, ↓qct, ↓qcs, ↓qcr, ↓qaq, ↓qao, ↓qap, ↓qbv, ↓qah, ↓qbS, ↓qbC, ↓qaD, ↓qaC, ↓qbx, ↓qbw, ↓qcW, ↓qbT, ↓qbM, ↓qbN, ↓qbL, ↓qbD, ↓qbE, ↓qbO, qad, qbB, qbA, qbz, ↓qck, ↓qcj, ↓qcm, ↓qcl, qbV, ↓qbQ, ↓qbP, ↓qbR, qby, qcI, qcJ, qaI, behindInMarks, lastMarks, Option.map_some, List.contains_cons, List.map_cons, List.map_nil, String.reduceBEq, String.reduceEq, Bool.and_true, Bool.true_and, Bool.and_false, Bool.false_and, Bool.or_true, Bool.true_or, Bool.or_false, Bool.false_or, Bool.not_true, Bool.not_false, and_true, true_and, exists_eq_left', exists_eq_left, beq_self_eq_true, List.length_cons, List.length_nil, Nat.reduceAdd, Nat.zero_add, Nat.reduceLeDiff, decide_true, decide_false, if_false, if_true, reduceCtorEq, N21, ↓U21, ↓s21]
        refine ⟨by decide, ?_⟩
        unfold base2 at hQ
        rwa [if_neg (beq_eq_false_iff_ne.mp hc)] at hQ
      simp (maxSteps := 1000000) (dsimp := false) only [↓qaG, ↓qaH, ↓qcp, ↓qco, ↓qcn, ↓qcq, ↓qa4, ↓qbG, ↓qbF, ↓qaa, ↓qac, ↓qab, ↓qba, ↓qbe, ↓qa6, ↓qbi, ↓qa5, ↓qbf, ↓qbb, ↓qa9, ↓qbh, ↓qbd, ↓qbg, ↓qcL, ↓qcK, ↓qcM, ↓qb4, ↓qbk, ↓qbj, ↓qaF, ↓qaE, ↓qcN, ↓qcO, ↓qa8, ↓qa7, ↓qbc, ↓qcT, ↓qcP, ↓qcR, ↓qcS, ↓qcQ, ↓qbl, ↓qbt, ↓qbs, ↓qbm, ↓qbo, ↓qbq, ↓qbu, ↓qbp, ↓qbr, ↓qbn, ↓qbW, ↓qbX, ↓qaf, ↓qae, ↓qag, ↓qaP, ↓qaO, ↓qaK, ↓qaJ, ↓qaL, ↓qaM, ↓qaN, ↓qaZ, ↓qbU, ↓qbH, ↓qbI, ↓qbJ, ↓qbK, ↓qcf, ↓qcg, ↓qch, ↓qci, ↓qa1, ↓qa3, ↓qa0, ↓qa2, ↓qar, ↓qaA, ↓qaw, ↓qav, ↓qau, ↓qay, ↓qaz, ↓qas, ↓qax, ↓qaB, ↓qat, ↓qcV, ↓qcU, ↓qaQ, ↓qaW, ↓qaV, ↓qaU, ↓qcF, ↓qcC, ↓qcz, ↓qcG, ↓qcA, ↓qcD, ↓qcE, ↓qcH, ↓qcB, ↓qb5, ↓qb3, ↓qb2, ↓qb1, ↓qbZ, ↓qbY, ↓qb0, ↓qcx, ↓qcv, ↓qcw, ↓qcu, ↓qcy, ↓qb9, ↓qcb, ↓qb6, ↓qce, ↓qcc, ↓qb8, ↓qca, ↓qcd, ↓qb7, ↓qaY, ↓qan, ↓qai, ↓qaj, ↓qam, ↓qak, ↓qal, ↓qct, ↓qcs, ↓qcr, ↓qaq, ↓qao, ↓qap, ↓qbv, ↓qah, ↓qbS, ↓qbC, ↓qaD, ↓qaC, ↓qbx, ↓qbw, ↓qcW, ↓qbT, ↓qbM, ↓qbN, ↓qbL, ↓qbD, ↓qbE, ↓qbO, qad, qbB, qbA, qbz, ↓qck, ↓qcj, ↓qcm, ↓qcl, qbV, ↓qbQ, ↓qbP, ↓qbR, qby, qcI, qcJ, qaI, behindInMarks, lastMarks, Option.map_some, List.contains_cons, List.map_cons, List.map_nil, String.reduceBEq, String.reduceEq, Bool.and_true, Bool.true_and, Bool.and_false, Bool.false_and, Bool.or_true, Bool.true_or, Bool.or_false, Bool.false_or, Bool.not_true, Bool.not_false, and_true, true_and, exists_eq_left', exists_eq_left, beq_self_eq_true, List.length_cons, List.length_nil, Nat.reduceAdd, Nat.zero_add, Nat.reduceLeDiff, decide_true, decide_false, if_false, if_true, reduceCtorEq, N21, ↓U21, firsts_eq, List.length_map]
      refine ⟨hpr.isFn, by omega, useC_of (hpr.le (by decide)) ?_⟩
      simp (maxSteps := 1000000) (dsimp := false) only [↓qaG, ↓qaH, ↓qcp, ↓qco, ↓qcn, ↓qcq, ↓qa4, ↓qbG, ↓qbF, ↓qaa, ↓qac, ↓qab, ↓qba, ↓qbe, ↓qa6, ↓qbi, ↓qa5, ↓qbf, ↓qbb, ↓qa9, ↓qbh, ↓qbd, ↓qbg, ↓qcL, ↓qcK, ↓qcM, ↓qb4, ↓qbk, ↓qbj, ↓qaF, ↓qaE, ↓qcN, ↓qcO, ↓qa8, ↓qa7, ↓qbc, ↓qcT, ↓qcP, ↓qcR, ↓qcS, ↓qcQ, ↓qbl, ↓qbt, ↓qbs, ↓qbm, ↓qbo, ↓qbq, ↓qbu, ↓qbp, ↓qbr, ↓qbn, ↓qbW, ↓qbX, ↓qaf, ↓qae, ↓qag, ↓qaP, ↓qaO, ↓qaK, ↓qaJ, ↓qaL, ↓qaM, ↓qaN, ↓qaZ, ↓qbU, ↓qbH, ↓qbI, ↓qbJ, ↓qbK, ↓qcf, ↓qcg, ↓qch, ↓qci, ↓qa1, ↓qa3, ↓qa0, ↓qa2, ↓qar, ↓qaA, ↓qaw, ↓qav, ↓qau, ↓qay, ↓qaz, ↓qas, ↓qax, ↓qaB, ↓qat, ↓qcV, ↓qcU, ↓qaQ, ↓qaW, ↓qaV, ↓qaU, ↓qcF, ↓qcC, ↓qcz, ↓qcG, ↓qcA, ↓qcD, ↓qcE, ↓qcH, ↓qcB, ↓qb5, ↓qb3, ↓qb2, ↓qb1, ↓qbZ, ↓qbY, ↓qb0, ↓qcx, ↓qcv, ↓qcw, ↓qcu, ↓qcy, ↓qb9, ↓qcb, ↓qb6, ↓qce, ↓qcc, ↓qb8, ↓qca, ↓qcd, ↓qb7, ↓qaY, ↓qan, ↓qai, ↓qaj, ↓qam, ↓qak, ↓qal, ↓qct, ↓qcs, ↓qcr, ↓qaq, ↓qao, ↓qap, ↓qbv, ↓qah, ↓qbS, ↓qbC, ↓qaD, ↓qaC, ↓qbx, ↓qbw, ↓qcW, ↓qbT, ↓qbM, ↓qbN, ↓qbL, ↓qbD, ↓qbE, ↓qbO, qad, qbB, qbA, qbz, ↓qck, ↓qcj, ↓qcm, ↓qcl, qbV, ↓qbQ, ↓qbP, ↓qbR, qby, qcI, qcJ, qaI, behindInMarks, lastMarks, Option.map_some, List.contains_cons, List.map_cons, List.map_nil, String.reduceBEq, String.reduceEq, Bool.and_true, Bool.true_and, Bool.and_false, Bool.false_and, Bool.or_true, Bool.true_or, Bool.or_false, Bool.false_or, Bool.not_true, Bool.not_false, and_true, true_and, exists_eq_left', exists_eq_left, beq_self_eq_true, List.length_cons, List.length_nil, Nat.reduceAdd, Nat.zero_add, Nat.reduceLeDiff, decide_true, decide_false, if_false, if_true, reduceCtorEq, N21, ↓U21]
      have h6 : (firstsOf S).length = 6 := rfl
      have hfr : ∀ x ∈ firstsOf S, 0 ≤ x ∧ x < 4294967296 := fun x hx => by
        unfold firstsOf at hx
        have f4 : ∀ e, 0 ≤ fst4 S e ∧ fst4 S e < 4294967296 := fun e => ⟨fm0 _ (by decide), fm1 _ (by decide)⟩
        have b0 := fm0 (sd S 21) (k := 5) (by decide)
        have b1 := fm1 (sd S 21) (k := 5) (by decide)
        have b2 : 0 ≤ base2 S ∧ base2 S < 4294967296 := by
          unfold base2
          split <;> omega
        simp only [List.mem_cons, List.not_mem_nil, or_false] at hx
        rcases hx with rfl | rfl | rfl | rfl | rfl | rfl <;> first | exact f4 _ | exact b2 | decide
      have LW := HL rs (firstsOf S) hv hn8 h6 hfr
      refine useS_of (opairs rs) rfl (opairs_len hn8) ?_
      rw [LW.sorted]
      simp (maxSteps := 1000000) (dsimp := false) only [↓qaG, ↓qaH, ↓qcp, ↓qco, ↓qcn, ↓qcq, ↓qa4, ↓qbG, ↓qbF, ↓qaa, ↓qac, ↓qab, ↓qba, ↓qbe, ↓qa6, ↓qbi, ↓qa5, ↓qbf, ↓qbb, ↓qa9, ↓qbh, ↓qbd, ↓qbg, ↓qcL, ↓qcK, ↓qcM, ↓qb4, ↓qbk, ↓qbj, ↓qaF, ↓qaE, ↓qcN, ↓qcO, ↓qa8, ↓qa7, ↓qbc, ↓qcT, ↓qcP, ↓qcR, ↓qcS, ↓qcQ, ↓qbl, ↓qbt, ↓qbs, ↓qbm, ↓qbo, ↓qbq, ↓qbu, ↓qbp, ↓qbr, ↓qbn, ↓qbW, ↓qbX, ↓qaf, ↓qae, ↓qag, ↓qaP, ↓qaO, ↓qaK, ↓qaJ, ↓qaL, ↓qaM, ↓qaN, ↓qaZ, ↓qbU, ↓qbH, ↓qbI, ↓qbJ, ↓qbK, ↓qcf, ↓qcg, ↓qch, ↓qci, ↓qa1, ↓qa3, ↓qa0, ↓qa2, ↓qar, ↓qaA, ↓qaw, ↓qav, ↓qau, ↓qay, ↓qaz, ↓qas, ↓qax, ↓qaB, ↓qat, ↓qcV, ↓qcU, ↓qaQ, ↓qaW, ↓qaV, ↓qaU, ↓qcF, ↓qcC, ↓qcz, ↓qcG, ↓qcA, ↓qcD, ↓qcE, ↓qcH, ↓qcB, ↓qb5, ↓qb3, ↓qb2, ↓qb1, ↓qbZ, ↓qbY, ↓qb0, ↓qcx, ↓qcv, ↓qcw, ↓qcu, ↓qcy, ↓qb9, ↓qcb, ↓qb6, ↓qce, ↓qcc, ↓qb8, ↓qca, ↓qcd, ↓qb7, ↓qaY, ↓qan, ↓qai, ↓qaj, ↓qam, ↓qak, ↓qal, ↓qct, ↓qcs, ↓qcr, ↓qaq, ↓qao, ↓qap, ↓qbv, ↓qah, ↓qbS, ↓qbC, ↓qaD, ↓qaC, ↓qbx, ↓qbw, ↓qcW, ↓qbT, ↓qbM, ↓qbN, ↓qbL, ↓qbD, ↓qbE, ↓qbO, qad, qbB, qbA, qbz, ↓qck, ↓qcj, ↓qcm, ↓qcl, qbV, ↓qbQ, ↓qbP, ↓qbR, qby, qcI, qcJ, qaI, behindInMarks, lastMarks, Option.map_some, List.contains_cons, List.map_cons, List.map_nil, String.reduceBEq, String.reduceEq, Bool.and_true, Bool.true_and, Bool.and_false, Bool.false_and, Bool.or_true, Bool.true_or, Bool.or_false, Bool.false_or, Bool.not_true, Bool.not_false, and_true, true_and, exists_eq_left', exists_eq_left, beq_self_eq_true, List.length_cons, List.length_nil, Nat.reduceAdd, Nat.zero_add, Nat.reduceLeDiff, decide_true, decide_false, if_false, if_true, reduceCtorEq, N21, ↓U21, ↓ne_pairs]
      refine compV (items := opairs rs) pairD (fun _ => none) [] (by kernel_rfl) (σc := ([(Str.ofString "many", Slot.val (.int (many S)))] : Sg)) (by kernel_rfl) (fun K hK => ?_) (fun p hp => ?_) (filterNone _) ?_
      · simp (maxSteps := 1000000) (dsimp := false) only [↓qaG, ↓qaH, ↓qcp, ↓qco, ↓qcn, ↓qcq, ↓qa4, ↓qbG, ↓qbF, ↓qaa, ↓qac, ↓qab, ↓qba, ↓qbe, ↓qa6, ↓qbi, ↓qa5, ↓qbf, ↓qbb, ↓qa9, ↓qbh, ↓qbd, ↓qbg, ↓qcL, ↓qcK, ↓qcM, ↓qb4, ↓qbk, ↓qbj, ↓qaF, ↓qaE, ↓qcN, ↓qcO, ↓qa8, ↓qa7, ↓qbc, ↓qcT, ↓qcP, ↓qcR, ↓qcS, ↓qcQ, ↓qbl, ↓qbt, ↓qbs, ↓qbm, ↓qbo, ↓qbq, ↓qbu, ↓qbp, ↓qbr, ↓qbn, ↓qbW, ↓qbX, ↓qaf, ↓qae, ↓qag, ↓qaP, ↓qaO, ↓qaK, ↓qaJ, ↓qaL, ↓qaM, ↓qaN, ↓qaZ, ↓qbU, ↓qbH, ↓qbI, ↓qbJ, ↓qbK, ↓qcf, ↓qcg, ↓qch, ↓qci, ↓qa1, ↓qa3, ↓qa0, ↓qa2, ↓qar, ↓qaA, ↓qaw, ↓qav, ↓qau, ↓qay, ↓qaz, ↓qas, ↓qax, ↓qaB, ↓qat, ↓qcV, ↓qcU, ↓qaQ, ↓qaW, ↓qaV, ↓qaU, ↓qcF, ↓qcC, ↓qcz, ↓qcG, ↓qcA, ↓qcD, ↓qcE, ↓qcH, ↓qcB, ↓qb5, ↓qb3, ↓qb2, ↓qb1, ↓qbZ, ↓qbY, ↓qb0, ↓qcx, ↓qcv, ↓qcw, ↓qcu, ↓qcy, ↓qb9, ↓qcb, ↓qb6, ↓qce, ↓qcc, ↓qb8, ↓qca, ↓qcd, ↓qb7, ↓qaY, ↓qan, ↓qai, ↓qaj, ↓qam, ↓qak, ↓qal, ↓qct, ↓qcs, ↓qcr, ↓qaq, ↓qao, ↓qap, ↓qbv, ↓qah, ↓qbS, ↓qbC, ↓qaD, ↓qaC, ↓qbx, ↓qbw, ↓qcW, ↓qbT, ↓qbM, ↓qbN, ↓qbL, ↓qbD, ↓qbE, ↓qbO, qad, qbB, qbA, qbz, ↓qck, ↓qcj, ↓qcm, ↓qcl, qbV, ↓qbQ, ↓qbP, ↓qbR, qby, qcI, qcJ, qaI, behindInMarks, lastMarks, Option.map_some, List.contains_cons, List.map_cons, List.map_nil, String.reduceBEq, String.reduceEq, Bool.and_true, Bool.true_and, Bool.and_false, Bool.false_and, Bool.or_true, Bool.true_or, Bool.or_false, Bool.false_or, Bool.not_true, Bool.not_false, and_true, true_and, exists_eq_left', exists_eq_left, beq_self_eq_true, List.length_cons, List.length_nil, Nat.reduceAdd, Nat.zero_add, Nat.reduceLeDiff, decide_true, decide_false, if_false, if_true, reduceCtorEq, N21, ↓U21, List.length_map]
        have := opairs_len hn8
        exact ⟨by omega, hK⟩
      · have hm := LW.mem p hp
        have d1 : decide (0 ≤ p.1) = true := decide_eq_true hm.1
        have d2 : decide (p.1 < p.2) = true := decide_eq_true hm.2.1
        have d3 : decide (p.2 < (many S : Int)) = true := decide_eq_true (by rw [← hlen]; exact hm.2.2)
        simp (maxSteps := 1000000) (dsimp := false) only [↓qaG, ↓qaH, ↓qcp, ↓qco, ↓qcn, ↓qcq, ↓qa4, ↓qbG, ↓qbF, ↓qaa, ↓qac, ↓qab, ↓qba, ↓qbe, ↓qa6, ↓qbi, ↓qa5, ↓qbf, ↓qbb, ↓qa9, ↓qbh, ↓qbd, ↓qbg, ↓qcL, ↓qcK, ↓qcM, ↓qb4, ↓qbk, ↓qbj, ↓qaF, ↓qaE, ↓qcN, ↓qcO, ↓qa8, ↓qa7, ↓qbc, ↓qcT, ↓qcP, ↓qcR, ↓qcS, ↓qcQ, ↓qbl, ↓qbt, ↓qbs, ↓qbm, ↓qbo, ↓qbq, ↓qbu, ↓qbp, ↓qbr, ↓qbn, ↓qbW, ↓qbX, ↓qaf, ↓qae, ↓qag, ↓qaP, ↓qaO, ↓qaK, ↓qaJ, ↓qaL, ↓qaM, ↓qaN, ↓qaZ, ↓qbU, ↓qbH, ↓qbI, ↓qbJ, ↓qbK, ↓qcf, ↓qcg, ↓qch, ↓qci, ↓qa1, ↓qa3, ↓qa0, ↓qa2, ↓qar, ↓qaA, ↓qaw, ↓qav, ↓qau, ↓qay, ↓qaz, ↓qas, ↓qax, ↓qaB, ↓qat, ↓qcV, ↓qcU, ↓qaQ, ↓qaW, ↓qaV, ↓qaU, ↓qcF, ↓qcC, ↓qcz, ↓qcG, ↓qcA, ↓qcD, ↓qcE, ↓qcH, ↓qcB, ↓qb5, ↓qb3, ↓qb2, ↓qb1, ↓qbZ, ↓qbY, ↓qb0, ↓qcx, ↓qcv, ↓qcw, ↓qcu, ↓qcy, ↓qb9, ↓qcb, ↓qb6, ↓qce, ↓qcc, ↓qb8, ↓qca, ↓qcd, ↓qb7, ↓qaY, ↓qan, ↓qai, ↓qaj, ↓qam, ↓qak, ↓qal, ↓qct, ↓qcs, ↓qcr, ↓qaq, ↓qao, ↓qap, ↓qbv, ↓qah, ↓qbS, ↓qbC, ↓qaD, ↓qaC, ↓qbx, ↓qbw, ↓qcW, ↓qbT, ↓qbM, ↓qbN, ↓qbL, ↓qbD, ↓qbE, ↓qbO, qad, qbB, qbA, qbz, ↓qck, ↓qcj, ↓qcm, ↓qcl, qbV, ↓qbQ, ↓qbP, ↓qbR, qby, qcI, qcJ, qaI, behindInMarks, lastMarks, Option.map_some, List.contains_cons, List.map_cons, List.map_nil, String.reduceBEq, String.reduceEq, Bool.and_true, Bool.true_and, Bool.and_false, Bool.false_and, Bool.or_true, Bool.true_or, Bool.or_false, Bool.false_or, Bool.not_true, Bool.not_false, and_true, true_and, exists_eq_left', exists_eq_left, beq_self_eq_true, List.length_cons, List.length_nil, Nat.reduceAdd, Nat.zero_add, Nat.reduceLeDiff, decide_true, decide_false, if_false, if_true, reduceCtorEq, N21, ↓U21, kdC, List.lookup_cons, List.lookup_nil, nb1, nb2, nb3, nb4, pairD, d1, d2, d3]
      · simp (maxSteps := 1000000) (dsimp := false) only [↓qaG, ↓qaH, ↓qcp, ↓qco, ↓qcn, ↓qcq, ↓qa4, ↓qbG, ↓qbF, ↓qaa, ↓qac, ↓qab, ↓qba, ↓qbe, ↓qa6, ↓qbi, ↓qa5, ↓qbf, ↓qbb, ↓qa9, ↓qbh, ↓qbd, ↓qbg, ↓qcL, ↓qcK, ↓qcM, ↓qb4, ↓qbk, ↓qbj, ↓qaF, ↓qaE, ↓qcN, ↓qcO, ↓qa8, ↓qa7, ↓qbc, ↓qcT, ↓qcP, ↓qcR, ↓qcS, ↓qcQ, ↓qbl, ↓qbt, ↓qbs, ↓qbm, ↓qbo, ↓qbq, ↓qbu, ↓qbp, ↓qbr, ↓qbn, ↓qbW, ↓qbX, ↓qaf, ↓qae, ↓qag, ↓qaP, ↓qaO, ↓qaK, ↓qaJ, ↓qaL, ↓qaM, ↓qaN, ↓qaZ, ↓qbU, ↓qbH, ↓qbI, ↓qbJ, ↓qbK, ↓qcf, ↓qcg, ↓qch, ↓qci, ↓qa1, ↓qa3, ↓qa0, ↓qa2, ↓qar, ↓qaA, ↓qaw, ↓qav, ↓qau, ↓qay, ↓qaz, ↓qas, ↓qax, ↓qaB, ↓qat, ↓qcV, ↓qcU, ↓qaQ, ↓qaW, ↓qaV, ↓qaU, ↓qcF, ↓qcC, ↓qcz, ↓qcG, ↓qcA, ↓qcD, ↓qcE, ↓qcH, ↓qcB, ↓qb5, ↓qb3, ↓qb2, ↓qb1, ↓qbZ, ↓qbY, ↓qb0, ↓qcx, ↓qcv, ↓qcw, ↓qcu, ↓qcy, ↓qb9, ↓qcb, ↓qb6, ↓qce, ↓qcc, ↓qb8, ↓qca, ↓qcd, ↓qb7, ↓qaY, ↓qan, ↓qai, ↓qaj, ↓qam, ↓qak, ↓qal, ↓qct, ↓qcs, ↓qcr, ↓qaq, ↓qao, ↓qap, ↓qbv, ↓qah, ↓qbS, ↓qbC, ↓qaD, ↓qaC, ↓qbx, ↓qbw, ↓qcW, ↓qbT, ↓qbM, ↓qbN, ↓qbL, ↓qbD, ↓qbE, ↓qbO, qad, qbB, qbA, qbz, ↓qck, ↓qcj, ↓qcm, ↓qcl, qbV, ↓qbQ, ↓qbP, ↓qbR, qby, qcI, qcJ, qaI, behindInMarks, lastMarks, Option.map_some, List.contains_cons, List.map_cons, List.map_nil, String.reduceBEq, String.reduceEq, Bool.and_true, Bool.true_and, Bool.and_false, Bool.false_and, Bool.or_true, Bool.true_or, Bool.or_false, Bool.false_or, Bool.not_true, Bool.not_false, and_true, true_and, exists_eq_left', exists_eq_left, beq_self_eq_true, List.length_cons, List.length_nil, Nat.reduceAdd, Nat.zero_add, Nat.reduceLeDiff, decide_true, decide_false, if_false, if_true, reduceCtorEq, N21, ↓U21, ↓ne_nil]
        have hst := c_law_stepped hS hp rs hv (by omega) (firstsOf S) h6 hfr
        refine ⟨(hst).isFn, useC_of ((hst).le (by decide)) ?_⟩
        simp (maxSteps := 1000000) (dsimp := false) only [↓qaG, ↓qaH, ↓qcp, ↓qco, ↓qcn, ↓qcq, ↓qa4, ↓qbG, ↓qbF, ↓qaa, ↓qac, ↓qab, ↓qba, ↓qbe, ↓qa6, ↓qbi, ↓qa5, ↓qbf, ↓qbb, ↓qa9, ↓qbh, ↓qbd, ↓qbg, ↓qcL, ↓qcK, ↓qcM, ↓qb4, ↓qbk, ↓qbj, ↓qaF, ↓qaE, ↓qcN, ↓qcO, ↓qa8, ↓qa7, ↓qbc, ↓qcT, ↓qcP, ↓qcR, ↓qcS, ↓qcQ, ↓qbl, ↓qbt, ↓qbs, ↓qbm, ↓qbo, ↓qbq, ↓qbu, ↓qbp, ↓qbr, ↓qbn, ↓qbW, ↓qbX, ↓qaf, ↓qae, ↓qag, ↓qaP, ↓qaO, ↓qaK, ↓qaJ, ↓qaL, ↓qaM, ↓qaN, ↓qaZ, ↓qbU, ↓qbH, ↓qbI, ↓qbJ, ↓qbK, ↓qcf, ↓qcg, ↓qch, ↓qci, ↓qa1, ↓qa3, ↓qa0, ↓qa2, ↓qar, ↓qaA, ↓qaw, ↓qav, ↓qau, ↓qay, ↓qaz, ↓qas, ↓qax, ↓qaB, ↓qat, ↓qcV, ↓qcU, ↓qaQ, ↓qaW, ↓qaV, ↓qaU, ↓qcF, ↓qcC, ↓qcz, ↓qcG, ↓qcA, ↓qcD, ↓qcE, ↓qcH, ↓qcB, ↓qb5, ↓qb3, ↓qb2, ↓qb1, ↓qbZ, ↓qbY, ↓qb0, ↓qcx, ↓qcv, ↓qcw, ↓qcu, ↓qcy, ↓qb9, ↓qcb, ↓qb6, ↓qce, ↓qcc, ↓qb8, ↓qca, ↓qcd, ↓qb7, ↓qaY, ↓qan, ↓qai, ↓qaj, ↓qam, ↓qak, ↓qal, ↓qct, ↓qcs, ↓qcr, ↓qaq, ↓qao, ↓qap, ↓qbv, ↓qah, ↓qbS, ↓qbC, ↓qaD, ↓qaC, ↓qbx, ↓qbw, ↓qcW, ↓qbT, ↓qbM, ↓qbN, ↓qbL, ↓qbD, ↓qbE, ↓qbO, qad, qbB, qbA, qbz, ↓qck, ↓qcj, ↓qcm, ↓qcl, qbV, ↓qbQ, ↓qbP, ↓qbR, qby, qcI, qcJ, qaI, behindInMarks, lastMarks, Option.map_some, List.contains_cons, List.map_cons, List.map_nil, String.reduceBEq, String.reduceEq, Bool.and_true, Bool.true_and, Bool.and_false, Bool.false_and, Bool.or_true, Bool.true_or, Bool.or_false, Bool.false_or, Bool.not_true, Bool.not_false, and_true, true_and, exists_eq_left', exists_eq_left, beq_self_eq_true, List.length_cons, List.length_nil, Nat.reduceAdd, Nat.zero_add, Nat.reduceLeDiff, decide_true, decide_false, if_false, if_true, reduceCtorEq, N21, ↓U21]
        refine forH_of (items := intsUp 0 ((many S : Int) - 1)) (own_none rfl) (fun K hK => ?_) (fun _ τ => τ = (Z tb21 [Slot.val (.list (ns.map .int)), Slot.val (.list (S.map .int)), Slot.val (.int (many S)), Slot.val (.list (rs.map rowD)), Slot.val (.list ((firstsOf S).map .int)), Slot.val (.list ((opairs rs).map pairD)), Slot.val (finD (run ⟨firstsOf S, [], 5, .none⟩ rs))])) rfl (fun t d τ hd hτ => ?_) (fun τ hτ => ?_)
        · simp (maxSteps := 1000000) (dsimp := false) only [↓qaG, ↓qaH, ↓qcp, ↓qco, ↓qcn, ↓qcq, ↓qa4, ↓qbG, ↓qbF, ↓qaa, ↓qac, ↓qab, ↓qba, ↓qbe, ↓qa6, ↓qbi, ↓qa5, ↓qbf, ↓qbb, ↓qa9, ↓qbh, ↓qbd, ↓qbg, ↓qcL, ↓qcK, ↓qcM, ↓qb4, ↓qbk, ↓qbj, ↓qaF, ↓qaE, ↓qcN, ↓qcO, ↓qa8, ↓qa7, ↓qbc, ↓qcT, ↓qcP, ↓qcR, ↓qcS, ↓qcQ, ↓qbl, ↓qbt, ↓qbs, ↓qbm, ↓qbo, ↓qbq, ↓qbu, ↓qbp, ↓qbr, ↓qbn, ↓qbW, ↓qbX, ↓qaf, ↓qae, ↓qag, ↓qaP, ↓qaO, ↓qaK, ↓qaJ, ↓qaL, ↓qaM, ↓qaN, ↓qaZ, ↓qbU, ↓qbH, ↓qbI, ↓qbJ, ↓qbK, ↓qcf, ↓qcg, ↓qch, ↓qci, ↓qa1, ↓qa3, ↓qa0, ↓qa2, ↓qar, ↓qaA, ↓qaw, ↓qav, ↓qau, ↓qay, ↓qaz, ↓qas, ↓qax, ↓qaB, ↓qat, ↓qcV, ↓qcU, ↓qaQ, ↓qaW, ↓qaV, ↓qaU, ↓qcF, ↓qcC, ↓qcz, ↓qcG, ↓qcA, ↓qcD, ↓qcE, ↓qcH, ↓qcB, ↓qb5, ↓qb3, ↓qb2, ↓qb1, ↓qbZ, ↓qbY, ↓qb0, ↓qcx, ↓qcv, ↓qcw, ↓qcu, ↓qcy, ↓qb9, ↓qcb, ↓qb6, ↓qce, ↓qcc, ↓qb8, ↓qca, ↓qcd, ↓qb7, ↓qaY, ↓qan, ↓qai, ↓qaj, ↓qam, ↓qak, ↓qal, ↓qct, ↓qcs, ↓qcr, ↓qaq, ↓qao, ↓qap, ↓qbv, ↓qah, ↓qbS, ↓qbC, ↓qaD, ↓qaC, ↓qbx, ↓qbw, ↓qcW, ↓qbT, ↓qbM, ↓qbN, ↓qbL, ↓qbD, ↓qbE, ↓qbO, qad, qbB, qbA, qbz, ↓qck, ↓qcj, ↓qcm, ↓qcl, qbV, ↓qbQ, ↓qbP, ↓qbR, qby, qcI, qcJ, qaI, behindInMarks, lastMarks, Option.map_some, List.contains_cons, List.map_cons, List.map_nil, String.reduceBEq, String.reduceEq, Bool.and_true, Bool.true_and, Bool.and_false, Bool.false_and, Bool.or_true, Bool.true_or, Bool.or_false, Bool.false_or, Bool.not_true, Bool.not_false, and_true, true_and, exists_eq_left', exists_eq_left, beq_self_eq_true, List.length_cons, List.length_nil, Nat.reduceAdd, Nat.zero_add, Nat.reduceLeDiff, decide_true, decide_false, if_false, if_true, reduceCtorEq, N21, ↓U21]
          exact ⟨by omega, by omega, hK⟩
        · obtain ⟨ht, rfl⟩ := intsUp_at hd
          rw [Int.zero_add] at ht ⊢
          subst hτ
          simp (maxSteps := 1000000) (dsimp := false) only [↓qaG, ↓qaH, ↓qcp, ↓qco, ↓qcn, ↓qcq, ↓qa4, ↓qbG, ↓qbF, ↓qaa, ↓qac, ↓qab, ↓qba, ↓qbe, ↓qa6, ↓qbi, ↓qa5, ↓qbf, ↓qbb, ↓qa9, ↓qbh, ↓qbd, ↓qbg, ↓qcL, ↓qcK, ↓qcM, ↓qb4, ↓qbk, ↓qbj, ↓qaF, ↓qaE, ↓qcN, ↓qcO, ↓qa8, ↓qa7, ↓qbc, ↓qcT, ↓qcP, ↓qcR, ↓qcS, ↓qcQ, ↓qbl, ↓qbt, ↓qbs, ↓qbm, ↓qbo, ↓qbq, ↓qbu, ↓qbp, ↓qbr, ↓qbn, ↓qbW, ↓qbX, ↓qaf, ↓qae, ↓qag, ↓qaP, ↓qaO, ↓qaK, ↓qaJ, ↓qaL, ↓qaM, ↓qaN, ↓qaZ, ↓qbU, ↓qbH, ↓qbI, ↓qbJ, ↓qbK, ↓qcf, ↓qcg, ↓qch, ↓qci, ↓qa1, ↓qa3, ↓qa0, ↓qa2, ↓qar, ↓qaA, ↓qaw, ↓qav, ↓qau, ↓qay, ↓qaz, ↓qas, ↓qax, ↓qaB, ↓qat, ↓qcV, ↓qcU, ↓qaQ, ↓qaW, ↓qaV, ↓qaU, ↓qcF, ↓qcC, ↓qcz, ↓qcG, ↓qcA, ↓qcD, ↓qcE, ↓qcH, ↓qcB, ↓qb5, ↓qb3, ↓qb2, ↓qb1, ↓qbZ, ↓qbY, ↓qb0, ↓qcx, ↓qcv, ↓qcw, ↓qcu, ↓qcy, ↓qb9, ↓qcb, ↓qb6, ↓qce, ↓qcc, ↓qb8, ↓qca, ↓qcd, ↓qb7, ↓qaY, ↓qan, ↓qai, ↓qaj, ↓qam, ↓qak, ↓qal, ↓qct, ↓qcs, ↓qcr, ↓qaq, ↓qao, ↓qap, ↓qbv, ↓qah, ↓qbS, ↓qbC, ↓qaD, ↓qaC, ↓qbx, ↓qbw, ↓qcW, ↓qbT, ↓qbM, ↓qbN, ↓qbL, ↓qbD, ↓qbE, ↓qbO, qad, qbB, qbA, qbz, ↓qck, ↓qcj, ↓qcm, ↓qcl, qbV, ↓qbQ, ↓qbP, ↓qbR, qby, qcI, qcJ, qaI, behindInMarks, lastMarks, Option.map_some, List.contains_cons, List.map_cons, List.map_nil, String.reduceBEq, String.reduceEq, Bool.and_true, Bool.true_and, Bool.and_false, Bool.false_and, Bool.or_true, Bool.true_or, Bool.or_false, Bool.false_or, Bool.not_true, Bool.not_false, and_true, true_and, exists_eq_left', exists_eq_left, beq_self_eq_true, List.length_cons, List.length_nil, Nat.reduceAdd, Nat.zero_add, Nat.reduceLeDiff, decide_true, decide_false, if_false, if_true, reduceCtorEq, N21, ↓U21]
          obtain ⟨r, hr, hrm⟩ := row_at (rs := rs) (i := (t : Int)) (by omega) (by omega)
          obtain ⟨q, hq, hqm⟩ := row_at (rs := rs) (i := (t : Int) + 1) (by omega) (by omega)
          have hr' : rs[t]? = some r := by simpa using hr
          have hq' : rs[t + 1]? = some q := by
            rw [show ((t : Int) + 1).toNat = t + 1 by omega] at hq
            exact hq
          simp (maxSteps := 1000000) (dsimp := false) only [↓qaG, ↓qaH, ↓qcp, ↓qco, ↓qcn, ↓qcq, ↓qa4, ↓qbG, ↓qbF, ↓qaa, ↓qac, ↓qab, ↓qba, ↓qbe, ↓qa6, ↓qbi, ↓qa5, ↓qbf, ↓qbb, ↓qa9, ↓qbh, ↓qbd, ↓qbg, ↓qcL, ↓qcK, ↓qcM, ↓qb4, ↓qbk, ↓qbj, ↓qaF, ↓qaE, ↓qcN, ↓qcO, ↓qa8, ↓qa7, ↓qbc, ↓qcT, ↓qcP, ↓qcR, ↓qcS, ↓qcQ, ↓qbl, ↓qbt, ↓qbs, ↓qbm, ↓qbo, ↓qbq, ↓qbu, ↓qbp, ↓qbr, ↓qbn, ↓qbW, ↓qbX, ↓qaf, ↓qae, ↓qag, ↓qaP, ↓qaO, ↓qaK, ↓qaJ, ↓qaL, ↓qaM, ↓qaN, ↓qaZ, ↓qbU, ↓qbH, ↓qbI, ↓qbJ, ↓qbK, ↓qcf, ↓qcg, ↓qch, ↓qci, ↓qa1, ↓qa3, ↓qa0, ↓qa2, ↓qar, ↓qaA, ↓qaw, ↓qav, ↓qau, ↓qay, ↓qaz, ↓qas, ↓qax, ↓qaB, ↓qat, ↓qcV, ↓qcU, ↓qaQ, ↓qaW, ↓qaV, ↓qaU, ↓qcF, ↓qcC, ↓qcz, ↓qcG, ↓qcA, ↓qcD, ↓qcE, ↓qcH, ↓qcB, ↓qb5, ↓qb3, ↓qb2, ↓qb1, ↓qbZ, ↓qbY, ↓qb0, ↓qcx, ↓qcv, ↓qcw, ↓qcu, ↓qcy, ↓qb9, ↓qcb, ↓qb6, ↓qce, ↓qcc, ↓qb8, ↓qca, ↓qcd, ↓qb7, ↓qaY, ↓qan, ↓qai, ↓qaj, ↓qam, ↓qak, ↓qal, ↓qct, ↓qcs, ↓qcr, ↓qaq, ↓qao, ↓qap, ↓qbv, ↓qah, ↓qbS, ↓qbC, ↓qaD, ↓qaC, ↓qbx, ↓qbw, ↓qcW, ↓qbT, ↓qbM, ↓qbN, ↓qbL, ↓qbD, ↓qbE, ↓qbO, qad, qbB, qbA, qbz, ↓qck, ↓qcj, ↓qcm, ↓qcl, qbV, ↓qbQ, ↓qbP, ↓qbR, qby, qcI, qcJ, qaI, behindInMarks, lastMarks, Option.map_some, List.contains_cons, List.map_cons, List.map_nil, String.reduceBEq, String.reduceEq, Bool.and_true, Bool.true_and, Bool.and_false, Bool.false_and, Bool.or_true, Bool.true_or, Bool.or_false, Bool.false_or, Bool.not_true, Bool.not_false, and_true, true_and, exists_eq_left', exists_eq_left, beq_self_eq_true, List.length_cons, List.length_nil, Nat.reduceAdd, Nat.zero_add, Nat.reduceLeDiff, decide_true, decide_false, if_false, if_true, reduceCtorEq, N21, ↓U21, ↓notin2]
          refine iteB_of (fun hmem => ?_) (fun hmem => ?_)
          · have hmem' : ((t : Int), (t : Int) + 1) ∉ opairs rs := by simpa using hmem
            have hsd : (rs.map rowD).take (t : Int).toNat ++ [rowD q, rowD r] ++ (rs.map rowD).drop ((t : Int) + 2).toNat = (swapAt rs t r q).map rowD := by
              unfold swapAt
              rw [show ((t : Int) + 2).toNat = t + 2 by omega, Int.toNat_natCast, List.map_append, List.map_append, List.map_take, List.map_drop]
              rfl
            have hsv : ∀ x ∈ swapAt rs t r q, VR x := fun x hx => by
              unfold swapAt at hx
              simp only [List.mem_append, List.mem_cons, List.not_mem_nil, or_false] at hx
              rcases hx with (hx | rfl | rfl) | hx
              · exact hv _ (List.mem_of_mem_take hx)
              · exact hv _ hqm
              · exact hv _ hrm
              · exact hv _ (List.mem_of_mem_drop hx)
            have hslen : (swapAt rs t r q).length ≤ 8 := by
              unfold swapAt
              simp only [List.length_append, List.length_take, List.length_drop, List.length_cons, List.length_nil]
              omega
            have hst2 := c_law_stepped hS hp (swapAt rs t r q) hsv hslen (firstsOf S) h6 hfr
            rw [LW.swap t r q hr' hq' hmem'] at hst2
            simp (maxSteps := 1000000) (dsimp := false) only [↓qaG, ↓qaH, ↓qcp, ↓qco, ↓qcn, ↓qcq, ↓qa4, ↓qbG, ↓qbF, ↓qaa, ↓qac, ↓qab, ↓qba, ↓qbe, ↓qa6, ↓qbi, ↓qa5, ↓qbf, ↓qbb, ↓qa9, ↓qbh, ↓qbd, ↓qbg, ↓qcL, ↓qcK, ↓qcM, ↓qb4, ↓qbk, ↓qbj, ↓qaF, ↓qaE, ↓qcN, ↓qcO, ↓qa8, ↓qa7, ↓qbc, ↓qcT, ↓qcP, ↓qcR, ↓qcS, ↓qcQ, ↓qbl, ↓qbt, ↓qbs, ↓qbm, ↓qbo, ↓qbq, ↓qbu, ↓qbp, ↓qbr, ↓qbn, ↓qbW, ↓qbX, ↓qaf, ↓qae, ↓qag, ↓qaP, ↓qaO, ↓qaK, ↓qaJ, ↓qaL, ↓qaM, ↓qaN, ↓qaZ, ↓qbU, ↓qbH, ↓qbI, ↓qbJ, ↓qbK, ↓qcf, ↓qcg, ↓qch, ↓qci, ↓qa1, ↓qa3, ↓qa0, ↓qa2, ↓qar, ↓qaA, ↓qaw, ↓qav, ↓qau, ↓qay, ↓qaz, ↓qas, ↓qax, ↓qaB, ↓qat, ↓qcV, ↓qcU, ↓qaQ, ↓qaW, ↓qaV, ↓qaU, ↓qcF, ↓qcC, ↓qcz, ↓qcG, ↓qcA, ↓qcD, ↓qcE, ↓qcH, ↓qcB, ↓qb5, ↓qb3, ↓qb2, ↓qb1, ↓qbZ, ↓qbY, ↓qb0, ↓qcx, ↓qcv, ↓qcw, ↓qcu, ↓qcy, ↓qb9, ↓qcb, ↓qb6, ↓qce, ↓qcc, ↓qb8, ↓qca, ↓qcd, ↓qb7, ↓qaY, ↓qan, ↓qai, ↓qaj, ↓qam, ↓qak, ↓qal, ↓qct, ↓qcs, ↓qcr, ↓qaq, ↓qao, ↓qap, ↓qbv, ↓qah, ↓qbS, ↓qbC, ↓qaD, ↓qaC, ↓qbx, ↓qbw, ↓qcW, ↓qbT, ↓qbM, ↓qbN, ↓qbL, ↓qbD, ↓qbE, ↓qbO, qad, qbB, qbA, qbz, ↓qck, ↓qcj, ↓qcm, ↓qcl, qbV, ↓qbQ, ↓qbP, ↓qbR, qby, qcI, qcJ, qaI, behindInMarks, lastMarks, Option.map_some, List.contains_cons, List.map_cons, List.map_nil, String.reduceBEq, String.reduceEq, Bool.and_true, Bool.true_and, Bool.and_false, Bool.false_and, Bool.or_true, Bool.true_or, Bool.or_false, Bool.false_or, Bool.not_true, Bool.not_false, and_true, true_and, exists_eq_left', exists_eq_left, beq_self_eq_true, List.length_cons, List.length_nil, Nat.reduceAdd, Nat.zero_add, Nat.reduceLeDiff, decide_true, decide_false, if_false, if_true, reduceCtorEq, N21, ↓U21, ↓slice_upto (k := (t : Int)) (by omega), ↓slice_from (k := (t : Int) + 2) (by omega), ↓itemW_rowL (i := (t : Int)) (by omega) (by omega) hr, ↓itemW_rowL (i := (t : Int) + 1) (by omega) (by omega) hq, List.length_map]
            refine ⟨by omega, ?_, by omega, ?_, hst.isFn, ?_⟩
            · rw [List.length_take, List.length_map]; omega
            · simp only [List.length_append, List.length_take, List.length_drop, List.length_cons, List.length_nil, List.length_map]; omega
            rw [hsd]
            refine useC_of (hst2.le (by decide)) ?_
            simp (maxSteps := 1000000) (dsimp := false) only [↓qaG, ↓qaH, ↓qcp, ↓qco, ↓qcn, ↓qcq, ↓qa4, ↓qbG, ↓qbF, ↓qaa, ↓qac, ↓qab, ↓qba, ↓qbe, ↓qa6, ↓qbi, ↓qa5, ↓qbf, ↓qbb, ↓qa9, ↓qbh, ↓qbd, ↓qbg, ↓qcL, ↓qcK, ↓qcM, ↓qb4, ↓qbk, ↓qbj, ↓qaF, ↓qaE, ↓qcN, ↓qcO, ↓qa8, ↓qa7, ↓qbc, ↓qcT, ↓qcP, ↓qcR, ↓qcS, ↓qcQ, ↓qbl, ↓qbt, ↓qbs, ↓qbm, ↓qbo, ↓qbq, ↓qbu, ↓qbp, ↓qbr, ↓qbn, ↓qbW, ↓qbX, ↓qaf, ↓qae, ↓qag, ↓qaP, ↓qaO, ↓qaK, ↓qaJ, ↓qaL, ↓qaM, ↓qaN, ↓qaZ, ↓qbU, ↓qbH, ↓qbI, ↓qbJ, ↓qbK, ↓qcf, ↓qcg, ↓qch, ↓qci, ↓qa1, ↓qa3, ↓qa0, ↓qa2, ↓qar, ↓qaA, ↓qaw, ↓qav, ↓qau, ↓qay, ↓qaz, ↓qas, ↓qax, ↓qaB, ↓qat, ↓qcV, ↓qcU, ↓qaQ, ↓qaW, ↓qaV, ↓qaU, ↓qcF, ↓qcC, ↓qcz, ↓qcG, ↓qcA, ↓qcD, ↓qcE, ↓qcH, ↓qcB, ↓qb5, ↓qb3, ↓qb2, ↓qb1, ↓qbZ, ↓qbY, ↓qb0, ↓qcx, ↓qcv, ↓qcw, ↓qcu, ↓qcy, ↓qb9, ↓qcb, ↓qb6, ↓qce, ↓qcc, ↓qb8, ↓qca, ↓qcd, ↓qb7, ↓qaY, ↓qan, ↓qai, ↓qaj, ↓qam, ↓qak, ↓qal, ↓qct, ↓qcs, ↓qcr, ↓qaq, ↓qao, ↓qap, ↓qbv, ↓qah, ↓qbS, ↓qbC, ↓qaD, ↓qaC, ↓qbx, ↓qbw, ↓qcW, ↓qbT, ↓qbM, ↓qbN, ↓qbL, ↓qbD, ↓qbE, ↓qbO, qad, qbB, qbA, qbz, ↓qck, ↓qcj, ↓qcm, ↓qcl, qbV, ↓qbQ, ↓qbP, ↓qbR, qby, qcI, qcJ, qaI, behindInMarks, lastMarks, Option.map_some, List.contains_cons, List.map_cons, List.map_nil, String.reduceBEq, String.reduceEq, Bool.and_true, Bool.true_and, Bool.and_false, Bool.false_and, Bool.or_true, Bool.true_or, Bool.or_false, Bool.false_or, Bool.not_true, Bool.not_false, and_true, true_and, exists_eq_left', exists_eq_left, beq_self_eq_true, List.length_cons, List.length_nil, Nat.reduceAdd, Nat.zero_add, Nat.reduceLeDiff, decide_true, decide_false, if_false, if_true, reduceCtorEq, N21, ↓U21, ↓ne_fin (run_last (rs := rs) (m := ⟨firstsOf S, [], 5, .none⟩) (.inl rfl))]
            (refine ⟨_, sub_Z ?_, rfl⟩; repeat (first | exact subV_n | refine subV_e ?_ | refine subV_d ?_))
          · simp (maxSteps := 1000000) (dsimp := false) only [↓qaG, ↓qaH, ↓qcp, ↓qco, ↓qcn, ↓qcq, ↓qa4, ↓qbG, ↓qbF, ↓qaa, ↓qac, ↓qab, ↓qba, ↓qbe, ↓qa6, ↓qbi, ↓qa5, ↓qbf, ↓qbb, ↓qa9, ↓qbh, ↓qbd, ↓qbg, ↓qcL, ↓qcK, ↓qcM, ↓qb4, ↓qbk, ↓qbj, ↓qaF, ↓qaE, ↓qcN, ↓qcO, ↓qa8, ↓qa7, ↓qbc, ↓qcT, ↓qcP, ↓qcR, ↓qcS, ↓qcQ, ↓qbl, ↓qbt, ↓qbs, ↓qbm, ↓qbo, ↓qbq, ↓qbu, ↓qbp, ↓qbr, ↓qbn, ↓qbW, ↓qbX, ↓qaf, ↓qae, ↓qag, ↓qaP, ↓qaO, ↓qaK, ↓qaJ, ↓qaL, ↓qaM, ↓qaN, ↓qaZ, ↓qbU, ↓qbH, ↓qbI, ↓qbJ, ↓qbK, ↓qcf, ↓qcg, ↓qch, ↓qci, ↓qa1, ↓qa3, ↓qa0, ↓qa2, ↓qar, ↓qaA, ↓qaw, ↓qav, ↓qau, ↓qay, ↓qaz, ↓qas, ↓qax, ↓qaB, ↓qat, ↓qcV, ↓qcU, ↓qaQ, ↓qaW, ↓qaV, ↓qaU, ↓qcF, ↓qcC, ↓qcz, ↓qcG, ↓qcA, ↓qcD, ↓qcE, ↓qcH, ↓qcB, ↓qb5, ↓qb3, ↓qb2, ↓qb1, ↓qbZ, ↓qbY, ↓qb0, ↓qcx, ↓qcv, ↓qcw, ↓qcu, ↓qcy, ↓qb9, ↓qcb, ↓qb6, ↓qce, ↓qcc, ↓qb8, ↓qca, ↓qcd, ↓qb7, ↓qaY, ↓qan, ↓qai, ↓qaj, ↓qam, ↓qak, ↓qal, ↓qct, ↓qcs, ↓qcr, ↓qaq, ↓qao, ↓qap, ↓qbv, ↓qah, ↓qbS, ↓qbC, ↓qaD, ↓qaC, ↓qbx, ↓qbw, ↓qcW, ↓qbT, ↓qbM, ↓qbN, ↓qbL, ↓qbD, ↓qbE, ↓qbO, qad, qbB, qbA, qbz, ↓qck, ↓qcj, ↓qcm, ↓qcl, qbV, ↓qbQ, ↓qbP, ↓qbR, qby, qcI, qcJ, qaI, behindInMarks, lastMarks, Option.map_some, List.contains_cons, List.map_cons, List.map_nil, String.reduceBEq, String.reduceEq, Bool.and_true, Bool.true_and, Bool.and_false, Bool.false_and, Bool.or_true, Bool.true_or, Bool.or_false, Bool.false_or, Bool.not_true, Bool.not_false, and_true, true_and, exists_eq_left', exists_eq_left, beq_self_eq_true, List.length_cons, List.length_nil, Nat.reduceAdd, Nat.zero_add, Nat.reduceLeDiff, decide_true, decide_false, if_false, if_true, reduceCtorEq, N21, ↓U21]
            (refine ⟨_, sub_Z ?_, rfl⟩; repeat (first | exact subV_n | refine subV_e ?_ | refine subV_d ?_))
        · subst hτ
          simp (maxSteps := 1000000) (dsimp := false) only [↓qaG, ↓qaH, ↓qcp, ↓qco, ↓qcn, ↓qcq, ↓qa4, ↓qbG, ↓qbF, ↓qaa, ↓qac, ↓qab, ↓qba, ↓qbe, ↓qa6, ↓qbi, ↓qa5, ↓qbf, ↓qbb, ↓qa9, ↓qbh, ↓qbd, ↓qbg, ↓qcL, ↓qcK, ↓qcM, ↓qb4, ↓qbk, ↓qbj, ↓qaF, ↓qaE, ↓qcN, ↓qcO, ↓qa8, ↓qa7, ↓qbc, ↓qcT, ↓qcP, ↓qcR, ↓qcS, ↓qcQ, ↓qbl, ↓qbt, ↓qbs, ↓qbm, ↓qbo, ↓qbq, ↓qbu, ↓qbp, ↓qbr, ↓qbn, ↓qbW, ↓qbX, ↓qaf, ↓qae, ↓qag, ↓qaP, ↓qaO, ↓qaK, ↓qaJ, ↓qaL, ↓qaM, ↓qaN, ↓qaZ, ↓qbU, ↓qbH, ↓qbI, ↓qbJ, ↓qbK, ↓qcf, ↓qcg, ↓qch, ↓qci, ↓qa1, ↓qa3, ↓qa0, ↓qa2, ↓qar, ↓qaA, ↓qaw, ↓qav, ↓qau, ↓qay, ↓qaz, ↓qas, ↓qax, ↓qaB, ↓qat, ↓qcV, ↓qcU, ↓qaQ, ↓qaW, ↓qaV, ↓qaU, ↓qcF, ↓qcC, ↓qcz, ↓qcG, ↓qcA, ↓qcD, ↓qcE, ↓qcH, ↓qcB, ↓qb5, ↓qb3, ↓qb2, ↓qb1, ↓qbZ, ↓qbY, ↓qb0, ↓qcx, ↓qcv, ↓qcw, ↓qcu, ↓qcy, ↓qb9, ↓qcb, ↓qb6, ↓qce, ↓qcc, ↓qb8, ↓qca, ↓qcd, ↓qb7, ↓qaY, ↓qan, ↓qai, ↓qaj, ↓qam, ↓qak, ↓qal, ↓qct, ↓qcs, ↓qcr, ↓qaq, ↓qao, ↓qap, ↓qbv, ↓qah, ↓qbS, ↓qbC, ↓qaD, ↓qaC, ↓qbx, ↓qbw, ↓qcW, ↓qbT, ↓qbM, ↓qbN, ↓qbL, ↓qbD, ↓qbE, ↓qbO, qad, qbB, qbA, qbz, ↓qck, ↓qcj, ↓qcm, ↓qcl, qbV, ↓qbQ, ↓qbP, ↓qbR, qby, qcI, qcJ, qaI, behindInMarks, lastMarks, Option.map_some, List.contains_cons, List.map_cons, List.map_nil, String.reduceBEq, String.reduceEq, Bool.and_true, Bool.true_and, Bool.and_false, Bool.false_and, Bool.or_true, Bool.true_or, Bool.or_false, Bool.false_or, Bool.not_true, Bool.not_false, and_true, true_and, exists_eq_left', exists_eq_left, beq_self_eq_true, List.length_cons, List.length_nil, Nat.reduceAdd, Nat.zero_add, Nat.reduceLeDiff, decide_true, decide_false, if_false, if_true, reduceCtorEq, N21, ↓U21]
          refine forH_of (items := intsUp 0 (many S)) (own_none rfl) (fun K hK => ?_) (fun _ τ => τ = (Z tb21 [Slot.val (.list (ns.map .int)), Slot.val (.list (S.map .int)), Slot.val (.int (many S)), Slot.val (.list (rs.map rowD)), Slot.val (.list ((firstsOf S).map .int)), Slot.val (.list ((opairs rs).map pairD)), Slot.val (finD (run ⟨firstsOf S, [], 5, .none⟩ rs))])) rfl (fun t d τ hd hτ => ?_) (fun τ hτ => ?_)
          · simp (maxSteps := 1000000) (dsimp := false) only [↓qaG, ↓qaH, ↓qcp, ↓qco, ↓qcn, ↓qcq, ↓qa4, ↓qbG, ↓qbF, ↓qaa, ↓qac, ↓qab, ↓qba, ↓qbe, ↓qa6, ↓qbi, ↓qa5, ↓qbf, ↓qbb, ↓qa9, ↓qbh, ↓qbd, ↓qbg, ↓qcL, ↓qcK, ↓qcM, ↓qb4, ↓qbk, ↓qbj, ↓qaF, ↓qaE, ↓qcN, ↓qcO, ↓qa8, ↓qa7, ↓qbc, ↓qcT, ↓qcP, ↓qcR, ↓qcS, ↓qcQ, ↓qbl, ↓qbt, ↓qbs, ↓qbm, ↓qbo, ↓qbq, ↓qbu, ↓qbp, ↓qbr, ↓qbn, ↓qbW, ↓qbX, ↓qaf, ↓qae, ↓qag, ↓qaP, ↓qaO, ↓qaK, ↓qaJ, ↓qaL, ↓qaM, ↓qaN, ↓qaZ, ↓qbU, ↓qbH, ↓qbI, ↓qbJ, ↓qbK, ↓qcf, ↓qcg, ↓qch, ↓qci, ↓qa1, ↓qa3, ↓qa0, ↓qa2, ↓qar, ↓qaA, ↓qaw, ↓qav, ↓qau, ↓qay, ↓qaz, ↓qas, ↓qax, ↓qaB, ↓qat, ↓qcV, ↓qcU, ↓qaQ, ↓qaW, ↓qaV, ↓qaU, ↓qcF, ↓qcC, ↓qcz, ↓qcG, ↓qcA, ↓qcD, ↓qcE, ↓qcH, ↓qcB, ↓qb5, ↓qb3, ↓qb2, ↓qb1, ↓qbZ, ↓qbY, ↓qb0, ↓qcx, ↓qcv, ↓qcw, ↓qcu, ↓qcy, ↓qb9, ↓qcb, ↓qb6, ↓qce, ↓qcc, ↓qb8, ↓qca, ↓qcd, ↓qb7, ↓qaY, ↓qan, ↓qai, ↓qaj, ↓qam, ↓qak, ↓qal, ↓qct, ↓qcs, ↓qcr, ↓qaq, ↓qao, ↓qap, ↓qbv, ↓qah, ↓qbS, ↓qbC, ↓qaD, ↓qaC, ↓qbx, ↓qbw, ↓qcW, ↓qbT, ↓qbM, ↓qbN, ↓qbL, ↓qbD, ↓qbE, ↓qbO, qad, qbB, qbA, qbz, ↓qck, ↓qcj, ↓qcm, ↓qcl, qbV, ↓qbQ, ↓qbP, ↓qbR, qby, qcI, qcJ, qaI, behindInMarks, lastMarks, Option.map_some, List.contains_cons, List.map_cons, List.map_nil, String.reduceBEq, String.reduceEq, Bool.and_true, Bool.true_and, Bool.and_false, Bool.false_and, Bool.or_true, Bool.true_or, Bool.or_false, Bool.false_or, Bool.not_true, Bool.not_false, and_true, true_and, exists_eq_left', exists_eq_left, beq_self_eq_true, List.length_cons, List.length_nil, Nat.reduceAdd, Nat.zero_add, Nat.reduceLeDiff, decide_true, decide_false, if_false, if_true, reduceCtorEq, N21, ↓U21]
            exact ⟨by omega, by omega, hK⟩
          · obtain ⟨ht, rfl⟩ := intsUp_at hd
            rw [Int.zero_add] at ht ⊢
            subst hτ
            obtain ⟨r, hr, hrm⟩ := row_at (rs := rs) (i := (t : Int)) (by omega) (by omega)
            have hr' : rs[t]? = some r := by simpa using hr
            simp (maxSteps := 1000000) (dsimp := false) only [↓qaG, ↓qaH, ↓qcp, ↓qco, ↓qcn, ↓qcq, ↓qa4, ↓qbG, ↓qbF, ↓qaa, ↓qac, ↓qab, ↓qba, ↓qbe, ↓qa6, ↓qbi, ↓qa5, ↓qbf, ↓qbb, ↓qa9, ↓qbh, ↓qbd, ↓qbg, ↓qcL, ↓qcK, ↓qcM, ↓qb4, ↓qbk, ↓qbj, ↓qaF, ↓qaE, ↓qcN, ↓qcO, ↓qa8, ↓qa7, ↓qbc, ↓qcT, ↓qcP, ↓qcR, ↓qcS, ↓qcQ, ↓qbl, ↓qbt, ↓qbs, ↓qbm, ↓qbo, ↓qbq, ↓qbu, ↓qbp, ↓qbr, ↓qbn, ↓qbW, ↓qbX, ↓qaf, ↓qae, ↓qag, ↓qaP, ↓qaO, ↓qaK, ↓qaJ, ↓qaL, ↓qaM, ↓qaN, ↓qaZ, ↓qbU, ↓qbH, ↓qbI, ↓qbJ, ↓qbK, ↓qcf, ↓qcg, ↓qch, ↓qci, ↓qa1, ↓qa3, ↓qa0, ↓qa2, ↓qar, ↓qaA, ↓qaw, ↓qav, ↓qau, ↓qay, ↓qaz, ↓qas, ↓qax, ↓qaB, ↓qat, ↓qcV, ↓qcU, ↓qaQ, ↓qaW, ↓qaV, ↓qaU, ↓qcF, ↓qcC, ↓qcz, ↓qcG, ↓qcA, ↓qcD, ↓qcE, ↓qcH, ↓qcB, ↓qb5, ↓qb3, ↓qb2, ↓qb1, ↓qbZ, ↓qbY, ↓qb0, ↓qcx, ↓qcv, ↓qcw, ↓qcu, ↓qcy, ↓qb9, ↓qcb, ↓qb6, ↓qce, ↓qcc, ↓qb8, ↓qca, ↓qcd, ↓qb7, ↓qaY, ↓qan, ↓qai, ↓qaj, ↓qam, ↓qak, ↓qal, ↓qct, ↓qcs, ↓qcr, ↓qaq, ↓qao, ↓qap, ↓qbv, ↓qah, ↓qbS, ↓qbC, ↓qaD, ↓qaC, ↓qbx, ↓qbw, ↓qcW, ↓qbT, ↓qbM, ↓qbN, ↓qbL, ↓qbD, ↓qbE, ↓qbO, qad, qbB, qbA, qbz, ↓qck, ↓qcj, ↓qcm, ↓qcl, qbV, ↓qbQ, ↓qbP, ↓qbR, qby, qcI, qcJ, qaI, behindInMarks, lastMarks, Option.map_some, List.contains_cons, List.map_cons, List.map_nil, String.reduceBEq, String.reduceEq, Bool.and_true, Bool.true_and, Bool.and_false, Bool.false_and, Bool.or_true, Bool.true_or, Bool.or_false, Bool.false_or, Bool.not_true, Bool.not_false, and_true, true_and, exists_eq_left', exists_eq_left, beq_self_eq_true, List.length_cons, List.length_nil, Nat.reduceAdd, Nat.zero_add, Nat.reduceLeDiff, decide_true, decide_false, if_false, if_true, reduceCtorEq, N21, ↓U21, ↓itemW_rowL (i := (t : Int)) (by omega) (by omega) hr, ↓in_st]
            refine iteB_of (fun hst => ?_) (fun hst => ?_)
            · simp (maxSteps := 1000000) (dsimp := false) only [↓qaG, ↓qaH, ↓qcp, ↓qco, ↓qcn, ↓qcq, ↓qa4, ↓qbG, ↓qbF, ↓qaa, ↓qac, ↓qab, ↓qba, ↓qbe, ↓qa6, ↓qbi, ↓qa5, ↓qbf, ↓qbb, ↓qa9, ↓qbh, ↓qbd, ↓qbg, ↓qcL, ↓qcK, ↓qcM, ↓qb4, ↓qbk, ↓qbj, ↓qaF, ↓qaE, ↓qcN, ↓qcO, ↓qa8, ↓qa7, ↓qbc, ↓qcT, ↓qcP, ↓qcR, ↓qcS, ↓qcQ, ↓qbl, ↓qbt, ↓qbs, ↓qbm, ↓qbo, ↓qbq, ↓qbu, ↓qbp, ↓qbr, ↓qbn, ↓qbW, ↓qbX, ↓qaf, ↓qae, ↓qag, ↓qaP, ↓qaO, ↓qaK, ↓qaJ, ↓qaL, ↓qaM, ↓qaN, ↓qaZ, ↓qbU, ↓qbH, ↓qbI, ↓qbJ, ↓qbK, ↓qcf, ↓qcg, ↓qch, ↓qci, ↓qa1, ↓qa3, ↓qa0, ↓qa2, ↓qar, ↓qaA, ↓qaw, ↓qav, ↓qau, ↓qay, ↓qaz, ↓qas, ↓qax, ↓qaB, ↓qat, ↓qcV, ↓qcU, ↓qaQ, ↓qaW, ↓qaV, ↓qaU, ↓qcF, ↓qcC, ↓qcz, ↓qcG, ↓qcA, ↓qcD, ↓qcE, ↓qcH, ↓qcB, ↓qb5, ↓qb3, ↓qb2, ↓qb1, ↓qbZ, ↓qbY, ↓qb0, ↓qcx, ↓qcv, ↓qcw, ↓qcu, ↓qcy, ↓qb9, ↓qcb, ↓qb6, ↓qce, ↓qcc, ↓qb8, ↓qca, ↓qcd, ↓qb7, ↓qaY, ↓qan, ↓qai, ↓qaj, ↓qam, ↓qak, ↓qal, ↓qct, ↓qcs, ↓qcr, ↓qaq, ↓qao, ↓qap, ↓qbv, ↓qah, ↓qbS, ↓qbC, ↓qaD, ↓qaC, ↓qbx, ↓qbw, ↓qcW, ↓qbT, ↓qbM, ↓qbN, ↓qbL, ↓qbD, ↓qbE, ↓qbO, qad, qbB, qbA, qbz, ↓qck, ↓qcj, ↓qcm, ↓qcl, qbV, ↓qbQ, ↓qbP, ↓qbR, qby, qcI, qcJ, qaI, behindInMarks, lastMarks, Option.map_some, List.contains_cons, List.map_cons, List.map_nil, String.reduceBEq, String.reduceEq, Bool.and_true, Bool.true_and, Bool.and_false, Bool.false_and, Bool.or_true, Bool.true_or, Bool.or_false, Bool.false_or, Bool.not_true, Bool.not_false, and_true, true_and, exists_eq_left', exists_eq_left, beq_self_eq_true, List.length_cons, List.length_nil, Nat.reduceAdd, Nat.zero_add, Nat.reduceLeDiff, decide_true, decide_false, if_false, if_true, reduceCtorEq, N21, ↓U21]
              (refine ⟨_, sub_Z ?_, rfl⟩; repeat (first | exact subV_n | refine subV_e ?_ | refine subV_d ?_))
            · simp (maxSteps := 1000000) (dsimp := false) only [↓qaG, ↓qaH, ↓qcp, ↓qco, ↓qcn, ↓qcq, ↓qa4, ↓qbG, ↓qbF, ↓qaa, ↓qac, ↓qab, ↓qba, ↓qbe, ↓qa6, ↓qbi, ↓qa5, ↓qbf, ↓qbb, ↓qa9, ↓qbh, ↓qbd, ↓qbg, ↓qcL, ↓qcK, ↓qcM, ↓qb4, ↓qbk, ↓qbj, ↓qaF, ↓qaE, ↓qcN, ↓qcO, ↓qa8, ↓qa7, ↓qbc, ↓qcT, ↓qcP, ↓qcR, ↓qcS, ↓qcQ, ↓qbl, ↓qbt, ↓qbs, ↓qbm, ↓qbo, ↓qbq, ↓qbu, ↓qbp, ↓qbr, ↓qbn, ↓qbW, ↓qbX, ↓qaf, ↓qae, ↓qag, ↓qaP, ↓qaO, ↓qaK, ↓qaJ, ↓qaL, ↓qaM, ↓qaN, ↓qaZ, ↓qbU, ↓qbH, ↓qbI, ↓qbJ, ↓qbK, ↓qcf, ↓qcg, ↓qch, ↓qci, ↓qa1, ↓qa3, ↓qa0, ↓qa2, ↓qar, ↓qaA, ↓qaw, ↓qav, ↓qau, ↓qay, ↓qaz, ↓qas, ↓qax, ↓qaB, ↓qat, ↓qcV, ↓qcU, ↓qaQ, ↓qaW, ↓qaV, ↓qaU, ↓qcF, ↓qcC, ↓qcz, ↓qcG, ↓qcA, ↓qcD, ↓qcE, ↓qcH, ↓qcB, ↓qb5, ↓qb3, ↓qb2, ↓qb1, ↓qbZ, ↓qbY, ↓qb0, ↓qcx, ↓qcv, ↓qcw, ↓qcu, ↓qcy, ↓qb9, ↓qcb, ↓qb6, ↓qce, ↓qcc, ↓qb8, ↓qca, ↓qcd, ↓qb7, ↓qaY, ↓qan, ↓qai, ↓qaj, ↓qam, ↓qak, ↓qal, ↓qct, ↓qcs, ↓qcr, ↓qaq, ↓qao, ↓qap, ↓qbv, ↓qah, ↓qbS, ↓qbC, ↓qaD, ↓qaC, ↓qbx, ↓qbw, ↓qcW, ↓qbT, ↓qbM, ↓qbN, ↓qbL, ↓qbD, ↓qbE, ↓qbO, qad, qbB, qbA, qbz, ↓qck, ↓qcj, ↓qcm, ↓qcl, qbV, ↓qbQ, ↓qbP, ↓qbR, qby, qcI, qcJ, qaI, behindInMarks, lastMarks, Option.map_some, List.contains_cons, List.map_cons, List.map_nil, String.reduceBEq, String.reduceEq, Bool.and_true, Bool.true_and, Bool.and_false, Bool.false_and, Bool.or_true, Bool.true_or, Bool.or_false, Bool.false_or, Bool.not_true, Bool.not_false, and_true, true_and, exists_eq_left', exists_eq_left, beq_self_eq_true, List.length_cons, List.length_nil, Nat.reduceAdd, Nat.zero_add, Nat.reduceLeDiff, decide_true, decide_false, if_false, if_true, reduceCtorEq, N21, ↓U21]
              refine forH_of (items := intsUp ((t : Int) + 1) (many S)) (own_none rfl) (fun K hK => ?_) (fun _ τ => τ = (Z tb21 [Slot.val (.list (ns.map .int)), Slot.val (.list (S.map .int)), Slot.val (.int (many S)), Slot.val (.list (rs.map rowD)), Slot.val (.list ((firstsOf S).map .int)), Slot.val (.list ((opairs rs).map pairD)), Slot.val (finD (run ⟨firstsOf S, [], 5, .none⟩ rs)), Slot.val (.int t)])) rfl (fun u d τ hd hτ => ?_) (fun τ hτ => ?_)
              · simp (maxSteps := 1000000) (dsimp := false) only [↓qaG, ↓qaH, ↓qcp, ↓qco, ↓qcn, ↓qcq, ↓qa4, ↓qbG, ↓qbF, ↓qaa, ↓qac, ↓qab, ↓qba, ↓qbe, ↓qa6, ↓qbi, ↓qa5, ↓qbf, ↓qbb, ↓qa9, ↓qbh, ↓qbd, ↓qbg, ↓qcL, ↓qcK, ↓qcM, ↓qb4, ↓qbk, ↓qbj, ↓qaF, ↓qaE, ↓qcN, ↓qcO, ↓qa8, ↓qa7, ↓qbc, ↓qcT, ↓qcP, ↓qcR, ↓qcS, ↓qcQ, ↓qbl, ↓qbt, ↓qbs, ↓qbm, ↓qbo, ↓qbq, ↓qbu, ↓qbp, ↓qbr, ↓qbn, ↓qbW, ↓qbX, ↓qaf, ↓qae, ↓qag, ↓qaP, ↓qaO, ↓qaK, ↓qaJ, ↓qaL, ↓qaM, ↓qaN, ↓qaZ, ↓qbU, ↓qbH, ↓qbI, ↓qbJ, ↓qbK, ↓qcf, ↓qcg, ↓qch, ↓qci, ↓qa1, ↓qa3, ↓qa0, ↓qa2, ↓qar, ↓qaA, ↓qaw, ↓qav, ↓qau, ↓qay, ↓qaz, ↓qas, ↓qax, ↓qaB, ↓qat, ↓qcV, ↓qcU, ↓qaQ, ↓qaW, ↓qaV, ↓qaU, ↓qcF, ↓qcC, ↓qcz, ↓qcG, ↓qcA, ↓qcD, ↓qcE, ↓qcH, ↓qcB, ↓qb5, ↓qb3, ↓qb2, ↓qb1, ↓qbZ, ↓qbY, ↓qb0, ↓qcx, ↓qcv, ↓qcw, ↓qcu, ↓qcy, ↓qb9, ↓qcb, ↓qb6, ↓qce, ↓qcc, ↓qb8, ↓qca, ↓qcd, ↓qb7, ↓qaY, ↓qan, ↓qai, ↓qaj, ↓qam, ↓qak, ↓qal, ↓qct, ↓qcs, ↓qcr, ↓qaq, ↓qao, ↓qap, ↓qbv, ↓qah, ↓qbS, ↓qbC, ↓qaD, ↓qaC, ↓qbx, ↓qbw, ↓qcW, ↓qbT, ↓qbM, ↓qbN, ↓qbL, ↓qbD, ↓qbE, ↓qbO, qad, qbB, qbA, qbz, ↓qck, ↓qcj, ↓qcm, ↓qcl, qbV, ↓qbQ, ↓qbP, ↓qbR, qby, qcI, qcJ, qaI, behindInMarks, lastMarks, Option.map_some, List.contains_cons, List.map_cons, List.map_nil, String.reduceBEq, String.reduceEq, Bool.and_true, Bool.true_and, Bool.and_false, Bool.false_and, Bool.or_true, Bool.true_or, Bool.or_false, Bool.false_or, Bool.not_true, Bool.not_false, and_true, true_and, exists_eq_left', exists_eq_left, beq_self_eq_true, List.length_cons, List.length_nil, Nat.reduceAdd, Nat.zero_add, Nat.reduceLeDiff, decide_true, decide_false, if_false, if_true, reduceCtorEq, N21, ↓U21]
                exact ⟨by omega, by omega, by omega, by omega, hK⟩
              · obtain ⟨hu, rfl⟩ := intsUp_at hd
                subst hτ
                obtain ⟨q, hq, hqm⟩ := row_at (rs := rs) (i := (t : Int) + 1 + (u : Int)) (by omega) (by omega)
                have hq' : rs[t + 1 + u]? = some q := by
                  rw [show ((t : Int) + 1 + (u : Int)).toNat = t + 1 + u by omega] at hq
                  exact hq
                have hrd := LW.reads t (t + 1 + u) r q (by omega) hr' hq' hst
                rw [show ((t + 1 + u : Nat) : Int) = (t : Int) + 1 + (u : Int) by omega] at hrd
                cases h1 : q.op.isSt
                · cases h2 : decide (q.op = .mov)
                  · cases h3 : (q.a == r.a)
                    · simp (maxSteps := 1000000) (dsimp := false) only [↓qaG, ↓qaH, ↓qcp, ↓qco, ↓qcn, ↓qcq, ↓qa4, ↓qbG, ↓qbF, ↓qaa, ↓qac, ↓qab, ↓qba, ↓qbe, ↓qa6, ↓qbi, ↓qa5, ↓qbf, ↓qbb, ↓qa9, ↓qbh, ↓qbd, ↓qbg, ↓qcL, ↓qcK, ↓qcM, ↓qb4, ↓qbk, ↓qbj, ↓qaF, ↓qaE, ↓qcN, ↓qcO, ↓qa8, ↓qa7, ↓qbc, ↓qcT, ↓qcP, ↓qcR, ↓qcS, ↓qcQ, ↓qbl, ↓qbt, ↓qbs, ↓qbm, ↓qbo, ↓qbq, ↓qbu, ↓qbp, ↓qbr, ↓qbn, ↓qbW, ↓qbX, ↓qaf, ↓qae, ↓qag, ↓qaP, ↓qaO, ↓qaK, ↓qaJ, ↓qaL, ↓qaM, ↓qaN, ↓qaZ, ↓qbU, ↓qbH, ↓qbI, ↓qbJ, ↓qbK, ↓qcf, ↓qcg, ↓qch, ↓qci, ↓qa1, ↓qa3, ↓qa0, ↓qa2, ↓qar, ↓qaA, ↓qaw, ↓qav, ↓qau, ↓qay, ↓qaz, ↓qas, ↓qax, ↓qaB, ↓qat, ↓qcV, ↓qcU, ↓qaQ, ↓qaW, ↓qaV, ↓qaU, ↓qcF, ↓qcC, ↓qcz, ↓qcG, ↓qcA, ↓qcD, ↓qcE, ↓qcH, ↓qcB, ↓qb5, ↓qb3, ↓qb2, ↓qb1, ↓qbZ, ↓qbY, ↓qb0, ↓qcx, ↓qcv, ↓qcw, ↓qcu, ↓qcy, ↓qb9, ↓qcb, ↓qb6, ↓qce, ↓qcc, ↓qb8, ↓qca, ↓qcd, ↓qb7, ↓qaY, ↓qan, ↓qai, ↓qaj, ↓qam, ↓qak, ↓qal, ↓qct, ↓qcs, ↓qcr, ↓qaq, ↓qao, ↓qap, ↓qbv, ↓qah, ↓qbS, ↓qbC, ↓qaD, ↓qaC, ↓qbx, ↓qbw, ↓qcW, ↓qbT, ↓qbM, ↓qbN, ↓qbL, ↓qbD, ↓qbE, ↓qbO, qad, qbB, qbA, qbz, ↓qck, ↓qcj, ↓qcm, ↓qcl, qbV, ↓qbQ, ↓qbP, ↓qbR, qby, qcI, qcJ, qaI, behindInMarks, lastMarks, Option.map_some, List.contains_cons, List.map_cons, List.map_nil, String.reduceBEq, String.reduceEq, Bool.and_true, Bool.true_and, Bool.and_false, Bool.false_and, Bool.or_true, Bool.true_or, Bool.or_false, Bool.false_or, Bool.not_true, Bool.not_false, and_true, true_and, exists_eq_left', exists_eq_left, beq_self_eq_true, List.length_cons, List.length_nil, Nat.reduceAdd, Nat.zero_add, Nat.reduceLeDiff, decide_true, decide_false, if_false, if_true, reduceCtorEq, N21, ↓U21, ↓itemW_rowL (i := (t : Int) + 1 + (u : Int)) (by omega) (by omega) hq, ↓itemW_rowL (i := (t : Int)) (by omega) (by omega) hr, rowD, ↓in_st, ↓notin_st, ↓eq_MOV, ↓notin2, h1, h2, h3]
                      (refine ⟨_, sub_Z ?_, rfl⟩; repeat (first | exact subV_n | refine subV_e ?_ | refine subV_d ?_))
                    · have hb : decide (((t : Int), (t : Int) + 1 + (u : Int)) ∈ opairs rs) = true := decide_eq_true (hrd (.inl ⟨h1, eq_of_beq h3⟩))
                      simp (maxSteps := 1000000) (dsimp := false) only [↓qaG, ↓qaH, ↓qcp, ↓qco, ↓qcn, ↓qcq, ↓qa4, ↓qbG, ↓qbF, ↓qaa, ↓qac, ↓qab, ↓qba, ↓qbe, ↓qa6, ↓qbi, ↓qa5, ↓qbf, ↓qbb, ↓qa9, ↓qbh, ↓qbd, ↓qbg, ↓qcL, ↓qcK, ↓qcM, ↓qb4, ↓qbk, ↓qbj, ↓qaF, ↓qaE, ↓qcN, ↓qcO, ↓qa8, ↓qa7, ↓qbc, ↓qcT, ↓qcP, ↓qcR, ↓qcS, ↓qcQ, ↓qbl, ↓qbt, ↓qbs, ↓qbm, ↓qbo, ↓qbq, ↓qbu, ↓qbp, ↓qbr, ↓qbn, ↓qbW, ↓qbX, ↓qaf, ↓qae, ↓qag, ↓qaP, ↓qaO, ↓qaK, ↓qaJ, ↓qaL, ↓qaM, ↓qaN, ↓qaZ, ↓qbU, ↓qbH, ↓qbI, ↓qbJ, ↓qbK, ↓qcf, ↓qcg, ↓qch, ↓qci, ↓qa1, ↓qa3, ↓qa0, ↓qa2, ↓qar, ↓qaA, ↓qaw, ↓qav, ↓qau, ↓qay, ↓qaz, ↓qas, ↓qax, ↓qaB, ↓qat, ↓qcV, ↓qcU, ↓qaQ, ↓qaW, ↓qaV, ↓qaU, ↓qcF, ↓qcC, ↓qcz, ↓qcG, ↓qcA, ↓qcD, ↓qcE, ↓qcH, ↓qcB, ↓qb5, ↓qb3, ↓qb2, ↓qb1, ↓qbZ, ↓qbY, ↓qb0, ↓qcx, ↓qcv, ↓qcw, ↓qcu, ↓qcy, ↓qb9, ↓qcb, ↓qb6, ↓qce, ↓qcc, ↓qb8, ↓qca, ↓qcd, ↓qb7, ↓qaY, ↓qan, ↓qai, ↓qaj, ↓qam, ↓qak, ↓qal, ↓qct, ↓qcs, ↓qcr, ↓qaq, ↓qao, ↓qap, ↓qbv, ↓qah, ↓qbS, ↓qbC, ↓qaD, ↓qaC, ↓qbx, ↓qbw, ↓qcW, ↓qbT, ↓qbM, ↓qbN, ↓qbL, ↓qbD, ↓qbE, ↓qbO, qad, qbB, qbA, qbz, ↓qck, ↓qcj, ↓qcm, ↓qcl, qbV, ↓qbQ, ↓qbP, ↓qbR, qby, qcI, qcJ, qaI, behindInMarks, lastMarks, Option.map_some, List.contains_cons, List.map_cons, List.map_nil, String.reduceBEq, String.reduceEq, Bool.and_true, Bool.true_and, Bool.and_false, Bool.false_and, Bool.or_true, Bool.true_or, Bool.or_false, Bool.false_or, Bool.not_true, Bool.not_false, and_true, true_and, exists_eq_left', exists_eq_left, beq_self_eq_true, List.length_cons, List.length_nil, Nat.reduceAdd, Nat.zero_add, Nat.reduceLeDiff, decide_true, decide_false, if_false, if_true, reduceCtorEq, N21, ↓U21, ↓itemW_rowL (i := (t : Int) + 1 + (u : Int)) (by omega) (by omega) hq, ↓itemW_rowL (i := (t : Int)) (by omega) (by omega) hr, rowD, ↓in_st, ↓notin_st, ↓eq_MOV, ↓notin2, h1, h2, h3, hb]
                      (refine ⟨_, sub_Z ?_, rfl⟩; repeat (first | exact subV_n | refine subV_e ?_ | refine subV_d ?_))
                  · cases h3 : (q.a == r.a)
                    · cases h4 : (q.c == r.a)
                      · simp (maxSteps := 1000000) (dsimp := false) only [↓qaG, ↓qaH, ↓qcp, ↓qco, ↓qcn, ↓qcq, ↓qa4, ↓qbG, ↓qbF, ↓qaa, ↓qac, ↓qab, ↓qba, ↓qbe, ↓qa6, ↓qbi, ↓qa5, ↓qbf, ↓qbb, ↓qa9, ↓qbh, ↓qbd, ↓qbg, ↓qcL, ↓qcK, ↓qcM, ↓qb4, ↓qbk, ↓qbj, ↓qaF, ↓qaE, ↓qcN, ↓qcO, ↓qa8, ↓qa7, ↓qbc, ↓qcT, ↓qcP, ↓qcR, ↓qcS, ↓qcQ, ↓qbl, ↓qbt, ↓qbs, ↓qbm, ↓qbo, ↓qbq, ↓qbu, ↓qbp, ↓qbr, ↓qbn, ↓qbW, ↓qbX, ↓qaf, ↓qae, ↓qag, ↓qaP, ↓qaO, ↓qaK, ↓qaJ, ↓qaL, ↓qaM, ↓qaN, ↓qaZ, ↓qbU, ↓qbH, ↓qbI, ↓qbJ, ↓qbK, ↓qcf, ↓qcg, ↓qch, ↓qci, ↓qa1, ↓qa3, ↓qa0, ↓qa2, ↓qar, ↓qaA, ↓qaw, ↓qav, ↓qau, ↓qay, ↓qaz, ↓qas, ↓qax, ↓qaB, ↓qat, ↓qcV, ↓qcU, ↓qaQ, ↓qaW, ↓qaV, ↓qaU, ↓qcF, ↓qcC, ↓qcz, ↓qcG, ↓qcA, ↓qcD, ↓qcE, ↓qcH, ↓qcB, ↓qb5, ↓qb3, ↓qb2, ↓qb1, ↓qbZ, ↓qbY, ↓qb0, ↓qcx, ↓qcv, ↓qcw, ↓qcu, ↓qcy, ↓qb9, ↓qcb, ↓qb6, ↓qce, ↓qcc, ↓qb8, ↓qca, ↓qcd, ↓qb7, ↓qaY, ↓qan, ↓qai, ↓qaj, ↓qam, ↓qak, ↓qal, ↓qct, ↓qcs, ↓qcr, ↓qaq, ↓qao, ↓qap, ↓qbv, ↓qah, ↓qbS, ↓qbC, ↓qaD, ↓qaC, ↓qbx, ↓qbw, ↓qcW, ↓qbT, ↓qbM, ↓qbN, ↓qbL, ↓qbD, ↓qbE, ↓qbO, qad, qbB, qbA, qbz, ↓qck, ↓qcj, ↓qcm, ↓qcl, qbV, ↓qbQ, ↓qbP, ↓qbR, qby, qcI, qcJ, qaI, behindInMarks, lastMarks, Option.map_some, List.contains_cons, List.map_cons, List.map_nil, String.reduceBEq, String.reduceEq, Bool.and_true, Bool.true_and, Bool.and_false, Bool.false_and, Bool.or_true, Bool.true_or, Bool.or_false, Bool.false_or, Bool.not_true, Bool.not_false, and_true, true_and, exists_eq_left', exists_eq_left, beq_self_eq_true, List.length_cons, List.length_nil, Nat.reduceAdd, Nat.zero_add, Nat.reduceLeDiff, decide_true, decide_false, if_false, if_true, reduceCtorEq, N21, ↓U21, ↓itemW_rowL (i := (t : Int) + 1 + (u : Int)) (by omega) (by omega) hq, ↓itemW_rowL (i := (t : Int)) (by omega) (by omega) hr, rowD, ↓in_st, ↓notin_st, ↓eq_MOV, ↓notin2, h1, h2, h3, h4]
                        (refine ⟨_, sub_Z ?_, rfl⟩; repeat (first | exact subV_n | refine subV_e ?_ | refine subV_d ?_))
                      · have hb : decide (((t : Int), (t : Int) + 1 + (u : Int)) ∈ opairs rs) = true := decide_eq_true (hrd (.inr (.inr ⟨of_decide_eq_true h2, eq_of_beq h4⟩)))
                        simp (maxSteps := 1000000) (dsimp := false) only [↓qaG, ↓qaH, ↓qcp, ↓qco, ↓qcn, ↓qcq, ↓qa4, ↓qbG, ↓qbF, ↓qaa, ↓qac, ↓qab, ↓qba, ↓qbe, ↓qa6, ↓qbi, ↓qa5, ↓qbf, ↓qbb, ↓qa9, ↓qbh, ↓qbd, ↓qbg, ↓qcL, ↓qcK, ↓qcM, ↓qb4, ↓qbk, ↓qbj, ↓qaF, ↓qaE, ↓qcN, ↓qcO, ↓qa8, ↓qa7, ↓qbc, ↓qcT, ↓qcP, ↓qcR, ↓qcS, ↓qcQ, ↓qbl, ↓qbt, ↓qbs, ↓qbm, ↓qbo, ↓qbq, ↓qbu, ↓qbp, ↓qbr, ↓qbn, ↓qbW, ↓qbX, ↓qaf, ↓qae, ↓qag, ↓qaP, ↓qaO, ↓qaK, ↓qaJ, ↓qaL, ↓qaM, ↓qaN, ↓qaZ, ↓qbU, ↓qbH, ↓qbI, ↓qbJ, ↓qbK, ↓qcf, ↓qcg, ↓qch, ↓qci, ↓qa1, ↓qa3, ↓qa0, ↓qa2, ↓qar, ↓qaA, ↓qaw, ↓qav, ↓qau, ↓qay, ↓qaz, ↓qas, ↓qax, ↓qaB, ↓qat, ↓qcV, ↓qcU, ↓qaQ, ↓qaW, ↓qaV, ↓qaU, ↓qcF, ↓qcC, ↓qcz, ↓qcG, ↓qcA, ↓qcD, ↓qcE, ↓qcH, ↓qcB, ↓qb5, ↓qb3, ↓qb2, ↓qb1, ↓qbZ, ↓qbY, ↓qb0, ↓qcx, ↓qcv, ↓qcw, ↓qcu, ↓qcy, ↓qb9, ↓qcb, ↓qb6, ↓qce, ↓qcc, ↓qb8, ↓qca, ↓qcd, ↓qb7, ↓qaY, ↓qan, ↓qai, ↓qaj, ↓qam, ↓qak, ↓qal, ↓qct, ↓qcs, ↓qcr, ↓qaq, ↓qao, ↓qap, ↓qbv, ↓qah, ↓qbS, ↓qbC, ↓qaD, ↓qaC, ↓qbx, ↓qbw, ↓qcW, ↓qbT, ↓qbM, ↓qbN, ↓qbL, ↓qbD, ↓qbE, ↓qbO, qad, qbB, qbA, qbz, ↓qck, ↓qcj, ↓qcm, ↓qcl, qbV, ↓qbQ, ↓qbP, ↓qbR, qby, qcI, qcJ, qaI, behindInMarks, lastMarks, Option.map_some, List.contains_cons, List.map_cons, List.map_nil, String.reduceBEq, String.reduceEq, Bool.and_true, Bool.true_and, Bool.and_false, Bool.false_and, Bool.or_true, Bool.true_or, Bool.or_false, Bool.false_or, Bool.not_true, Bool.not_false, and_true, true_and, exists_eq_left', exists_eq_left, beq_self_eq_true, List.length_cons, List.length_nil, Nat.reduceAdd, Nat.zero_add, Nat.reduceLeDiff, decide_true, decide_false, if_false, if_true, reduceCtorEq, N21, ↓U21, ↓itemW_rowL (i := (t : Int) + 1 + (u : Int)) (by omega) (by omega) hq, ↓itemW_rowL (i := (t : Int)) (by omega) (by omega) hr, rowD, ↓in_st, ↓notin_st, ↓eq_MOV, ↓notin2, h1, h2, h3, h4, hb]
                        (refine ⟨_, sub_Z ?_, rfl⟩; repeat (first | exact subV_n | refine subV_e ?_ | refine subV_d ?_))
                    · cases h4 : (q.c == r.a)
                      · have hb : decide (((t : Int), (t : Int) + 1 + (u : Int)) ∈ opairs rs) = true := decide_eq_true (hrd (.inl ⟨h1, eq_of_beq h3⟩))
                        simp (maxSteps := 1000000) (dsimp := false) only [↓qaG, ↓qaH, ↓qcp, ↓qco, ↓qcn, ↓qcq, ↓qa4, ↓qbG, ↓qbF, ↓qaa, ↓qac, ↓qab, ↓qba, ↓qbe, ↓qa6, ↓qbi, ↓qa5, ↓qbf, ↓qbb, ↓qa9, ↓qbh, ↓qbd, ↓qbg, ↓qcL, ↓qcK, ↓qcM, ↓qb4, ↓qbk, ↓qbj, ↓qaF, ↓qaE, ↓qcN, ↓qcO, ↓qa8, ↓qa7, ↓qbc, ↓qcT, ↓qcP, ↓qcR, ↓qcS, ↓qcQ, ↓qbl, ↓qbt, ↓qbs, ↓qbm, ↓qbo, ↓qbq, ↓qbu, ↓qbp, ↓qbr, ↓qbn, ↓qbW, ↓qbX, ↓qaf, ↓qae, ↓qag, ↓qaP, ↓qaO, ↓qaK, ↓qaJ, ↓qaL, ↓qaM, ↓qaN, ↓qaZ, ↓qbU, ↓qbH, ↓qbI, ↓qbJ, ↓qbK, ↓qcf, ↓qcg, ↓qch, ↓qci, ↓qa1, ↓qa3, ↓qa0, ↓qa2, ↓qar, ↓qaA, ↓qaw, ↓qav, ↓qau, ↓qay, ↓qaz, ↓qas, ↓qax, ↓qaB, ↓qat, ↓qcV, ↓qcU, ↓qaQ, ↓qaW, ↓qaV, ↓qaU, ↓qcF, ↓qcC, ↓qcz, ↓qcG, ↓qcA, ↓qcD, ↓qcE, ↓qcH, ↓qcB, ↓qb5, ↓qb3, ↓qb2, ↓qb1, ↓qbZ, ↓qbY, ↓qb0, ↓qcx, ↓qcv, ↓qcw, ↓qcu, ↓qcy, ↓qb9, ↓qcb, ↓qb6, ↓qce, ↓qcc, ↓qb8, ↓qca, ↓qcd, ↓qb7, ↓qaY, ↓qan, ↓qai, ↓qaj, ↓qam, ↓qak, ↓qal, ↓qct, ↓qcs, ↓qcr, ↓qaq, ↓qao, ↓qap, ↓qbv, ↓qah, ↓qbS, ↓qbC, ↓qaD, ↓qaC, ↓qbx, ↓qbw, ↓qcW, ↓qbT, ↓qbM, ↓qbN, ↓qbL, ↓qbD, ↓qbE, ↓qbO, qad, qbB, qbA, qbz, ↓qck, ↓qcj, ↓qcm, ↓qcl, qbV, ↓qbQ, ↓qbP, ↓qbR, qby, qcI, qcJ, qaI, behindInMarks, lastMarks, Option.map_some, List.contains_cons, List.map_cons, List.map_nil, String.reduceBEq, String.reduceEq, Bool.and_true, Bool.true_and, Bool.and_false, Bool.false_and, Bool.or_true, Bool.true_or, Bool.or_false, Bool.false_or, Bool.not_true, Bool.not_false, and_true, true_and, exists_eq_left', exists_eq_left, beq_self_eq_true, List.length_cons, List.length_nil, Nat.reduceAdd, Nat.zero_add, Nat.reduceLeDiff, decide_true, decide_false, if_false, if_true, reduceCtorEq, N21, ↓U21, ↓itemW_rowL (i := (t : Int) + 1 + (u : Int)) (by omega) (by omega) hq, ↓itemW_rowL (i := (t : Int)) (by omega) (by omega) hr, rowD, ↓in_st, ↓notin_st, ↓eq_MOV, ↓notin2, h1, h2, h3, h4, hb]
                        (refine ⟨_, sub_Z ?_, rfl⟩; repeat (first | exact subV_n | refine subV_e ?_ | refine subV_d ?_))
                      · have hb : decide (((t : Int), (t : Int) + 1 + (u : Int)) ∈ opairs rs) = true := decide_eq_true (hrd (.inl ⟨h1, eq_of_beq h3⟩))
                        simp (maxSteps := 1000000) (dsimp := false) only [↓qaG, ↓qaH, ↓qcp, ↓qco, ↓qcn, ↓qcq, ↓qa4, ↓qbG, ↓qbF, ↓qaa, ↓qac, ↓qab, ↓qba, ↓qbe, ↓qa6, ↓qbi, ↓qa5, ↓qbf, ↓qbb, ↓qa9, ↓qbh, ↓qbd, ↓qbg, ↓qcL, ↓qcK, ↓qcM, ↓qb4, ↓qbk, ↓qbj, ↓qaF, ↓qaE, ↓qcN, ↓qcO, ↓qa8, ↓qa7, ↓qbc, ↓qcT, ↓qcP, ↓qcR, ↓qcS, ↓qcQ, ↓qbl, ↓qbt, ↓qbs, ↓qbm, ↓qbo, ↓qbq, ↓qbu, ↓qbp, ↓qbr, ↓qbn, ↓qbW, ↓qbX, ↓qaf, ↓qae, ↓qag, ↓qaP, ↓qaO, ↓qaK, ↓qaJ, ↓qaL, ↓qaM, ↓qaN, ↓qaZ, ↓qbU, ↓qbH, ↓qbI, ↓qbJ, ↓qbK, ↓qcf, ↓qcg, ↓qch, ↓qci, ↓qa1, ↓qa3, ↓qa0, ↓qa2, ↓qar, ↓qaA, ↓qaw, ↓qav, ↓qau, ↓qay, ↓qaz, ↓qas, ↓qax, ↓qaB, ↓qat, ↓qcV, ↓qcU, ↓qaQ, ↓qaW, ↓qaV, ↓qaU, ↓qcF, ↓qcC, ↓qcz, ↓qcG, ↓qcA, ↓qcD, ↓qcE, ↓qcH, ↓qcB, ↓qb5, ↓qb3, ↓qb2, ↓qb1, ↓qbZ, ↓qbY, ↓qb0, ↓qcx, ↓qcv, ↓qcw, ↓qcu, ↓qcy, ↓qb9, ↓qcb, ↓qb6, ↓qce, ↓qcc, ↓qb8, ↓qca, ↓qcd, ↓qb7, ↓qaY, ↓qan, ↓qai, ↓qaj, ↓qam, ↓qak, ↓qal, ↓qct, ↓qcs, ↓qcr, ↓qaq, ↓qao, ↓qap, ↓qbv, ↓qah, ↓qbS, ↓qbC, ↓qaD, ↓qaC, ↓qbx, ↓qbw, ↓qcW, ↓qbT, ↓qbM, ↓qbN, ↓qbL, ↓qbD, ↓qbE, ↓qbO, qad, qbB, qbA, qbz, ↓qck, ↓qcj, ↓qcm, ↓qcl, qbV, ↓qbQ, ↓qbP, ↓qbR, qby, qcI, qcJ, qaI, behindInMarks, lastMarks, Option.map_some, List.contains_cons, List.map_cons, List.map_nil, String.reduceBEq, String.reduceEq, Bool.and_true, Bool.true_and, Bool.and_false, Bool.false_and, Bool.or_true, Bool.true_or, Bool.or_false, Bool.false_or, Bool.not_true, Bool.not_false, and_true, true_and, exists_eq_left', exists_eq_left, beq_self_eq_true, List.length_cons, List.length_nil, Nat.reduceAdd, Nat.zero_add, Nat.reduceLeDiff, decide_true, decide_false, if_false, if_true, reduceCtorEq, N21, ↓U21, ↓itemW_rowL (i := (t : Int) + 1 + (u : Int)) (by omega) (by omega) hq, ↓itemW_rowL (i := (t : Int)) (by omega) (by omega) hr, rowD, ↓in_st, ↓notin_st, ↓eq_MOV, ↓notin2, h1, h2, h3, h4, hb]
                        (refine ⟨_, sub_Z ?_, rfl⟩; repeat (first | exact subV_n | refine subV_e ?_ | refine subV_d ?_))
                · have h2 : decide (q.op = .mov) = false := decide_eq_false fun e => by rw [e] at h1; cases h1
                  cases h3 : (q.a == r.a)
                  · simp (maxSteps := 1000000) (dsimp := false) only [↓qaG, ↓qaH, ↓qcp, ↓qco, ↓qcn, ↓qcq, ↓qa4, ↓qbG, ↓qbF, ↓qaa, ↓qac, ↓qab, ↓qba, ↓qbe, ↓qa6, ↓qbi, ↓qa5, ↓qbf, ↓qbb, ↓qa9, ↓qbh, ↓qbd, ↓qbg, ↓qcL, ↓qcK, ↓qcM, ↓qb4, ↓qbk, ↓qbj, ↓qaF, ↓qaE, ↓qcN, ↓qcO, ↓qa8, ↓qa7, ↓qbc, ↓qcT, ↓qcP, ↓qcR, ↓qcS, ↓qcQ, ↓qbl, ↓qbt, ↓qbs, ↓qbm, ↓qbo, ↓qbq, ↓qbu, ↓qbp, ↓qbr, ↓qbn, ↓qbW, ↓qbX, ↓qaf, ↓qae, ↓qag, ↓qaP, ↓qaO, ↓qaK, ↓qaJ, ↓qaL, ↓qaM, ↓qaN, ↓qaZ, ↓qbU, ↓qbH, ↓qbI, ↓qbJ, ↓qbK, ↓qcf, ↓qcg, ↓qch, ↓qci, ↓qa1, ↓qa3, ↓qa0, ↓qa2, ↓qar, ↓qaA, ↓qaw, ↓qav, ↓qau, ↓qay, ↓qaz, ↓qas, ↓qax, ↓qaB, ↓qat, ↓qcV, ↓qcU, ↓qaQ, ↓qaW, ↓qaV, ↓qaU, ↓qcF, ↓qcC, ↓qcz, ↓qcG, ↓qcA, ↓qcD, ↓qcE, ↓qcH, ↓qcB, ↓qb5, ↓qb3, ↓qb2, ↓qb1, ↓qbZ, ↓qbY, ↓qb0, ↓qcx, ↓qcv, ↓qcw, ↓qcu, ↓qcy, ↓qb9, ↓qcb, ↓qb6, ↓qce, ↓qcc, ↓qb8, ↓qca, ↓qcd, ↓qb7, ↓qaY, ↓qan, ↓qai, ↓qaj, ↓qam, ↓qak, ↓qal, ↓qct, ↓qcs, ↓qcr, ↓qaq, ↓qao, ↓qap, ↓qbv, ↓qah, ↓qbS, ↓qbC, ↓qaD, ↓qaC, ↓qbx, ↓qbw, ↓qcW, ↓qbT, ↓qbM, ↓qbN, ↓qbL, ↓qbD, ↓qbE, ↓qbO, qad, qbB, qbA, qbz, ↓qck, ↓qcj, ↓qcm, ↓qcl, qbV, ↓qbQ, ↓qbP, ↓qbR, qby, qcI, qcJ, qaI, behindInMarks, lastMarks, Option.map_some, List.contains_cons, List.map_cons, List.map_nil, String.reduceBEq, String.reduceEq, Bool.and_true, Bool.true_and, Bool.and_false, Bool.false_and, Bool.or_true, Bool.true_or, Bool.or_false, Bool.false_or, Bool.not_true, Bool.not_false, and_true, true_and, exists_eq_left', exists_eq_left, beq_self_eq_true, List.length_cons, List.length_nil, Nat.reduceAdd, Nat.zero_add, Nat.reduceLeDiff, decide_true, decide_false, if_false, if_true, reduceCtorEq, N21, ↓U21, ↓itemW_rowL (i := (t : Int) + 1 + (u : Int)) (by omega) (by omega) hq, ↓itemW_rowL (i := (t : Int)) (by omega) (by omega) hr, rowD, ↓in_st, ↓notin_st, ↓eq_MOV, ↓notin2, h1, h2, h3]
                    (refine ⟨_, sub_Z ?_, rfl⟩; repeat (first | exact subV_n | refine subV_e ?_ | refine subV_d ?_))
                  · have hb : decide (((t : Int), (t : Int) + 1 + (u : Int)) ∈ opairs rs) = true := decide_eq_true (hrd (.inr (.inl ⟨h1, eq_of_beq h3⟩)))
                    simp (maxSteps := 1000000) (dsimp := false) only [↓qaG, ↓qaH, ↓qcp, ↓qco, ↓qcn, ↓qcq, ↓qa4, ↓qbG, ↓qbF, ↓qaa, ↓qac, ↓qab, ↓qba, ↓qbe, ↓qa6, ↓qbi, ↓qa5, ↓qbf, ↓qbb, ↓qa9, ↓qbh, ↓qbd, ↓qbg, ↓qcL, ↓qcK, ↓qcM, ↓qb4, ↓qbk, ↓qbj, ↓qaF, ↓qaE, ↓qcN, ↓qcO, ↓qa8, ↓qa7, ↓qbc, ↓qcT, ↓qcP, ↓qcR, ↓qcS, ↓qcQ, ↓qbl, ↓qbt, ↓qbs, ↓qbm, ↓qbo, ↓qbq, ↓qbu, ↓qbp, ↓qbr, ↓qbn, ↓qbW, ↓qbX, ↓qaf, ↓qae, ↓qag, ↓qaP, ↓qaO, ↓qaK, ↓qaJ, ↓qaL, ↓qaM, ↓qaN, ↓qaZ, ↓qbU, ↓qbH, ↓qbI, ↓qbJ, ↓qbK, ↓qcf, ↓qcg, ↓qch, ↓qci, ↓qa1, ↓qa3, ↓qa0, ↓qa2, ↓qar, ↓qaA, ↓qaw, ↓qav, ↓qau, ↓qay, ↓qaz, ↓qas, ↓qax, ↓qaB, ↓qat, ↓qcV, ↓qcU, ↓qaQ, ↓qaW, ↓qaV, ↓qaU, ↓qcF, ↓qcC, ↓qcz, ↓qcG, ↓qcA, ↓qcD, ↓qcE, ↓qcH, ↓qcB, ↓qb5, ↓qb3, ↓qb2, ↓qb1, ↓qbZ, ↓qbY, ↓qb0, ↓qcx, ↓qcv, ↓qcw, ↓qcu, ↓qcy, ↓qb9, ↓qcb, ↓qb6, ↓qce, ↓qcc, ↓qb8, ↓qca, ↓qcd, ↓qb7, ↓qaY, ↓qan, ↓qai, ↓qaj, ↓qam, ↓qak, ↓qal, ↓qct, ↓qcs, ↓qcr, ↓qaq, ↓qao, ↓qap, ↓qbv, ↓qah, ↓qbS, ↓qbC, ↓qaD, ↓qaC, ↓qbx, ↓qbw, ↓qcW, ↓qbT, ↓qbM, ↓qbN, ↓qbL, ↓qbD, ↓qbE, ↓qbO, qad, qbB, qbA, qbz, ↓qck, ↓qcj, ↓qcm, ↓qcl, qbV, ↓qbQ, ↓qbP, ↓qbR, qby, qcI, qcJ, qaI, behindInMarks, lastMarks, Option.map_some, List.contains_cons, List.map_cons, List.map_nil, String.reduceBEq, String.reduceEq, Bool.and_true, Bool.true_and, Bool.and_false, Bool.false_and, Bool.or_true, Bool.true_or, Bool.or_false, Bool.false_or, Bool.not_true, Bool.not_false, and_true, true_and, exists_eq_left', exists_eq_left, beq_self_eq_true, List.length_cons, List.length_nil, Nat.reduceAdd, Nat.zero_add, Nat.reduceLeDiff, decide_true, decide_false, if_false, if_true, reduceCtorEq, N21, ↓U21, ↓itemW_rowL (i := (t : Int) + 1 + (u : Int)) (by omega) (by omega) hq, ↓itemW_rowL (i := (t : Int)) (by omega) (by omega) hr, rowD, ↓in_st, ↓notin_st, ↓eq_MOV, ↓notin2, h1, h2, h3, hb]
                    (refine ⟨_, sub_Z ?_, rfl⟩; repeat (first | exact subV_n | refine subV_e ?_ | refine subV_d ?_))
              · subst hτ
                simp (maxSteps := 1000000) (dsimp := false) only [↓qaG, ↓qaH, ↓qcp, ↓qco, ↓qcn, ↓qcq, ↓qa4, ↓qbG, ↓qbF, ↓qaa, ↓qac, ↓qab, ↓qba, ↓qbe, ↓qa6, ↓qbi, ↓qa5, ↓qbf, ↓qbb, ↓qa9, ↓qbh, ↓qbd, ↓qbg, ↓qcL, ↓qcK, ↓qcM, ↓qb4, ↓qbk, ↓qbj, ↓qaF, ↓qaE, ↓qcN, ↓qcO, ↓qa8, ↓qa7, ↓qbc, ↓qcT, ↓qcP, ↓qcR, ↓qcS, ↓qcQ, ↓qbl, ↓qbt, ↓qbs, ↓qbm, ↓qbo, ↓qbq, ↓qbu, ↓qbp, ↓qbr, ↓qbn, ↓qbW, ↓qbX, ↓qaf, ↓qae, ↓qag, ↓qaP, ↓qaO, ↓qaK, ↓qaJ, ↓qaL, ↓qaM, ↓qaN, ↓qaZ, ↓qbU, ↓qbH, ↓qbI, ↓qbJ, ↓qbK, ↓qcf, ↓qcg, ↓qch, ↓qci, ↓qa1, ↓qa3, ↓qa0, ↓qa2, ↓qar, ↓qaA, ↓qaw, ↓qav, ↓qau, ↓qay, ↓qaz, ↓qas, ↓qax, ↓qaB, ↓qat, ↓qcV, ↓qcU, ↓qaQ, ↓qaW, ↓qaV, ↓qaU, ↓qcF, ↓qcC, ↓qcz, ↓qcG, ↓qcA, ↓qcD, ↓qcE, ↓qcH, ↓qcB, ↓qb5, ↓qb3, ↓qb2, ↓qb1, ↓qbZ, ↓qbY, ↓qb0, ↓qcx, ↓qcv, ↓qcw, ↓qcu, ↓qcy, ↓qb9, ↓qcb, ↓qb6, ↓qce, ↓qcc, ↓qb8, ↓qca, ↓qcd, ↓qb7, ↓qaY, ↓qan, ↓qai, ↓qaj, ↓qam, ↓qak, ↓qal, ↓qct, ↓qcs, ↓qcr, ↓qaq, ↓qao, ↓qap, ↓qbv, ↓qah, ↓qbS, ↓qbC, ↓qaD, ↓qaC, ↓qbx, ↓qbw, ↓qcW, ↓qbT, ↓qbM, ↓qbN, ↓qbL, ↓qbD, ↓qbE, ↓qbO, qad, qbB, qbA, qbz, ↓qck, ↓qcj, ↓qcm, ↓qcl, qbV, ↓qbQ, ↓qbP, ↓qbR, qby, qcI, qcJ, qaI, behindInMarks, lastMarks, Option.map_some, List.contains_cons, List.map_cons, List.map_nil, String.reduceBEq, String.reduceEq, Bool.and_true, Bool.true_and, Bool.and_false, Bool.false_and, Bool.or_true, Bool.true_or, Bool.or_false, Bool.false_or, Bool.not_true, Bool.not_false, and_true, true_and, exists_eq_left', exists_eq_left, beq_self_eq_true, List.length_cons, List.length_nil, Nat.reduceAdd, Nat.zero_add, Nat.reduceLeDiff, decide_true, decide_false, if_false, if_true, reduceCtorEq, N21, ↓U21]
                (refine ⟨_, sub_Z ?_, rfl⟩; repeat (first | exact subV_n | refine subV_e ?_ | refine subV_d ?_))
          · subst hτ
            simp (maxSteps := 1000000) (dsimp := false) only [↓qaG, ↓qaH, ↓qcp, ↓qco, ↓qcn, ↓qcq, ↓qa4, ↓qbG, ↓qbF, ↓qaa, ↓qac, ↓qab, ↓qba, ↓qbe, ↓qa6, ↓qbi, ↓qa5, ↓qbf, ↓qbb, ↓qa9, ↓qbh, ↓qbd, ↓qbg, ↓qcL, ↓qcK, ↓qcM, ↓qb4, ↓qbk, ↓qbj, ↓qaF, ↓qaE, ↓qcN, ↓qcO, ↓qa8, ↓qa7, ↓qbc, ↓qcT, ↓qcP, ↓qcR, ↓qcS, ↓qcQ, ↓qbl, ↓qbt, ↓qbs, ↓qbm, ↓qbo, ↓qbq, ↓qbu, ↓qbp, ↓qbr, ↓qbn, ↓qbW, ↓qbX, ↓qaf, ↓qae, ↓qag, ↓qaP, ↓qaO, ↓qaK, ↓qaJ, ↓qaL, ↓qaM, ↓qaN, ↓qaZ, ↓qbU, ↓qbH, ↓qbI, ↓qbJ, ↓qbK, ↓qcf, ↓qcg, ↓qch, ↓qci, ↓qa1, ↓qa3, ↓qa0, ↓qa2, ↓qar, ↓qaA, ↓qaw, ↓qav, ↓qau, ↓qay, ↓qaz, ↓qas, ↓qax, ↓qaB, ↓qat, ↓qcV, ↓qcU, ↓qaQ, ↓qaW, ↓qaV, ↓qaU, ↓qcF, ↓qcC, ↓qcz, ↓qcG, ↓qcA, ↓qcD, ↓qcE, ↓qcH, ↓qcB, ↓qb5, ↓qb3, ↓qb2, ↓qb1, ↓qbZ, ↓qbY, ↓qb0, ↓qcx, ↓qcv, ↓qcw, ↓qcu, ↓qcy, ↓qb9, ↓qcb, ↓qb6, ↓qce, ↓qcc, ↓qb8, ↓qca, ↓qcd, ↓qb7, ↓qaY, ↓qan, ↓qai, ↓qaj, ↓qam, ↓qak, ↓qal, ↓qct, ↓qcs, ↓qcr, ↓qaq, ↓qao, ↓qap, ↓qbv, ↓qah, ↓qbS, ↓qbC, ↓qaD, ↓qaC, ↓qbx, ↓qbw, ↓qcW, ↓qbT, ↓qbM, ↓qbN, ↓qbL, ↓qbD, ↓qbE, ↓qbO, qad, qbB, qbA, qbz, ↓qck, ↓qcj, ↓qcm, ↓qcl, qbV, ↓qbQ, ↓qbP, ↓qbR, qby, qcI, qcJ, qaI, behindInMarks, lastMarks, Option.map_some, List.contains_cons, List.map_cons, List.map_nil, String.reduceBEq, String.reduceEq, Bool.and_true, Bool.true_and, Bool.and_false, Bool.false_and, Bool.or_true, Bool.true_or, Bool.or_false, Bool.false_or, Bool.not_true, Bool.not_false, and_true, true_and, exists_eq_left', exists_eq_left, beq_self_eq_true, List.length_cons, List.length_nil, Nat.reduceAdd, Nat.zero_add, Nat.reduceLeDiff, decide_true, decide_false, if_false, if_true, reduceCtorEq, N21, ↓U21]
end
theorem leP_iff {p q : Int × Int} : leP p q = true ↔ p.1 < q.1 ∨ (p.1 = q.1 ∧ p.2 ≤ q.2) := by
  unfold leP; simp
theorem leP_trans (a b c : Int × Int) (h1 : leP a b = true) (h2 : leP b c = true) : leP a c = true := by
  rw [leP_iff] at *; omega
theorem leP_total (a b : Int × Int) : (leP a b || leP b a) = true := by
  rw [Bool.or_eq_true, leP_iff, leP_iff]; omega
theorem leP_anti {a b : Int × Int} (h1 : leP a b = true) (h2 : leP b a = true) : a = b := by
  rw [leP_iff] at *
  obtain ⟨a1, a2⟩ := a
  obtain ⟨b1, b2⟩ := b
  simp only [Prod.mk.injEq]
  dsimp only at h1 h2
  omega
theorem sortP_eq {ps qs : List (Int × Int)} (h : qs.Perm ps) (hs : qs.Pairwise fun a b => leP a b = true) : sortP ps = qs := by
  unfold sortP
  exact List.Perm.eq_of_pairwise (le := fun a b => leP a b = true) (fun a b _ _ x y => leP_anti x y) (List.pairwise_mergeSort leP_trans leP_total ps) hs ((List.mergeSort_perm ps leP).trans h.symm)
theorem sortP_perm {ps qs : List (Int × Int)} (h : ps.Perm qs) : sortP ps = sortP qs :=
  sortP_eq ((List.mergeSort_perm qs leP).trans h.symm) (List.pairwise_mergeSort leP_trans leP_total qs)
theorem sortP_sorted {ps : List (Int × Int)} (hs : ps.Pairwise fun a b => leP a b = true) : sortP ps = ps := sortP_eq (.refl _) hs
theorem innerP_mem {rs : List Row} {i u : Nat} {p : Int × Int} : p ∈ innerP rs i u ↔ ∃ v, v < u ∧ keepIJ rs i (i + 1 + v) = true ∧ p = ((i : Int), (i : Int) + 1 + (v : Int)) := by
  unfold innerP
  rw [List.mem_map]
  constructor
  · rintro ⟨v, hv, rfl⟩
    obtain ⟨h1, h2⟩ := List.mem_filter.mp hv
    exact ⟨v, List.mem_range.mp h1, h2, rfl⟩
  · rintro ⟨v, h1, h2, rfl⟩
    exact ⟨v, List.mem_filter.mpr ⟨List.mem_range.mpr h1, h2⟩, rfl⟩
theorem outerP_mem {rs : List Row} {t : Nat} {p : Int × Int} : p ∈ outerP rs t ↔ ∃ i, i < t ∧ p ∈ innerP rs i (rs.length - (i + 1)) := by
  unfold outerP
  rw [List.mem_flatMap]
  constructor
  · rintro ⟨i, h1, h2⟩; exact ⟨i, List.mem_range.mp h1, h2⟩
  · rintro ⟨i, h1, h2⟩; exact ⟨i, List.mem_range.mpr h1, h2⟩
theorem opairs_mem {rs : List Row} {p : Int × Int} : p ∈ opairs rs ↔ ∃ i j : Nat, i < j ∧ j < rs.length ∧ keepIJ rs i j = true ∧ p = ((i : Int), (j : Int)) := by
  unfold opairs
  rw [outerP_mem]
  constructor
  · rintro ⟨i, hi, hp⟩
    obtain ⟨v, hv, hk, rfl⟩ := innerP_mem.mp hp
    refine ⟨i, i + 1 + v, by omega, by omega, hk, ?_⟩
    simp only [Prod.mk.injEq, true_and]
    omega
  · rintro ⟨i, j, h1, h2, hk, rfl⟩
    refine ⟨i, by omega, innerP_mem.mpr ⟨j - (i + 1), by omega, ?_, ?_⟩⟩
    · rw [show i + 1 + (j - (i + 1)) = j by omega]; exact hk
    · simp only [Prod.mk.injEq, true_and]
      omega
theorem innerP_sorted (rs : List Row) (i : Nat) : ∀ u, (innerP rs i u).Pairwise fun a b => leP a b = true
  | 0 => by simp [innerP]
  | u + 1 => by
    rw [innerP_succ]
    refine List.pairwise_append.mpr ⟨innerP_sorted rs i u, ?_, fun a ha b hb => ?_⟩
    · split <;> simp
    · obtain ⟨v, hv, _, rfl⟩ := innerP_mem.mp ha
      split at hb
      · rw [List.mem_singleton.mp hb, leP_iff]
        right
        exact ⟨rfl, by show (i : Int) + 1 + (v : Int) ≤ (i : Int) + 1 + (u : Int); omega⟩
      · cases hb
theorem outerP_sorted (rs : List Row) : ∀ t, (outerP rs t).Pairwise fun a b => leP a b = true
  | 0 => by simp [outerP]
  | t + 1 => by
    rw [outerP_succ]
    refine List.pairwise_append.mpr ⟨outerP_sorted rs t, innerP_sorted rs t _, fun a ha b hb => ?_⟩
    obtain ⟨i, hi, hp⟩ := outerP_mem.mp ha
    obtain ⟨v, _, _, rfl⟩ := innerP_mem.mp hp
    obtain ⟨w, _, _, rfl⟩ := innerP_mem.mp hb
    rw [leP_iff]
    left
    show (i : Int) < (t : Int)
    omega
theorem opairs_sorted (rs : List Row) : sortP (opairs rs) = opairs rs := sortP_sorted (outerP_sorted rs _)
theorem thg_nat : thg = ((2 ^ 17 - 1 : Nat) : Int) := by unfold thg; decide
theorem regM_nat (r q : Row) : regM r q = ((((wN r &&& (2 ^ 17 - 1)) &&& (rN q ||| (wN q &&& (2 ^ 17 - 1)))) != 0) || ((rN r &&& (wN q &&& (2 ^ 17 - 1))) != 0)) := by
  unfold regM
  rw [wset_nat, wset_nat, rset_nat, rset_nat, thg_nat]
  simp only [bitAnd_nat, bitOr_nat]
  have e : ∀ n : Nat, ((n : Int) != 0) = (n != 0) := fun n => by
    rw [Bool.eq_iff_iff, bne_iff_ne, bne_iff_ne]; omega
  rw [e, e]
structure Ind (r q : Row) : Prop where
  wr : ∀ i, i < 17 → (wN r).testBit i = true → (rN q).testBit i = false
  ww : ∀ i, i < 17 → (wN r).testBit i = true → (wN q).testBit i = false
  rw : ∀ i, i < 17 → (rN r).testBit i = true → (wN q).testBit i = false
theorem regM_ind {r q : Row} : regM r q = false ↔ Ind r q := by
  rw [regM_nat, Bool.or_eq_false_iff]
  have z : ∀ n : Nat, (n != 0) = false ↔ ∀ i, n.testBit i = false := fun n => by
    constructor
    · intro h i
      have : n = 0 := by simpa using h
      rw [this, Nat.zero_testBit]
    · intro h
      have : n = 0 := Nat.eq_of_testBit_eq fun i => by rw [h i, Nat.zero_testBit]
      rw [this]; rfl
  rw [z, z]
  simp only [Nat.testBit_and, Nat.testBit_or, Nat.testBit_two_pow_sub_one]
  constructor
  · rintro ⟨h1, h2⟩
    refine ⟨fun i hi hw => ?_, fun i hi hw => ?_, fun i hi hr => ?_⟩
    · have := h1 i
      rw [hw, decide_eq_true hi] at this
      simp at this; exact this.1
    · have := h1 i
      rw [hw, decide_eq_true hi] at this
      simp at this; exact this.2
    · have := h2 i
      rw [hr, decide_eq_true hi] at this
      simpa using this
  · intro h
    refine ⟨fun i => ?_, fun i => ?_⟩
    · by_cases hi : i < 17
      · cases hw : (wN r).testBit i
        · simp
        · rw [h.wr i hi hw, h.ww i hi hw]; simp
      · rw [decide_eq_false hi]; simp
    · by_cases hi : i < 17
      · cases hr : (rN r).testBit i
        · simp
        · rw [h.rw i hi hr]; simp
      · rw [decide_eq_false hi]; simp
theorem w_a {r : Row} (h : r.op.isSt = false) : (wN r).testBit r.a.toNat = true := by
  unfold wN
  cases ho : r.op <;> simp only [ho, Op.isSt, reduceCtorEq] at h <;> simp [Nat.testBit_or, Nat.testBit_two_pow_self]
theorem w_mul {r : Row} (h : r.op = .mul) : (wN r).testBit 16 = true := by
  unfold wN
  rw [h]
  rw [Nat.testBit_or, Nat.testBit_two_pow_self, Bool.or_true]
theorem r_st {r : Row} (h : r.op.isSt = true) : (rN r).testBit r.a.toNat = true := by
  unfold rN
  cases ho : r.op <;> simp only [ho, Op.isSt, reduceCtorEq, Bool.false_eq_true] at h <;> simp [Nat.testBit_or, Nat.testBit_two_pow_self]
theorem r_mem {r : Row} (h : r.op.isMem = true) : (rN r).testBit r.b.toNat = true := by
  unfold rN
  cases ho : r.op <;> simp only [ho, Op.isSt, Op.isLd, Op.isMem, reduceCtorEq, Bool.false_eq_true, Bool.or_self] at h <;> simp [Nat.testBit_or, Nat.testBit_two_pow_self]
theorem r_mov {r : Row} (h : r.op = .mov) : (rN r).testBit r.c.toNat = true := by
  unfold rN
  rw [h]
  simp [Nat.testBit_two_pow_self]
theorem reads_meet {r q : Row} (hv : VR r) (hr : r.op.isSt = false) (h : (q.op.isSt = false ∧ q.a = r.a) ∨ (q.op.isSt = true ∧ q.a = r.a) ∨ (q.op = .mov ∧ q.c = r.a)) : regM r q = true := by
  cases hm : regM r q with
  | true => rfl
  | false =>
    have hi := regM_ind.mp hm
    have ha : r.a.toNat < 17 := by have := hv.a1; omega
    have hw := w_a hr
    rcases h with ⟨h1, h2⟩ | ⟨h1, h2⟩ | ⟨h1, h2⟩
    · have := hi.ww _ ha hw
      rw [← h2, w_a h1] at this; cases this
    · have := hi.wr _ ha hw
      rw [← h2, r_st h1] at this; cases this
    · have := hi.wr _ ha hw
      rw [← h2, r_mov h1] at this; cases this
theorem getKV_nil (j : Int) : getKV [] j = none := rfl
theorem getKV_cons (p : Int × Int) (l : List (Int × Int)) (j : Int) : getKV (p :: l) j = if p.1 = j then some p.2 else getKV l j := by
  unfold getKV
  rw [List.find?_cons]
  by_cases h : p.1 = j
  · simp [h]
  · simp [h]
theorem getKV_any {l : List (Int × Int)} {j : Int} (h : l.any (fun kv => kv.1 = j) = false) : getKV l j = none := by
  unfold getKV
  rw [List.find?_eq_none.mpr fun p hp => ?_]
  · rfl
  · have := List.any_eq_false.mp h p hp
    simpa using this
theorem getKV_map {l : List (Int × Int)} {k v j : Int} : getKV (l.map fun kv => if kv.1 = k then (kv.1, v) else kv) j = if j = k then (if l.any (fun kv => kv.1 = k) = true then some v else none) else getKV l j := by
  induction l with
  | nil => simp [getKV_nil]
  | cons p l ih =>
    rw [List.map_cons, getKV_cons, ih, getKV_cons, List.any_cons]
    by_cases h1 : p.1 = k
    · simp only [h1, if_true]
      by_cases h2 : j = k
      · simp [h2]
      · simp [h2, Ne.symm h2]
    · have hd : decide (p.1 = k) = false := decide_eq_false h1
      simp only [hd, Bool.false_or, if_neg h1]
      by_cases h2 : j = k
      · subst h2
        rw [if_neg h1, if_pos rfl, if_pos rfl]
      · rw [if_neg h2, if_neg h2]
theorem getKV_append (l : List (Int × Int)) (p : Int × Int) (j : Int) : getKV (l ++ [p]) j = match getKV l j with | some v => some v | none => if p.1 = j then some p.2 else none := by
  induction l with
  | nil => rw [List.nil_append, getKV_cons]; rfl
  | cons q l ih =>
    rw [List.cons_append, getKV_cons, getKV_cons, ih]
    split <;> rfl
theorem getKV_put (l : List (Int × Int)) (k v j : Int) : getKV (putKV l k v) j = if j = k then some v else getKV l j := by
  unfold putKV
  cases h : l.any fun kv => kv.1 = k
  · rw [if_neg (by simp), getKV_append]
    by_cases hj : j = k
    · rw [if_pos hj, hj, getKV_any h]
      simp
    · rw [if_neg hj]
      cases getKV l j with
      | some v => rfl
      | none => simp [Ne.symm hj]
  · rw [if_pos rfl, getKV_map, h]
    simp
def bt (v x : Int) : Int := Builtin.bitAnd (v.fdiv (2 ^ (8 * x).toNat)) 255
theorem getKV_st (l : List (Int × Int)) (base v j : Int) : ∀ t : Nat, getKV (stC l base v t) j = if base ≤ j ∧ j < base + (t : Int) then some (bt v (j - base)) else getKV l j
  | 0 => by
    unfold stC
    rw [if_neg (by omega)]
  | t + 1 => by
    unfold stC
    rw [getKV_put, getKV_st l base v j t]
    by_cases h1 : j = base + (t : Int)
    · rw [if_pos h1, if_pos (by omega)]
      unfold bt
      rw [show j - base = (t : Int) by omega]
    · rw [if_neg h1]
      by_cases h2 : base ≤ j ∧ j < base + (t : Int)
      · rw [if_pos h2, if_pos (by omega)]
      · rw [if_neg h2, if_neg (by omega)]
theorem ldT_congr {l l' : List (Int × Int)} {base : Int} : ∀ t : Nat, (∀ u : Nat, u < t → getKV l (base + (u : Int)) = getKV l' (base + (u : Int))) → ldT l base t = ldT l' base t
  | 0, _ => rfl
  | t + 1, h => by
    unfold ldT gtC
    rw [ldT_congr t fun u hu => h u (by omega), h t (by omega)]
structure Look (m m' : M) (r : Row) : Prop where
  reg : ∀ i : Int, 0 ≤ i → i < 6 → (rN r).testBit i.toNat = true → hdA m.held i = hdA m'.held i
  high : (rN r).testBit 16 = true → m.high = m'.high
theorem look_b {m m' : M} {r : Row} (h : Look m m' r) (v : VR r) (hm : r.op.isMem = true) : hdA m.held r.b = hdA m'.held r.b := h.reg _ v.b0 v.b1 (r_mem hm)
theorem look_a {m m' : M} {r : Row} (h : Look m m' r) (v : VR r) (hm : r.op.isSt = true) : hdA m.held r.a = hdA m'.held r.a := h.reg _ v.a0 (by have := v.a1; omega) (r_st hm)
theorem look_res {m m' : M} {r : Row} (h : Look m m' r) (v : VR r) : res m r = res m' r := by
  have hb : (rN r).testBit r.b.toNat = true → hdA m.held r.b = hdA m'.held r.b := h.reg _ v.b0 v.b1
  have hc : r.c < 6 → (rN r).testBit r.c.toNat = true → hdA m.held r.c = hdA m'.held r.c := fun h6 => h.reg _ v.c0 h6
  have hcr := v.cr
  have hh := h.high
  unfold rN at hb hc hh
  unfold res
  cases ho : r.op <;> simp only [ho, Op.isMem, Op.isLd, Op.isSt, Nat.testBit_or, Nat.testBit_two_pow_self, Bool.or_true, Bool.true_or, ne_eq, reduceCtorEq, not_false_eq_true, Bool.or_self, forall_const] at hb hc hh hcr ⊢
  all_goals first
    | rw [hb, hc hcr]
    | rw [hb]
    | rw [hc hcr]
    | exact hh
theorem look_val {m m' : M} {r : Row} (h : Look m m' r) (v : VR r) (hc : r.op.isLd = true → ∀ u : Nat, u < wid r.op → getKV m.cells (hdA m.held r.b + r.c + (u : Int)) = getKV m'.cells (hdA m.held r.b + r.c + (u : Int))) : val m r = val m' r := by
  have hr := look_res h v
  have hb := look_b h v
  unfold val
  cases ho : r.op <;> simp only [ho, Op.isLd, Op.isMem, Op.isSt, wid] at hc hb ⊢
  all_goals first
    | rw [hr]
    | (rw [← hb rfl]; exact ldT_congr _ (hc trivial))
structure Sim (m m' : M) : Prop where
  held : m.held = m'.held
  high : m.high = m'.high
  cells : ∀ j, getKV m.cells j = getKV m'.cells j
theorem Sim.look {m m' : M} (h : Sim m m') (r : Row) : Look m m' r := ⟨fun i _ _ _ => by rw [h.held], fun _ => h.high⟩
theorem Sim.val {m m' : M} (h : Sim m m') {r : Row} (v : VR r) : val m r = val m' r := look_val (h.look r) v fun _ u _ => h.cells _
theorem Sim.step {m m' : M} (h : Sim m m') {r : Row} (v : VR r) : Sim (step m r) (step m' r) := by
  refine ⟨?_, ?_, fun j => ?_⟩
  · rw [step_held, step_held, h.held, h.val v]
  · rw [step_high, step_high, h.high, look_res (h.look r) v]
  · rw [step_cells, step_cells]
    split
    · rw [getKV_st, getKV_st, h.held, h.cells]
    · exact h.cells j
theorem Sim.mark {m m' : M} (h : Sim m m') {r : Row} (v : VR r) (hl : r.op.isMem = false ∨ m.last = m'.last) : (Mine.step m r).last = (Mine.step m' r).last := by
  rw [step_mark, step_mark, h.val v]
  rcases hl with hl | hl
  · rw [hl]; rfl
  · rw [hl]
theorem run_sim {rs : List Row} : ∀ {m m' : M}, (∀ r ∈ rs, VR r) → Sim m m' → (m.last = m'.last ∨ ∃ r ∈ rs, r.op.isMem = false) → Sim (run m rs) (run m' rs) ∧ (run m rs).last = (run m' rs).last := by
  induction rs with
  | nil =>
    intro m m' _ h hl
    rcases hl with hl | ⟨r, hr, _⟩
    · exact ⟨h, hl⟩
    · cases hr
  | cons r rs ih =>
    intro m m' hv h hl
    have v := hv r List.mem_cons_self
    refine ih (m := Mine.step m r) (m' := Mine.step m' r) (fun q hq => hv q (List.mem_cons_of_mem _ hq)) (h.step v) ?_
    cases hm : r.op.isMem with
    | false => exact .inl (h.mark v (.inl hm))
    | true =>
      rcases hl with hl | ⟨q, hq, hqm⟩
      · exact .inl (h.mark v (.inr hl))
      · rcases List.mem_cons.mp hq with rfl | hq
        · rw [hm] at hqm; cases hqm
        · exact .inr ⟨q, hq, hqm⟩
theorem fin_eq {m m' : M} {k k' : Nat} (o : Mok m k) (o' : Mok m' k') (h : Sim m m') (hl : m.last = m'.last) : finD m = finD m' := by
  have mem : ∀ {l : List (Int × Int)}, (l.map (·.1)).Nodup → ∀ p, p ∈ l ↔ getKV l p.1 = some p.2 := fun {l} hn p => by
    refine ⟨fun hp => ?_, fun hp => ?_⟩
    · induction l with
      | nil => cases hp
      | cons q l ih =>
        rw [List.map_cons, List.nodup_cons] at hn
        rw [getKV_cons]
        rcases List.mem_cons.mp hp with rfl | hp
        · simp
        · have hne : q.1 ≠ p.1 := fun e => hn.1 (by rw [e]; exact List.mem_map_of_mem hp)
          rw [if_neg hne]
          exact ih hn.2 hp
    · unfold getKV at hp
      cases hf : l.find? fun kv => kv.1 = p.1 with
      | none => rw [hf] at hp; cases hp
      | some q =>
        rw [hf] at hp
        have h1 := List.mem_of_find?_eq_some hf
        have h2 := List.find?_some hf
        simp only [decide_eq_true_eq] at h2
        have h3 : q.2 = p.2 := by simpa using hp
        have : q = p := Prod.ext h2 h3
        exact this ▸ h1
  have nd : ∀ {l : List (Int × Int)}, (l.map (·.1)).Nodup → l.Nodup := fun hn => List.Pairwise.of_map (fun p : Int × Int => p.1) (fun a b h e => h (by rw [e])) hn
  have hp : m.cells.Perm m'.cells := (List.perm_ext_iff_of_nodup (nd o.nd) (nd o'.nd)).mpr fun p => by
    rw [mem o.nd, mem o'.nd, h.cells]
  unfold finD filledOf
  rw [h.held, h.high, hl, sortP_perm (hp.filter _)]
theorem hdA_other {hs : List Int} {i j v : Int} (h0 : 0 ≤ i) (h1 : 0 ≤ j) (h : i ≠ j) : hdA (hs.set i.toNat v) j = hdA hs j := by
  unfold hdA
  rw [List.getD_eq_getElem?_getD, List.getD_eq_getElem?_getD, List.getElem?_set_ne (by omega)]
theorem look_step {m : M} {r q : Row} (v : VR r) (h : ∀ i, i < 17 → (wN r).testBit i = true → (rN q).testBit i = false) : Look m (step m r) q := by
  refine ⟨fun i h0 h6 hi => ?_, fun hi => ?_⟩
  · rw [step_held]
    cases hs : r.op.isSt with
    | true => rw [if_pos rfl]
    | false =>
      rw [if_neg (by simp)]
      have hne : r.a ≠ i := fun e => by
        have := h r.a.toNat (by have := v.a1; omega) (w_a hs)
        rw [e, hi] at this; cases this
      rw [hdA_other v.a0 h0 hne]
  · rw [step_high]
    by_cases hm : r.op = .mul
    · have := h 16 (by decide) (w_mul hm)
      rw [hi] at this; cases this
    · rw [if_neg hm]
structure Ap (r q : Row) : Prop where
  b : r.b = q.b
  c : r.c + (wid r.op : Int) ≤ q.c ∨ q.c + (wid q.op : Int) ≤ r.c
theorem nby_wid (r : Row) : nby r = (wid r.op : Int) := by
  unfold nby wid
  split <;> rfl
theorem memM_ap {r q : Row} (h : memM r q = false) (h1 : r.op.isMem = true) (h2 : q.op.isMem = true) (h3 : (r.op.isLd && q.op.isLd) = false) : Ap r q := by
  unfold memM at h
  rw [h1, h2, h3] at h
  simp only [Bool.not_false, Bool.and_self, Bool.true_and, Bool.or_eq_false_iff, Bool.not_eq_false', bne_eq_false_iff_eq] at h
  refine ⟨h.1, ?_⟩
  have := h.2
  unfold apartB at this
  rw [nby_wid, nby_wid] at this
  simpa using this
theorem val_step {m : M} {r q : Row} (vr : VR r) (vq : VR q) (h : ∀ i, i < 17 → (wN r).testBit i = true → (rN q).testBit i = false)
    (hap : r.op.isSt = true → q.op.isLd = true → Ap r q) : val (step m r) q = val m q := by
  refine (look_val (look_step vr h) vq fun hl u hu => ?_).symm
  rw [step_cells]
  cases hs : r.op.isSt with
  | false => rw [if_neg (by simp)]
  | true =>
    have ap := hap hs hl
    rw [if_pos rfl, getKV_st, if_neg]
    rw [ap.b]
    have := ap.c
    omega
theorem swap_sim {m : M} {r q : Row} (vr : VR r) (vq : VR q) (hi : regM r q = false) (hm : memM r q = false) : Sim (step (step m r) q) (step (step m q) r) := by
  have I := regM_ind.mp hi
  have hrq : ∀ i, i < 17 → (wN r).testBit i = true → (rN q).testBit i = false := I.wr
  have hqr : ∀ i, i < 17 → (wN q).testBit i = true → (rN r).testBit i = false := fun i hi hw => by
    cases h : (rN r).testBit i with
    | false => rfl
    | true => have := I.rw i hi h; rw [hw] at this; cases this
  have Lq : Look m (step m r) q := look_step vr hrq
  have Lr : Look m (step m q) r := look_step vq hqr
  have apq : r.op.isSt = true → q.op.isLd = true → Ap r q := fun a b => memM_ap hm (st_mem a) (ld_mem b) (by rw [st_ld a]; rfl)
  have apr : q.op.isSt = true → r.op.isLd = true → Ap q r := fun a b =>
    have p := memM_ap hm (ld_mem b) (st_mem a) (by rw [st_ld a, Bool.and_false])
    ⟨p.b.symm, p.c.symm⟩
  have vq' := val_step (m := m) vr vq hrq apq
  have vr' := val_step (m := m) vq vr hqr apr
  refine ⟨?_, ?_, fun j => ?_⟩
  · rw [step_held (step m r) q, step_held (step m q) r, vq', vr', step_held m r, step_held m q]
    cases hsr : r.op.isSt with
    | true => cases hsq : q.op.isSt <;> simp
    | false =>
      cases hsq : q.op.isSt with
      | true => simp
      | false =>
        simp only [Bool.false_eq_true, if_false]
        have hne : r.a.toNat ≠ q.a.toNat := fun e => by
          have := I.ww r.a.toNat (by have := vr.a1; omega) (w_a hsr)
          rw [e, w_a hsq] at this; cases this
        exact List.set_comm _ _ hne
  · rw [step_high (step m r) q, step_high (step m q) r, ← look_res Lq vq, ← look_res Lr vr, step_high m r, step_high m q]
    by_cases h1 : r.op = .mul
    · have hq : q.op ≠ .mul := fun h2 => by
        have := I.ww 16 (by decide) (w_mul h1)
        rw [w_mul h2] at this; cases this
      rw [if_neg hq, if_pos h1, if_pos h1]
    · rw [if_neg h1, if_neg h1]
  · rw [step_cells (step m r) q, step_cells (step m q) r]
    cases hsr : r.op.isSt with
    | false =>
      cases hsq : q.op.isSt with
      | false =>
        simp only [Bool.false_eq_true, if_false]
        rw [step_cells, step_cells, hsr, hsq]
        simp
      | true =>
        simp only [Bool.false_eq_true, if_false, if_true]
        rw [getKV_st, ← look_b Lq vq (st_mem hsq), ← look_a Lq vq hsq, step_cells, step_cells, hsr, hsq]
        simp only [Bool.false_eq_true, if_false, if_true]
        rw [getKV_st]
    | true =>
      cases hsq : q.op.isSt with
      | false =>
        simp only [Bool.false_eq_true, if_false, if_true]
        rw [getKV_st, ← look_b Lr vr (st_mem hsr), ← look_a Lr vr hsr, step_cells, step_cells, hsr, hsq]
        simp only [Bool.false_eq_true, if_false, if_true]
        rw [getKV_st]
      | true =>
        simp only [if_true]
        rw [getKV_st, getKV_st, ← look_b Lr vr (st_mem hsr), ← look_a Lr vr hsr, ← look_b Lq vq (st_mem hsq), ← look_a Lq vq hsq, step_cells, step_cells, hsr, hsq]
        simp only [if_true]
        rw [getKV_st, getKV_st]
        have ap := memM_ap hm (st_mem hsr) (st_mem hsq) (by rw [st_ld hsr]; rfl)
        rw [ap.b]
        have hc := ap.c
        by_cases h1 : hdA m.held q.b + q.c ≤ j ∧ j < hdA m.held q.b + q.c + (wid q.op : Int)
        · rw [if_pos h1, if_neg (by omega), if_pos h1]
        · rw [if_neg h1, if_neg h1]
theorem setF_mem {r : Row} (v : VR r) : setF r = !r.op.isMem := by
  unfold setF
  rw [wset_nat, show Int.toNat 17 = 17 from rfl, bit_at, wN_flag v]
theorem lastN_ge {rs : List Row} {j : Nat} {q : Row} (hq : rs[j]? = some q) (hs : setF q = true) : ∀ n, j < n → (j : Int) ≤ lastN rs n
  | 0, h => absurd h (Nat.not_lt_zero _)
  | n + 1, h => by
    unfold lastN
    by_cases hj : j = n
    · subst hj
      rw [hq]
      simp only [hs, cond_true]
      exact Int.le_refl _
    · have ih := lastN_ge hq hs n (by omega)
      cases hn : rs[n]? with
      | none => exact ih
      | some x =>
        dsimp only
        cases setF x with
        | true => simp only [cond_true]; omega
        | false => exact ih
theorem lastN_is {rs : List Row} : ∀ (n : Nat) (k : Nat), lastN rs n = (k : Int) → ∃ x, rs[k]? = some x ∧ setF x = true
  | 0, k, h => by unfold lastN at h; omega
  | n + 1, k, h => by
    unfold lastN at h
    cases hn : rs[n]? with
    | none => rw [hn] at h; exact lastN_is n k h
    | some x =>
      rw [hn] at h
      dsimp only at h
      cases hx : setF x with
      | true =>
        rw [hx] at h
        simp only [cond_true] at h
        have : n = k := by omega
        subst this
        exact ⟨x, hn, hx⟩
      | false => rw [hx] at h; exact lastN_is n k h
theorem split2 {rs : List Row} {e : Nat} {r q : Row} (hr : rs[e]? = some r) (hq : rs[e + 1]? = some q) : rs = rs.take e ++ [r, q] ++ rs.drop (e + 2) := by
  have h1 : rs.drop e = r :: rs.drop (e + 1) := by
    obtain ⟨h, rfl⟩ := List.getElem?_eq_some_iff.mp hr
    exact List.drop_eq_getElem_cons h
  have h2 : rs.drop (e + 1) = q :: rs.drop (e + 2) := by
    obtain ⟨h, rfl⟩ := List.getElem?_eq_some_iff.mp hq
    exact List.drop_eq_getElem_cons h
  conv => lhs; rw [← List.take_append_drop e rs, h1, h2]
  simp
theorem swap_fin {rs : List Row} {hs : List Int} (hv : ∀ r ∈ rs, VR r) (h6 : hs.length = 6) (hrg : ∀ x ∈ hs, 0 ≤ x ∧ x < 4294967296) {e : Nat} {r q : Row} (hr : rs[e]? = some r) (hq : rs[e + 1]? = some q)
    (hn : ((e : Int), (e : Int) + 1) ∉ opairs rs) : finD (run ⟨hs, [], 5, .none⟩ (rs.take e ++ [q, r] ++ rs.drop (e + 2))) = finD (run ⟨hs, [], 5, .none⟩ rs) := by
  have hlen : e + 1 < rs.length := (List.getElem?_eq_some_iff.mp hq).1
  have hk : keepIJ rs e (e + 1) = false := by
    cases h : keepIJ rs e (e + 1) with
    | false => rfl
    | true => exact absurd (opairs_mem.mpr ⟨e, e + 1, by omega, hlen, h, rfl⟩) hn
  have vr := hv r (List.mem_of_getElem? hr)
  have vq := hv q (List.mem_of_getElem? hq)
  unfold keepIJ at hk
  rw [hr, hq] at hk
  dsimp only at hk
  unfold keepB at hk
  simp only [Bool.or_eq_false_iff] at hk
  obtain ⟨⟨h1, h2⟩, h3⟩ := hk
  have M0 : Mok ⟨hs, [], 5, .none⟩ 0 := ⟨h6, hrg, Nat.le_refl _, fun p (hp : p ∈ []) => (by simp at hp), List.nodup_nil⟩
  have hvd : ∀ x ∈ rs.drop (e + 2), VR x := fun x hx => hv x (List.mem_of_mem_drop hx)
  have S := swap_sim (m := run ⟨hs, [], 5, .none⟩ (rs.take e)) vr vq h1 h2
  have I := regM_ind.mp h1
  have e1 : run ⟨hs, [], 5, .none⟩ rs = run (step (step (run ⟨hs, [], 5, .none⟩ (rs.take e)) r) q) (rs.drop (e + 2)) := by
    conv => lhs; rw [split2 hr hq]
    unfold run
    rw [List.foldl_append, List.foldl_append]
    rfl
  have e2 : run ⟨hs, [], 5, .none⟩ (rs.take e ++ [q, r] ++ rs.drop (e + 2)) = run (step (step (run ⟨hs, [], 5, .none⟩ (rs.take e)) q) r) (rs.drop (e + 2)) := by
    unfold run
    rw [List.foldl_append, List.foldl_append]
    rfl
  have o1 := run_ok (rs := rs) M0
  have o2 := run_ok (rs := rs.take e ++ [q, r] ++ rs.drop (e + 2)) M0
  rw [e2, e1] at *
  generalize run ⟨hs, [], 5, .none⟩ (rs.take e) = m at *
  have hl : (step (step m r) q).last = (step (step m q) r).last ∨ ∃ x ∈ rs.drop (e + 2), x.op.isMem = false := by
    rw [step_mark (step m r) q, step_mark (step m q) r, step_mark m r, step_mark m q]
    cases hmr : r.op.isMem with
    | true =>
      left
      cases hmq : q.op.isMem with
      | true => simp
      | false =>
        simp only [if_true, Bool.false_eq_true, if_false]
        have hqs : q.op.isLd = false := by
          cases h : q.op.isLd with
          | false => rfl
          | true => rw [ld_mem h] at hmq; cases hmq
        rw [val_step vr vq I.wr fun _ b => by rw [hqs] at b; cases b]
    | false =>
      cases hmq : q.op.isMem with
      | true =>
        left
        simp only [if_true, Bool.false_eq_true, if_false]
        have hrs : r.op.isLd = false := by
          cases h : r.op.isLd with
          | false => rfl
          | true => rw [ld_mem h] at hmr; cases hmr
        have hqr : ∀ i, i < 17 → (wN q).testBit i = true → (rN r).testBit i = false := fun i hi hw => by
          cases h : (rN r).testBit i with
          | false => rfl
          | true => have := I.rw i hi h; rw [hw] at this; cases this
        rw [val_step vq vr hqr fun _ b => by rw [hrs] at b; cases b]
      | false =>
        right
        have fr : setF r = true := by rw [setF_mem vr, hmr]; rfl
        have fq : setF q = true := by rw [setF_mem vq, hmq]; rfl
        rw [fr, Bool.and_true] at h3
        have hne : ((e + 1 : Nat) : Int) ≠ lastN rs rs.length := by simpa using h3
        have hge := lastN_ge hq fq rs.length hlen
        obtain ⟨k, hk⟩ : ∃ k : Nat, lastN rs rs.length = (k : Int) := ⟨(lastN rs rs.length).toNat, by omega⟩
        obtain ⟨x, hx, fx⟩ := lastN_is _ k hk
        have hke : e + 2 ≤ k := by omega
        refine ⟨x, ?_, ?_⟩
        · refine List.mem_of_getElem? (i := k - (e + 2)) ?_
          rw [List.getElem?_drop, show e + 2 + (k - (e + 2)) = k by omega]
          exact hx
        · rw [setF_mem (hv x (List.mem_of_getElem? hx))] at fx
          simpa using fx
  obtain ⟨S', l'⟩ := run_sim hvd S hl
  exact (fin_eq o1 o2 S' l').symm
theorem law_holds (rs : List Row) (hs : List Int) (hv : ∀ r ∈ rs, VR r) (h6 : hs.length = 6) (hr : ∀ x ∈ hs, 0 ≤ x ∧ x < 4294967296) : Law rs hs := by
  refine ⟨opairs_sorted rs, fun p hp => ?_, fun e r q h1 h2 hn => swap_fin hv h6 hr h1 h2 hn, fun i j r q hij h1 h2 hst h => ?_⟩
  · obtain ⟨i, j, h1, h2, _, rfl⟩ := opairs_mem.mp hp
    dsimp only
    omega
  · have hj : j < rs.length := (List.getElem?_eq_some_iff.mp h2).1
    refine opairs_mem.mpr ⟨i, j, hij, hj, ?_, rfl⟩
    unfold keepIJ
    rw [h1, h2]
    dsimp only
    unfold keepB
    rw [reads_meet (hv r (List.mem_of_getElem? h1)) hst h]
    rfl
theorem law_true {cx : Cx} (hS : SortOk cx) (hp : cx.p = vw) (ns : List Int) (hn : ns.length < 100) : CallsTo cx 8 "law" [.list (ns.map .int)] (.bool true) :=
  c_law hS hp (fun rs hs hv _ h6 hr => law_holds rs hs hv h6 hr) ns hn
def pw {α : Type} (f : Nat → Int) (n : Nat) : KasT α → (α → Prop) → Prop
  | .ret a, P => P a
  | .ask i j k, P => i < n ∧ j < n ∧ pw f n (k (decide (f i < f j))) P
theorem pw_bind {α β : Type} {f : Nat → Int} {n : Nat} {g : α → KasT β} {P : β → Prop} : ∀ {t : KasT α}, pw f n t (fun a => pw f n (g a) P) → pw f n (t.bind g) P
  | .ret _, h => h
  | .ask _ _ k, h => ⟨h.1, h.2.1, pw_bind (t := k _) h.2.2⟩
theorem pw_mono {α : Type} {f : Nat → Int} {n : Nat} {P P' : α → Prop} : ∀ {t : KasT α}, pw f n t P → (∀ a, P a → P' a) → pw f n t P'
  | .ret _, h, hp => hp _ h
  | .ask _ _ _, h, hp => ⟨h.1, h.2.1, pw_mono h.2.2 hp⟩
theorem pw_ask {α : Type} {f : Nat → Int} {n i j : Nat} {k : Bool → KasT α} {P : α → Prop} (hi : i < n) (hj : j < n) (ht : f i < f j → pw f n (k true) P) (hf : ¬ f i < f j → pw f n (k false) P) : pw f n (.ask i j k) P := by
  refine ⟨hi, hj, ?_⟩
  by_cases h : f i < f j
  · rw [decide_eq_true h]; exact ht h
  · rw [decide_eq_false h]; exact hf h
theorem pw_wp {α : Type} {f : Nat → Int} {n : Nat} {cmp : Nat → Nat → (Bool → Shared → Prop) → Shared → Prop} {s : Shared} (hc : ∀ i j C, i < n → j < n → C (decide (f i < f j)) s → cmp i j C s) {P : α → Prop} : ∀ {t : KasT α}, pw f n t P → t.kasWp cmp (fun a s' => s' = s ∧ P a) s
  | .ret _, h => ⟨rfl, h⟩
  | .ask i j k, h => hc i j _ h.1 h.2.1 (pw_wp hc (t := k _) h.2.2)
section
variable {f : Nat → Int} {n : Nat} {p : Array Nat}
def ky (f : Nat → Int) (p : Array Nat) (x : Nat) : Int := f (p.getD x 0)
def Up (f : Nat → Int) (p : Array Nat) (k : Nat) : Prop := ∀ i j, i ≤ j → j < k → ky f p i ≤ ky f p j
def Dn (f : Nat → Int) (p : Array Nat) (k : Nat) : Prop := ∀ i j, i ≤ j → j < k → ky f p j ≤ ky f p i
def Pm (n : Nat) (p : Array Nat) : Prop := p.Perm (List.toArray (List.range n))
theorem Pm.size (h : Pm n p) : p.size = n := by have := Array.Perm.size_eq h; simpa using this
theorem Pm.lt (h : Pm n p) {x : Nat} (hx : x < n) : p.getD x 0 < n := by
  have hs := h.size
  have hx' : x < p.size := by omega
  have e : p.getD x 0 = p[x] := by simp [hx']
  rw [e]
  have hm : p[x] ∈ p.toList := by simp
  have := (Array.perm_iff_toList_perm.mp h).mem_iff.mp hm
  simpa using this
theorem ky_congr {p q : Array Nat} {i j : Nat} (h : p[i]? = q[j]?) : ky f p i = ky f q j := by
  unfold ky
  rw [Array.getD_eq_getD_getElem?, Array.getD_eq_getD_getElem?, h]
theorem ky_bubble {src d : Nat} (hs : src < p.size) (hd : d ≤ src) (k : Nat) : ky f (bubble p src d) k = if k = src - d then ky f p src else if src - d < k ∧ k ≤ src then ky f p (k - 1) else ky f p k := by
  have e := getElem?_bubble hs d hd k
  by_cases h1 : k = src - d
  · rw [if_pos h1] at e ⊢; exact ky_congr e
  · rw [if_neg h1] at e ⊢
    by_cases h2 : src - d < k ∧ k ≤ src
    · rw [if_pos h2] at e ⊢; exact ky_congr e
    · rw [if_neg h2] at e ⊢; exact ky_congr e
theorem ky_rev {i j : Nat} (hj : j ≤ p.size) (k : Nat) : ky f (kas_rev p i j) k = if i ≤ k ∧ k < j then ky f p (i + j - 1 - k) else ky f p k := by
  have e := getElem?_mirror_all (xs := p) (i := i) hj k
  unfold kas_rev
  by_cases h1 : i ≤ k ∧ k < j
  · rw [if_pos h1] at e ⊢; exact ky_congr e
  · rw [if_neg h1] at e ⊢; exact ky_congr e
theorem ky_rev_eq {i j : Nat} (hj : j ≤ p.size) (he : ∀ k, i ≤ k → k < j → ky f p k = ky f p (j - 1)) (k : Nat) : ky f (kas_rev p i j) k = ky f p k := by
  rw [ky_rev hj]
  split
  · rw [he _ (by omega) (by omega), he k (by omega) (by omega)]
  · rfl
theorem Pm.rev (h : Pm n p) (i j : Nat) : Pm n (kas_rev p i j) := (mirror_perm p i j _).trans h
theorem Pm.bub (h : Pm n p) (i j : Nat) : Pm n (bubble p i j) := (bubble_perm p i j).trans h
theorem asc_pw (hp : Pm n p) : ∀ (fu a : Nat) {P : Nat → Prop}, 1 ≤ a → a + fu ≤ n → Up f p a → (∀ m, a ≤ m → m ≤ a + fu → Up f p m → (m = a + fu ∨ ky f p m < ky f p (m - 1)) → P m) → pw f n (kas_asc p fu a) P
  | 0, a, P, h1, h2, hu, h => h a (Nat.le_refl _) (Nat.le_refl _) hu (.inl rfl)
  | fu + 1, a, P, h1, h2, hu, h => by
    unfold kas_asc
    refine pw_ask (hp.lt (by omega)) (hp.lt (by omega)) (fun hc => ?_) (fun hc => ?_)
    · simp only [if_true]
      have hc : ky f p a < ky f p (a - 1) := hc
      exact h a (Nat.le_refl _) (by omega) hu (.inr hc)
    · simp only [Bool.false_eq_true, if_false]
      have hc : ¬ (ky f p a < ky f p (a - 1)) := hc
      refine asc_pw hp fu (a + 1) (by omega) (by omega) (fun i j hij hj => ?_) fun m m1 m2 mu ml => h m (by omega) (by omega) mu (ml.imp (fun e => by omega) id)
      by_cases hja : j = a
      · subst hja
        by_cases hi : i = j
        · rw [hi]; exact Int.le_refl _
        · exact Int.le_trans (hu i (j - 1) (by omega) (by omega)) (Int.not_lt.mp hc)
      · exact hu i j hij (by omega)
theorem desc_pw : ∀ (fu : Nat) (p : Array Nat) (a q : Nat) {P : Array Nat × Nat × Nat → Prop}, Pm n p → 1 ≤ a → a + fu ≤ n → q + 1 ≤ a → Dn f p a → (∀ k, a - (q + 1) ≤ k → k < a → ky f p k = ky f p (a - 1)) →
    (∀ p' b r, Pm n p' → 1 ≤ b → b ≤ a + fu → r + 1 ≤ b → Dn f p' b → (∀ k, b - (r + 1) ≤ k → k < b → ky f p' k = ky f p' (b - 1)) → P (p', b, r)) → pw f n (kas_desc fu p a q) P
  | 0, p, a, q, P, hp, h1, h2, h3, hd, he, h => h p a q hp h1 (Nat.le_refl _) h3 hd he
  | fu + 1, p, a, q, P, hp, h1, h2, h3, hd, he, h => by
    unfold kas_desc
    have hsz := hp.size
    refine pw_ask (hp.lt (by omega)) (hp.lt (by omega)) (fun hc => ?_) (fun hc => ?_)
    · simp only [if_true]
      have hc : ky f p a < ky f p (a - 1) := hc
      have hd' : Dn f p (a + 1) := fun i j hij hj => by
        by_cases hja : j = a
        · subst hja
          by_cases hi : i = j
          · rw [hi]; exact Int.le_refl _
          · exact Int.le_trans (Int.le_of_lt hc) (hd i (j - 1) (by omega) (by omega))
        · exact hd i j hij (by omega)
      split
      · have hk : ∀ k, ky f (kas_rev p (a - (q + 1)) a) k = ky f p k := ky_rev_eq (by omega) he
        refine desc_pw fu _ (a + 1) 0 (hp.rev _ _) (by omega) (by omega) (by omega) (fun i j hij hj => by rw [hk, hk]; exact hd' i j hij hj) (fun k k1 k2 => by rw [show k = a by omega]; rfl) fun p' b r a1 a2 a3 => h p' b r a1 a2 (by omega)
      · exact desc_pw fu p (a + 1) 0 hp (by omega) (by omega) (by omega) hd' (fun k k1 k2 => by rw [show k = a by omega]; rfl) fun p' b r a1 a2 a3 => h p' b r a1 a2 (by omega)
    · simp only [Bool.false_eq_true, if_false]
      have hc : ¬ (ky f p a < ky f p (a - 1)) := hc
      refine pw_ask (hp.lt (by omega)) (hp.lt (by omega)) (fun hc2 => ?_) (fun hc2 => ?_)
      · simp only [if_true]
        have hc2 : ky f p (a - 1) < ky f p a := hc2
        exact h p a q hp h1 (by omega) h3 hd he
      · simp only [Bool.false_eq_true, if_false]
        have hc2 : ¬ (ky f p (a - 1) < ky f p a) := hc2
        have heq : ky f p a = ky f p (a - 1) := Int.le_antisymm (Int.not_lt.mp hc2) (Int.not_lt.mp hc)
        refine desc_pw fu p (a + 1) (q + 1) hp (by omega) (by omega) (by omega) (fun i j hij hj => ?_) (fun k k1 k2 => ?_) fun p' b r a1 a2 a3 => h p' b r a1 a2 (by omega)
        · by_cases hja : j = a
          · subst hja
            by_cases hi : i = j
            · rw [hi]; exact Int.le_refl _
            · rw [heq]; exact hd i (j - 1) (by omega) (by omega)
          · exact hd i j hij (by omega)
        · by_cases hka : k = a
          · rw [hka]; rfl
          · rw [show a + 1 - 1 = a by omega, heq]; exact he k (by omega) (by omega)
theorem tail_pw (hp : Pm n p) {a : Nat} {P : Nat × Array Nat → Prop} (h1 : 1 ≤ a) (h2 : a ≤ n) (hd : Dn f p a) (h : ∀ m p', Pm n p' → 1 ≤ m → m ≤ n → Up f p' m → P (m, p')) : pw f n (kas_tail3 a n p) P := by
  unfold kas_tail3
  have hsz := hp.size
  refine pw_bind (asc_pw (hp.rev _ _) (n - a) a h1 (by omega) (fun i j hij hj => ?_) fun m m1 m2 mu _ => h m _ (hp.rev _ _) (by omega) (by omega) mu)
  rw [ky_rev (by omega), ky_rev (by omega), if_pos (by omega), if_pos (by omega)]
  exact hd _ _ (by omega) (by omega)
theorem descPart_pw (hp : Pm n p) {a : Nat} {P : Nat × Array Nat → Prop} (h1 : 1 ≤ a) (h2 : a + 1 ≤ n) (hd : Dn f p (a + 1)) (h : ∀ m p', Pm n p' → 1 ≤ m → m ≤ n → Up f p' m → P (m, p')) : pw f n (kas_descPart a n p) P := by
  unfold kas_descPart
  refine pw_bind (desc_pw _ p (a + 1) 0 hp (by omega) (by omega) (by omega) hd (fun k k1 k2 => by rw [show k = a by omega]; rfl) fun p' b r a1 a2 a3 a4 a5 a6 => ?_)
  dsimp only
  have hsz := a1.size
  split
  · have hk : ∀ k, ky f (kas_rev p' (b - (r + 1)) b) k = ky f p' k := ky_rev_eq (by omega) a6
    exact tail_pw (a1.rev _ _) a2 (by omega) (fun i j hij hj => by rw [hk, hk]; exact a5 i j hij hj) h
  · exact tail_pw a1 a2 (by omega) a5 h
theorem count_pw (hp : Pm n p) (h1 : 1 ≤ n) {P : Nat × Array Nat → Prop} (h : ∀ m p', Pm n p' → 1 ≤ m → m ≤ n → Up f p' m → P (m, p')) : pw f n (kas_count n p) P := by
  unfold kas_count
  have hsz := hp.size
  refine pw_bind (asc_pw hp (n - 1) 1 (by omega) (by omega) (fun i j hij hj => by rw [show i = j by omega]; exact Int.le_refl _) fun m m1 m2 mu ml => ?_)
  split
  · exact h m p hp (by omega) (by omega) mu
  · rename_i hm
    have hmn : m ≠ n := fun e => hm (by rw [e]; simp)
    have hlt : ky f p m < ky f p (m - 1) := ml.resolve_left (by omega)
    split
    · refine pw_ask (hp.lt (by omega)) (hp.lt (by omega)) (fun hc => ?_) (fun hc => ?_)
      · simp only [if_true]
        have hc : ky f p 0 < ky f p (m - 1) := hc
        exact h m p hp (by omega) (by omega) mu
      · simp only [Bool.false_eq_true, if_false]
        have hc : ¬ (ky f p 0 < ky f p (m - 1)) := hc
        have hall : ∀ k, 0 ≤ k → k < m → ky f p k = ky f p (m - 1) := fun k _ hk => by
          have a1 := mu 0 k (by omega) hk
          have a2 := mu k (m - 1) (by omega) (by omega)
          omega
        have hk : ∀ k, ky f (kas_rev p 0 m) k = ky f p k := ky_rev_eq (by omega) hall
        refine descPart_pw (hp.rev _ _) (by omega) (by omega) (fun i j hij hj => ?_) h
        rw [hk, hk]
        by_cases hjm : j = m
        · subst hjm
          by_cases hi : i = j
          · rw [hi]; exact Int.le_refl _
          · have := hall i (by omega) (by omega); omega
        · have b1 := hall i (by omega) (by omega)
          have b2 := hall j (by omega) (by omega)
          omega
    · refine descPart_pw hp (by omega) (by omega) (fun i j hij hj => ?_) h
      by_cases hi : i = j
      · rw [hi]; exact Int.le_refl _
      · rw [show i = m - 1 by omega, show j = m by omega]; omega
theorem place_pw (hp : Pm n p) {k : Nat} (hk : k < n) (hu : Up f p k) : ∀ (fu l r : Nat) {P : Nat → Prop}, l ≤ r → r ≤ k → r - l ≤ fu → (∀ i, i < l → ky f p i ≤ ky f p k) → (∀ i, r ≤ i → i < k → ky f p k < ky f p i) →
    (∀ l, l ≤ k → (∀ i, i < l → ky f p i ≤ ky f p k) → (∀ i, l ≤ i → i < k → ky f p k < ky f p i) → P l) → pw f n (kas_place p k fu l r) P
  | 0, l, r, P, h1, h2, h3, a, b, h => h l (by omega) a (by rw [show l = r by omega]; exact b)
  | fu + 1, l, r, P, h1, h2, h3, a, b, h => by
    unfold kas_place
    split
    · exact h l (by omega) a (by rw [show l = r by omega]; exact b)
    · refine pw_ask (hp.lt hk) (hp.lt (by omega)) (fun hc => ?_) (fun hc => ?_)
      · simp only [if_true]
        have hc : ky f p k < ky f p ((l + r) / 2) := hc
        exact place_pw hp hk hu fu l ((l + r) / 2) (by omega) (by omega) (by omega) a (fun i i1 i2 => Int.lt_of_lt_of_le hc (hu _ _ i1 i2)) h
      · simp only [Bool.false_eq_true, if_false]
        have hc : ¬ (ky f p k < ky f p ((l + r) / 2)) := hc
        exact place_pw hp hk hu fu ((l + r) / 2 + 1) r (by omega) (by omega) (by omega) (fun i i1 => Int.le_trans (hu i ((l + r) / 2) (by omega) (by omega)) (Int.not_lt.mp hc)) b h
theorem bin_pw : ∀ (fu : Nat) (p : Array Nat) (k : Nat) {P : Array Nat → Prop}, Pm n p → k + fu = n → Up f p k → (∀ p', Pm n p' → Up f p' n → P p') → pw f n (kas_bin fu p k) P
  | 0, p, k, P, hp, h1, hu, h => h p hp (by rw [← h1]; exact hu)
  | fu + 1, p, k, P, hp, h1, hu, h => by
    unfold kas_bin
    have hsz := hp.size
    refine pw_bind (place_pw hp (by omega) hu k 0 k (by omega) (Nat.le_refl _) (by omega) (fun i hi => by omega) (fun i i1 i2 => by omega) fun l l1 a b => ?_)
    refine bin_pw fu _ (k + 1) (hp.bub _ _) (by omega) (fun i j hij hj => ?_) h
    rw [ky_bubble (by omega) (by omega), ky_bubble (by omega) (by omega), show k - (k - l) = l by omega]
    repeat' split
    all_goals first
      | (exfalso; omega)
      | exact Int.le_refl _
      | exact a _ (by omega)
      | exact Int.le_of_lt (b _ (by omega) (by omega))
      | exact hu _ _ (by omega) (by omega)
theorem sort_pw (h1 : 1 ≤ n) : pw f n (kas_sort n) fun p => Pm n p ∧ Up f p n := by
  unfold kas_sort
  refine pw_bind (count_pw (Array.Perm.refl _) h1 fun m p' hp m1 m2 mu => ?_)
  dsimp only
  split
  · rw [show max m 1 = m by omega]
    exact bin_pw _ p' m hp (by omega) mu fun p'' a b => ⟨a, b⟩
  · rw [show m = n by omega] at mu
    exact ⟨hp, mu⟩
end
section
variable {prog : Program} {w : World} {A : Around} {E : Value → Shared → Prop} {s : Shared} {vs : List Value}
theorem own_list_sort {a : Addr} {n : Nat} {P : PySem.Fin → Shared → Prop} {G : List Value → Prop} (ho : s.heap.get? a = some (seqObj "list" vs.toArray n)) (h64 : vs.length < 64) (h1 : vs.length < 2 → G vs)
    (ask : 2 ≤ vs.length → ∀ s' : Shared, (∀ b o, b ≠ a → s.heap.get? b = some o → s'.heap.get? b = some o) →
      wpAny (model prog w) A (keyKind' vs.toArray) (fun κ s'' => s'' = s' ∧ (kas_sort vs.length).kasWp (kas_ask prog w A κ vs) (fun p s3 => s3 = s' ∧ G (p.toList.map fun i => vs.getD i Value.none)) s') (fun _ _ => False) s')
    (h : ∀ out, G out → P (.done (.ret .none)) { s with heap := sortedHeap s.heap a vs (List.toArray out) }) : wpAny (model prog w) A (Builtin.«list.sort» ⟨[.ref a], []⟩) P E s := by
  have ha : a < s.heap.objs.size := Heap.lt_size ho
  obtain ⟨e1, ho1⟩ : ∃ e1, (s.heap.update a (Obj.mapSeq fun _ => (#[] : Array Value))).get? a = some (seqObj "list" #[] e1) := ⟨_, get?_update_seq ho fun _ => #[]⟩
  have ho3 : (((s.heap.update a (Obj.mapSeq fun _ => (#[] : Array Value))).push (seqObj "tuple" vs.toArray 0)).push (seqObj "list" #[] 0)).get? a = some (seqObj "list" #[] e1) :=
    Heap.get?_push_of_some _ (Heap.get?_push_of_some _ ho1)
  rw [list_sort_plain]
  refine wpAny_bind (listItems_at ho rfl ?_)
  refine wpAny_bind (listUpdate_at ho rfl ?_ (by rw [List.size_toArray, sizeLine_eq]; omega) (Nat.zero_le _))
  refine wpAny_bind (seqEpoch_at ho1 rfl ?_)
  refine wpAny_bind (wpAny_newTuple ?_ (by show vs.length ≤ _; rw [sizeLine_eq]; omega))
  refine wpAny_bind (wpAny_newList ?_ (Nat.zero_le _))
  refine wpAny_holding ?_
  show wpAny (model prog w) A _ P E { s with heap := ((s.heap.update a (Obj.mapSeq fun _ => (#[] : Array Value))).push (seqObj "tuple" vs.toArray 0)).push (seqObj "list" #[] 0) }
  dsimp only
  have fin : ∀ (st' : SortSt) (out : List Value), (arrOf st').map (·.2) = List.toArray out → out.length = vs.length → failedOf st' = none → G out →
      wpAny (model prog w) A (do
        let touched := (← seqEpoch a) != e1
        Builtin.List.listUpdate (.ref a) fun _ => (arrOf st').map (·.2)
        if let some e := failedOf st' then rule "list.sort.comparison-raised"; throw e
        if touched then rule "list.sort.modified"; raiseError "ValueError" "list modified during sort"
        ret .none) P E { s with heap := ((s.heap.update a (Obj.mapSeq fun _ => (#[] : Array Value))).push (seqObj "tuple" vs.toArray 0)).push (seqObj "list" #[] 0) } := by
    intro st' out hout hlo hf hg
    refine wpAny_bind (seqEpoch_at ho3 rfl ?_)
    rw [hout]
    refine wpAny_bind (listUpdate_at ho3 rfl ?_ (Nat.zero_le _) (by rw [List.size_toArray, hlo, sizeLine_eq]; omega))
    rw [hf]
    simp only [bne_self_eq_false, Bool.false_eq_true, if_false]
    exact wpAny_pure (h out hg)
  by_cases h2 : vs.toArray.size < 2
  · rw [if_pos h2, if_pos h2]
    refine wpAny_bind (wpAny_pure ?_)
    rw [StateT.run_pure]
    refine wpAny_bind (wpAny_pure ?_)
    refine fin _ vs ?_ rfl rfl (h1 (by simpa using h2))
    apply Array.toList_inj.mp
    simp
    exact List.map_snd_zip (Nat.le_refl _)
  · rw [if_neg h2, if_neg h2]
    have h2' : 2 ≤ vs.length := by have : ¬ vs.length < 2 := by simpa using h2
                                   omega
    refine wpAny_bind (wpAny_mono (ask h2' _ fun b o hb e => ?_) (fun κ s0 hk => ?_) fun _ _ x => x.elim)
    · exact Heap.get?_push_of_some _ (Heap.get?_push_of_some _ (by rw [Heap.get?_update_ne _ _ _ _ hb]; exact e))
    · obtain ⟨rfl, hk⟩ := hk
      refine wpAny_bind (wpAny_mono (kat_run (Q := fun st' s' => ∃ p : Array Nat, p.size = vs.length ∧ arrOf st' = p.map (kas_item (vs.toArray.zip vs.toArray)) ∧ failedOf st' = none ∧ s' = _ ∧ G (p.toList.map fun i => vs.getD i Value.none))
        rfl h2' h64 (fun p' st' s' a1 a2 a3 a4 => ⟨p', a1, a2, a3, a4⟩) hk) ?_ fun _ _ e => e)
      rintro ⟨⟨⟩, st'⟩ s' ⟨p, hp, har, hf, rfl, hg⟩
      dsimp only
      exact fin st' _ (kat_snds rfl har) (by rw [List.length_map, Array.length_toList, hp]) hf hg
theorem own_sorted {l : Addr} {Q : Value → Shared → Prop} {G : List Value → Prop} (hl : s.heap.IsList l vs.toArray) (h64 : vs.length < 64) (h1 : vs.length < 2 → G vs)
    (ask : 2 ≤ vs.length → ∀ s' : Shared, Grow s.heap s'.heap →
      wpAny (model prog w) A.in1.in1 (keyKind' vs.toArray) (fun κ s'' => s'' = s' ∧ (kas_sort vs.length).kasWp (kas_ask prog w A.in1.in1 κ vs) (fun p s3 => s3 = s' ∧ G (p.toList.map fun i => vs.getD i Value.none)) s') (fun _ _ => False) s')
    (h : ∀ out, G out → Q (.ref (s.heap.objs.size + 1)) { s with heap := sortedAll s.heap vs (List.toArray out) }) :
    wpAny (model prog w) A (call (.builtin "sorted") [.ref l]) Q E s := by
  refine Calls.call_function_entry kind_sorted plain_sorted entry_sorted (args_sorted1 _) ?_
  unfold Builtin.«sorted»
  refine wpAny_bind (m := checkCount "sorted" 1 1 _) (wpAny_pure ?_)
  refine wpAny_bind (collect_list hl ?_ (by rw [sizeLine_eq]; omega))
  refine wpAny_bind (wpAny_newList ?_ (by rw [sizeLine_eq]; omega))
  have hsz : ((s.heap.push (seqObj "list" #[] 0)).update s.heap.objs.size (Obj.mapSeq (· ++ vs.toArray))).objs.size = s.heap.objs.size + 1 := by
    rw [Heap.size_update, size_push']
  have hoL : (((s.heap.push (seqObj "list" #[] 0)).update s.heap.objs.size (Obj.mapSeq (· ++ vs.toArray))).push (seqObj "list" vs.toArray 0)).get? (s.heap.objs.size + 1) = some (seqObj "list" vs.toArray 0) := by
    rw [← hsz]; exact Heap.get?_push_size _ rfl
  have keep : Grow s.heap (((s.heap.push (seqObj "list" #[] 0)).update s.heap.objs.size (Obj.mapSeq (· ++ vs.toArray))).push (seqObj "list" vs.toArray 0)) := fun b o q => by
    have hlt : b < s.heap.objs.size := Heap.lt_size q
    rw [Heap.get?_push_ne _ _ _ (by rw [hsz]; exact Nat.ne_of_lt (Nat.lt_succ_of_lt hlt)), Heap.get?_update_ne _ _ _ _ (Nat.ne_of_lt hlt), Heap.get?_push_ne _ _ _ (Nat.ne_of_lt hlt)]
    exact q
  show wpAny _ _ _ _ _ { s with heap := ((s.heap.push (seqObj "list" #[] 0)).update s.heap.objs.size (Obj.mapSeq (· ++ vs.toArray))).push (seqObj "list" vs.toArray 0) }
  rw [hsz]
  refine wpAny_bind (wpAny_holding (wpAny_call_entry slot_list_sort ⟨_, hoL, rfl⟩ entry_list_sort ?body (args_list_sort _)))
  case body =>
    refine own_list_sort (G := G) hoL h64 h1 (fun h2 s' hk => ask h2 s' fun b o e => hk b o (fun z => ?_) (keep b o e)) fun out hg => ⟨_, rfl, wpAny_pure ⟨_, rfl, h out hg⟩⟩
    rw [z] at e
    exact absurd (Heap.lt_size e) (Nat.not_lt.mpr (Nat.le_succ _))
end
def PairAt (h : Heap) (v : Value) (p : Int × Int) : Prop := ∃ t o n a b, v = .ref t ∧ h.get? t = some o ∧ o.cls = .type "tuple" ∧ o.data = .seq #[.int p.1 a, .int p.2 b] n
theorem pairAt_of {h : Heap} {O : List Addr} {v : Value} {p : Int × Int} (r : Rp h O v (pairD p)) : PairAt h v p := by
  obtain ⟨t, vs, rfl, _, ⟨o, ho, hc, n, hd⟩, rl⟩ := r.tuple_inv
  obtain ⟨l⟩ := vs
  cases rl with
  | cons r1 rs =>
    cases rs with
    | cons r2 rs2 =>
      cases rs2
      cases r1 with
      | int i a =>
        cases r2 with
        | int j b => exact ⟨t, o, n, a, b, rfl, ho, hc, hd⟩
theorem PairAt.grow {h h' : Heap} {v : Value} {p : Int × Int} (g : Grow h h') (x : PairAt h v p) : PairAt h' v p :=
  let ⟨t, o, n, a, b, e1, e2, e3, e4⟩ := x; ⟨t, o, n, a, b, e1, g _ _ e2, e3, e4⟩
def ltPr (p q : Int × Int) : Bool := decide (p.1 < q.1) || (p.1 == q.1 && decide (p.2 < q.2))
section
variable {prog : Program} {w : World} {A : Around} {s : Shared}
theorem pair_lt {u v : Value} {p q : Int × Int} {C : Bool → Shared → Prop} (hu : PairAt s.heap u p) (hv : PairAt s.heap v q) (h : C (ltPr p q) s) :
    wpAny (model prog w) A (keyLt' (tuples' true) u v) C (fun _ _ => False) s := by
  obtain ⟨t, o, n, a, b, rfl, ho, _, hd⟩ := hu
  obtain ⟨t', o', n', a', b', rfl, ho', _, hd'⟩ := hv
  refine kat_lt ho hd ho' hd' ?_
  show KatLex prog w A true (decide (2 < 2)) C [(.int p.1 a, .int q.1 a'), (.int p.2 b, .int q.2 b')] 0 s
  refine kat_cons (wpAny_eqBool_int ?_)
  unfold ltPr at h
  cases h1 : p.1 == q.1 with
  | false =>
    refine kat_no ?_
    rw [h1, Bool.false_and, Bool.or_false] at h
    exact oneLt_int h
  | true =>
    refine kat_yes (kat_cons (wpAny_eqBool_int ?_))
    have h1' : p.1 = q.1 := eq_of_beq h1
    rw [h1, h1', decide_eq_false (Int.lt_irrefl _), Bool.false_or, Bool.true_and] at h
    cases h2 : p.2 == q.2 with
    | false => exact kat_no (kat_one _ _ (PySem.P.lt_int h))
    | true =>
      refine kat_yes (kat_nil ?_)
      have h2' : p.2 = q.2 := eq_of_beq h2
      rw [h2', decide_eq_false (Int.lt_irrefl _)] at h
      exact h
end
theorem fold_bound : ∀ ps : List (Int × Int), ∃ B : Int, 0 ≤ B ∧ ∀ p ∈ ps, -B ≤ p.2 ∧ p.2 ≤ B
  | [] => ⟨0, Int.le_refl _, fun p hp => by cases hp⟩
  | q :: ps => by
    obtain ⟨B, h0, h⟩ := fold_bound ps
    refine ⟨B + q.2.natAbs, by omega, fun p hp => ?_⟩
    rcases List.mem_cons.mp hp with rfl | hp
    · omega
    · have := h p hp; omega
theorem enc_lt {B a b c d : Int} (h0 : 0 ≤ B) (hb : -B ≤ b ∧ b ≤ B) (hd : -B ≤ d ∧ d ≤ B) : (a * (2 * B + 1) + b < c * (2 * B + 1) + d) ↔ (a < c ∨ (a = c ∧ b < d)) := by
  have key : ∀ x y : Int, x < y → x * (2 * B + 1) + (2 * B + 1) ≤ y * (2 * B + 1) := fun x y hxy => by
    have h1 : (x + 1) * (2 * B + 1) ≤ y * (2 * B + 1) := Int.mul_le_mul_of_nonneg_right (by omega) (by omega)
    rw [Int.add_mul] at h1
    omega
  rcases Int.lt_trichotomy a c with h | h | h
  · have := key a c h; constructor
    · intro _; exact .inl h
    · intro _; omega
  · subst h; constructor
    · intro h; right; omega
    · intro h; omega
  · have := key c a h; constructor
    · intro h'; omega
    · intro h'; omega
theorem ltPr_iff {p q : Int × Int} : ltPr p q = true ↔ p.1 < q.1 ∨ (p.1 = q.1 ∧ p.2 < q.2) := by
  unfold ltPr; simp
theorem le_of_not {p q : Int × Int} (h : ltPr q p = false) : leP p q = true := by
  have h' : ¬ (q.1 < p.1 ∨ (q.1 = p.1 ∧ q.2 < p.2)) := fun x => by rw [ltPr_iff.mpr x] at h; cases h
  rw [leP_iff]; omega
theorem all_pairs {h : Heap} {O : List Addr} : ∀ {vs : List Value} {ps : List (Int × Int)}, RpAll h O vs (ps.map pairD) → ∀ i, i < ps.length → ∃ p, ps[i]? = some p ∧ PairAt h (vs.getD i Value.none) p ∧ Rp h O (vs.getD i Value.none) (pairD p)
  | vs, ps, r, i, hi => by
    have e : (ps.map pairD)[i]? = some (pairD ps[i]) := by rw [List.getElem?_map, List.getElem?_eq_getElem hi]; rfl
    obtain ⟨v, hv, rv⟩ := r.get e
    refine ⟨ps[i], List.getElem?_eq_getElem hi, ?_⟩
    rw [List.getD_eq_getElem?_getD, hv]
    exact ⟨pairAt_of rv, rv⟩
theorem tups_of {h : Heap} : ∀ {vs : List Value} {ps : List (Int × Int)}, vs.length = ps.length → (∀ i, i < ps.length → ∃ p, PairAt h (vs.getD i Value.none) p) → ∃ fs, KatTups h vs fs ∧ fs.length = vs.length ∧ ∀ f ∈ fs, ∃ n t, f = .int n t
  | [], _, _, _ => ⟨[], .nil, rfl, fun f hf => by cases hf⟩
  | v :: vs, [], hl, _ => by cases hl
  | v :: vs, p :: ps, hl, h => by
    obtain ⟨fs, h1, h2, h3⟩ := tups_of (vs := vs) (ps := ps) (by simpa using hl) fun i hi => h (i + 1) (by simpa using hi)
    obtain ⟨q, t, o, n, a, b, e, ho, hc, hd⟩ := h 0 (by simp)
    have e' : v = .ref t := e
    subst e'
    refine ⟨.int q.1 a :: fs, .cons ho hc hd rfl h1, by simp [h2], fun f hf => ?_⟩
    rcases List.mem_cons.mp hf with rfl | hf
    · exact ⟨_, _, rfl⟩
    · exact h3 f hf
theorem pw_wp' {f : Nat → Int} {n : Nat} {cmp : Nat → Nat → (Bool → Shared → Prop) → Shared → Prop} {s : Shared} (hc : ∀ i j C, i < n → j < n → C (decide (f i < f j)) s → cmp i j C s) {t : KasT (Array Nat)} (h : pw f n t fun p => Pm n p ∧ Up f p n) {G : Array Nat → Prop}
    (hg : ∀ p, Pm n p → Up f p n → G p) : t.kasWp cmp (fun a s' => s' = s ∧ G a) s := pw_wp hc (pw_mono h fun p x => hg p x.1 x.2)
theorem sort_ok (cx : Cx) : SortOk cx := by
  intro A s E Q X v ps hh hX r h64 hQ
  obtain ⟨l, vs, rfl, hlX, hl, rl⟩ := r.list_inv
  have hlen := rl.length
  rw [List.length_map] at hlen
  obtain ⟨vs⟩ := vs
  have rl' : RpAll s.heap X vs (ps.map pairD) := rl
  have hlen' : vs.length = ps.length := hlen
  have hat := all_pairs rl'
  refine own_sorted (G := fun out => RpAll s.heap X out ((sortP ps).map pairD)) hl (by omega) (fun h2 => ?_) (fun h2 s' g => ?_) fun out hg => ?_
  · have e : sortP ps = ps := sortP_sorted (by
      match ps, hlen' with
      | [], _ => exact List.Pairwise.nil
      | [p], _ => simp
      | _ :: _ :: _, h => simp at h; omega)
    rw [e]; exact rl'
  · obtain ⟨fs, t1, t2, t3⟩ := tups_of (h := s'.heap) hlen' fun i hi => let ⟨p, _, h, _⟩ := hat i hi; ⟨p, h.grow g⟩
    refine kat_kind (T := .type "int") t1 (by omega) (fun f hf => ?_) (by decide) ?_
    · obtain ⟨n, t, rfl⟩ := t3 f hf
      exact Looks.of_pure rfl
    · refine ⟨rfl, ?_⟩
      obtain ⟨B, h0, hB⟩ := fold_bound ps
      have hcmp : ∀ i j C, i < vs.length → j < vs.length → C (decide (((ps.getD i (0, 0)).1 * (2 * B + 1) + (ps.getD i (0, 0)).2) < ((ps.getD j (0, 0)).1 * (2 * B + 1) + (ps.getD j (0, 0)).2))) s' → kas_ask cx.prog cx.w A.in1.in1 (tuples' (Value.type "int" != Value.type "tuple")) vs i j C s' := by
        intro i j C hi hj hC
        obtain ⟨p, hp, ap, _⟩ := hat i (by omega)
        obtain ⟨q, hq, aq, _⟩ := hat j (by omega)
        have ep : ps.getD i (0, 0) = p := by rw [List.getD_eq_getElem?_getD, hp]; rfl
        have eq : ps.getD j (0, 0) = q := by rw [List.getD_eq_getElem?_getD, hq]; rfl
        rw [ep, eq] at hC
        refine pair_lt (ap.grow g) (aq.grow g) ?_
        have e : ltPr p q = decide (p.1 * (2 * B + 1) + p.2 < q.1 * (2 * B + 1) + q.2) := by
          rw [Bool.eq_iff_iff, ltPr_iff, decide_eq_true_eq, enc_lt h0 (hB p (List.mem_of_getElem? hp)) (hB q (List.mem_of_getElem? hq))]
        rw [e]; exact hC
      refine pw_wp' hcmp (sort_pw (f := fun i => (ps.getD i (0, 0)).1 * (2 * B + 1) + (ps.getD i (0, 0)).2) (n := vs.length) (by omega)) fun p pm up => ?_
      have psz := pm.size
      have e : sortP ps = p.toList.map fun i => ps.getD i (0, 0) := by
        refine sortP_eq ?_ ?_
        · have hp' : p.toList.Perm (List.range vs.length) := by simpa using Array.perm_iff_toList_perm.mp pm
          refine (hp'.map _).trans (.of_eq ?_)
          apply List.ext_getElem?
          intro i
          rw [List.getElem?_map]
          by_cases hi : i < vs.length
          · rw [List.getElem?_range hi]
            obtain ⟨q, hq, _⟩ := hat i (by omega)
            rw [Option.map_some, hq, List.getD_eq_getElem?_getD, hq]; rfl
          · rw [List.getElem?_eq_none (by rw [List.length_range]; omega), List.getElem?_eq_none (by omega)]; rfl
        · rw [List.pairwise_map, List.pairwise_iff_getElem]
          intro i j hi hj hij
          have hi' : i < p.size := by simpa using hi
          have hj' : j < p.size := by simpa using hj
          have hu := up i j (by omega) (by omega)
          unfold ky at hu
          have ei : p.getD i 0 = p[i] := by simp [hi']
          have ej : p.getD j 0 = p[j] := by simp [hj']
          rw [ei, ej] at hu
          have mi : p[i] < vs.length := ei ▸ pm.lt (by omega)
          have mj : p[j] < vs.length := ej ▸ pm.lt (by omega)
          obtain ⟨a, ha, _⟩ := hat p[i] (by omega)
          obtain ⟨b, hb, _⟩ := hat p[j] (by omega)
          have ea : ps.getD p[i] (0, 0) = a := by rw [List.getD_eq_getElem?_getD, ha]; rfl
          have eb : ps.getD p[j] (0, 0) = b := by rw [List.getD_eq_getElem?_getD, hb]; rfl
          dsimp only at hu
          rw [ea, eb] at hu
          show leP (ps.getD p[i] (0, 0)) (ps.getD p[j] (0, 0)) = true
          rw [ea, eb]
          refine le_of_not ?_
          cases hlt : ltPr b a with
          | false => rfl
          | true =>
            have := (enc_lt h0 (hB b (List.mem_of_getElem? hb)) (hB a (List.mem_of_getElem? ha))).mpr (ltPr_iff.mp hlt)
            omega
      rw [e]
      have all : ∀ (q : List Nat), (∀ i ∈ q, i < ps.length) → RpAll s.heap X (q.map fun i => vs.getD i Value.none) ((q.map fun i => ps.getD i (0, 0)).map pairD) := by
        intro q
        induction q with
        | nil => intro _; exact .nil
        | cons i q ih =>
          intro hq
          obtain ⟨a, ha, _, ra⟩ := hat i (hq i List.mem_cons_self)
          have ea : ps.getD i (0, 0) = a := by rw [List.getD_eq_getElem?_getD, ha]; rfl
          exact .cons (by dsimp only; rw [ea]; exact ra) (ih fun j hj => hq j (List.mem_cons_of_mem _ hj))
      refine all p.toList fun i hi => ?_
      have hp' : p.toList.Perm (List.range vs.length) := by simpa using Array.perm_iff_toList_perm.mp pm
      have := hp'.mem_iff.mp hi
      rw [List.mem_range] at this
      omega
  · have g : Grow s.heap (sortedAll s.heap vs (List.toArray out)) := fun b o e => sortedAll_old e
    obtain ⟨e, he⟩ := sortedAll_at s.heap vs (List.toArray out)
    refine hQ _ _ (keeps_of (s := s) (t := s.toks) g) (.of_list ⟨_, he, rfl, _, rfl⟩ (fun hm => ?_) (hg.grow g))
    obtain ⟨o, ho⟩ := hX _ hm
    exact absurd (Heap.lt_size ho) (Nat.not_lt.mpr (Nat.le_succ _))
theorem ints_rp {h : Heap} : ∀ {vs : List Value} {ns : List Int}, IntsAre vs ns → RpAll h [] vs (ns.map .int)
  | _, _, .nil => .nil
  | _, _, .cons n t r => .cons (.int n t) (ints_rp r)
theorem caller_ra : RA callerA 8 := ⟨rfl, by decide, by decide⟩
theorem no_blt {mg mb : Str → Option Value} {mean : ExcName → Option Value} {h : Heap} (T : Top vw (looseW vw []) mean mg mb h) : ∀ x ∈ blt, mg x = none := by
  intro x hx
  simp only [blt, List.mem_cons, List.not_mem_nil, or_false] at hx
  rcases hx with rfl | rfl | rfl | rfl | rfl <;> exact T.free _ (by decide +kernel) (by decide +kernel) (by decide +kernel) (by decide +kernel) (by decide +kernel)
theorem law_call {prog : Program} {w : World} {mg mb : Str → Option Value} {mean : ExcName → Option Value} {s : Shared} (T : Top vw (looseW vw []) mean mg mb s.heap) {fa l : Addr} {vs : List Value} {ns : List Int} (hmg : mg "law" = some (.ref fa))
    (hl : s.heap.IsList l vs.toArray) (hI : IntsAre vs ns) (h63 : ns.length ≤ 63) {E Q : Value → Shared → Prop} (hq : ∀ s', Keeps s s' → Q (.bool true) s') : wpAny (model prog w) callerA (call (.ref fa) [.ref l]) Q E s := by
  obtain ⟨fa', o, fd, h1, h2, h3, h⟩ := law_true (cx := ⟨prog, w, vw, looseW vw [], mean, mg, mb, s.heap, T, no_blt T⟩) (sort_ok _) rfl ns (by omega)
  have h1' : mg "law" = some (.ref fa') := h1
  rw [hmg] at h1'
  cases h1'
  refine h callerA s E Q [] [.ref l] caller_ra (Grow.refl _) (fun a ha => by cases ha) (.cons (.of_list hl (by simp) (ints_rp hI)) .nil) fun v s' k r => ?_
  cases r
  exact hq s' k
abbrev rwl : OpenRow := PySem.Challenge.rw_pb0319_01.row
theorem said_looks : looksOpen rwl.prog = true := by
  unfold looksOpen
  iterate 5 (refine look_both ?_ ?_)
  all_goals decide +kernel
theorem said_row : rwl.wellSaid = true := by
  unfold OpenRow.wellSaid OpenRow.partSaid
  iterate 15 (refine look_both ?_ ?_)
  · exact said_looks
  all_goals decide +kernel
theorem said : PySem.Challenge.rw_pb0319_01.wellSaid = true := by
  unfold OpenLaw.wellSaid
  iterate 18 (refine look_both ?_ ?_)
  · exact said_row
  all_goals decide +kernel
theorem left_vw : LeftO rwl.prog vw [] (fun s => xlAt vw [] s && recOk (RowW.records rwl.toRowW) s) (Hook.obs Hook.none) (Hook.val Hook.none) 1412 := by
  intro w
  kernel_rfl
theorem walk {d : DefRec} {kwd : List (Str × Expr)} (hn : d.name = Str.ofString "law") : WalkO vw [] (XL vw []) (Hook.says Hook.none) rwl.toRowW d kwd fun f vs => PySem.call f vs := by
  intro w s₀ s₁ mg mb G Y fa o pm cd doc dV kV ho hd hcd hD hmg hg args vals as hpre hlay hrd hwl hlo
  refine Ground.open G ?_
  intro T B D TE TW
  clear B TE TW D
  rw [hn] at hmg
  wrow_args hpre hlay hrd hwl hlo
  rename_i ns _ _ _ _ _ _ _ l vs _ hl _ _ _ hI _ hlen _
  refine law_call T hmg hl hI (by omega) fun s' k => ?_
  obtain ⟨h', t', rfl, kp⟩ := k
  refine GoodW.toG ⟨.inl ⟨_, .bool true, [], rfl, fun _ => ?_, .bool true, ?_, fun _ => ⟨List.nodup_nil, fun a ha => by cases ha⟩⟩, kp, rfl, hg⟩
  · first | rfl | exact raisesW_false (by wrow_none_raised)
  · first | rfl | exact postW_of (by wrow_shape) (by wtm_val) (by str_meet; first | done | w_fin)
theorem jn : PySem.Challenge.rw_pb0319_01.Holds := by
  refine holds_law said fun said => ?_
  refine holds_open (q := vw) (loose := []) (Xt := fun s => xlAt vw [] s && recOk (RowW.records rwl.toRowW) s) (XP := XL vw []) (Yf := Hook.obs Hook.none) (Ya := Hook.val Hook.none) (YP := Hook.says Hook.none) (N := 1412) left_vw (Hook.of Hook.none) (Hook.keeps Hook.none) (fun s e => xl_of s (Bool.and_eq_true_iff.mp e).1) XL.keeps (by rfl) (by rfl) (by rfl) (fun s e => recFacts_of (Bool.and_eq_true_iff.mp e).2) (by rfl) said (by decide +kernel) ⟨rfl, rfl, rfl, rfl, rfl, by decide +kernel⟩ ?hw ?hc
  case hw => w_witness2
  case hc => exact walk rfl
end Mine
theorem PySem.Challenge.cw_pb0319_01_holds : PySem.Challenge.rw_pb0319_01.Holds :=
  Mine.jn
