import PyProof.Rows.All
import Wide.All
import Open.Line
import PySem.Challenge.RW_xm0131_01
open PySem PySem.W PyProof.Rows
set_option Elab.async false
set_option maxRecDepth 100000
set_option linter.unusedVariables false
set_option linter.unusedSimpArgs false
set_option exponentiation.threshold 10000
namespace Mine

/-! text Fw1 -/
section

/-- data as trees -/
inductive D where
  | none
  | bool (b : Bool)
  | int (i : Int)
  | tup (ds : List D)
  | list (ds : List D)
  | pool
  | mat
  | raw (a : Addr)


noncomputable abbrev Gh := Nat × List (List Int)

/-- the world: frozen objects that nobody changes any more; the pool of draws; the matrix that is changed in place; the ghost state: how many were drawn, the matrix's rows -/
structure Wd where
  f : Addr → Option Obj
  g : Gh
  pool : Option (Addr × Value)
  mat : Option (Addr × List Addr)

noncomputable def Wd.hole (c : Wd) (b : Addr) : Prop := (∃ v, c.pool = some (b, v)) ∨ (∃ rs, c.mat = some (b, rs)) ∨ (∃ a rs, c.mat = some (a, rs) ∧ b ∈ rs)

noncomputable abbrev tupO (vs : Array Value) (n : Nat) : Obj := { cls := .type "tuple", dict := none, data := .seq vs n, slots := #[] }
noncomputable abbrev listO (vs : Array Value) (n : Nat) : Obj := { cls := .type "list", dict := none, data := .seq vs n, slots := #[] }


mutual
inductive Rep (c : Wd) : Value → D → Prop
  | none : Rep c .none .none
  | bool (b : Bool) : Rep c (.bool b) (.bool b)
  | int (i : Int) (t : Tok) : Rep c (.int i t) (.int i)
  | tup {a : Addr} {vs : List Value} {ds : List D} {n : Nat} : c.f a = some (tupO vs.toArray n) → Reps c vs ds → Rep c (.ref a) (.tup ds)
  | list {a : Addr} {vs : List Value} {ds : List D} {n : Nat} : c.f a = some (listO vs.toArray n) → Reps c vs ds → Rep c (.ref a) (.list ds)
  | pool {a : Addr} {v : Value} : c.pool = some (a, v) → Rep c (.ref a) .pool
  | mat {a : Addr} {rs : List Addr} : c.mat = some (a, rs) → Rep c (.ref a) .mat
  | raw (a : Addr) : Rep c (.ref a) (.raw a)
inductive Reps (c : Wd) : List Value → List D → Prop
  | nil : Reps c [] []
  | cons {v : Value} {d : D} {vs : List Value} {ds : List D} : Rep c v d → Reps c vs ds → Reps c (v :: vs) (d :: ds)
end

structure Wd.le (c c' : Wd) : Prop where
  f : ∀ b o, c.f b = some o → c'.f b = some o
  pool : c'.pool = c.pool
  mat : c'.mat = c.mat
  hole : ∀ b, c'.hole b ↔ c.hole b

theorem Wd.le.refl (c : Wd) : Wd.le c c := ⟨fun _ _ e => e, rfl, rfl, fun _ => Iff.rfl⟩
theorem Wd.le.trans {c c' c'' : Wd} (h : Wd.le c c') (k : Wd.le c' c'') : Wd.le c c'' :=
  ⟨fun b o e => k.f b o (h.f b o e), k.pool.trans h.pool, k.mat.trans h.mat, fun b => (k.hole b).trans (h.hole b)⟩

mutual
theorem Rep.mono {c c' : Wd} (h : Wd.le c c') : ∀ {v d}, Rep c v d → Rep c' v d
  | _, _, .none => .none
  | _, _, .bool b => .bool b
  | _, _, .int i t => .int i t
  | _, _, .tup e r => .tup (h.f _ _ e) (Reps.mono h r)
  | _, _, .list e r => .list (h.f _ _ e) (Reps.mono h r)
  | _, _, .pool e => .pool (h.pool.trans e)
  | _, _, .mat e => .mat (h.mat.trans e)
  | _, _, .raw a => .raw a
theorem Reps.mono {c c' : Wd} (h : Wd.le c c') : ∀ {vs ds}, Reps c vs ds → Reps c' vs ds
  | _, _, .nil => .nil
  | _, _, .cons r rs => .cons (Rep.mono h r) (Reps.mono h rs)
end

theorem Rep.int_inv {c : Wd} {v : Value} {i : Int} (h : Rep c v (.int i)) : ∃ t, v = .int i t := by cases h; exact ⟨_, rfl⟩
theorem Rep.bool_inv {c : Wd} {v : Value} {b : Bool} (h : Rep c v (.bool b)) : v = .bool b := by cases h; rfl
theorem Rep.none_inv {c : Wd} {v : Value} (h : Rep c v .none) : v = .none := by cases h; rfl
theorem Rep.list_inv {c : Wd} {v : Value} {ds : List D} (h : Rep c v (.list ds)) : ∃ a vs n, v = .ref a ∧ c.f a = some (listO vs.toArray n) ∧ Reps c vs ds := by
  cases h; exact ⟨_, _, _, rfl, by assumption, by assumption⟩
theorem Rep.tup_inv {c : Wd} {v : Value} {ds : List D} (h : Rep c v (.tup ds)) : ∃ a vs n, v = .ref a ∧ c.f a = some (tupO vs.toArray n) ∧ Reps c vs ds := by
  cases h; exact ⟨_, _, _, rfl, by assumption, by assumption⟩
theorem Reps.length {c : Wd} : ∀ {vs : List Value} {ds : List D}, Reps c vs ds → vs.length = ds.length
  | _, _, .nil => rfl
  | _, _, .cons _ r => congrArg (· + 1) (Reps.length r)
theorem Reps.get {c : Wd} : ∀ {vs : List Value} {ds : List D}, Reps c vs ds → ∀ {i : Nat} {d : D}, ds[i]? = some d → ∃ v, vs[i]? = some v ∧ Rep c v d
  | _, _, .nil, i, d, e => by simp at e
  | _, _, .cons r rs, 0, d, e => by simp at e; subst e; exact ⟨_, rfl, r⟩
  | _, _, .cons r rs, i + 1, d, e => by simp at e; simpa using Reps.get rs e
theorem Reps.append {c : Wd} : ∀ {vs : List Value} {ds : List D} {vs' ds'}, Reps c vs ds → Reps c vs' ds' → Reps c (vs ++ vs') (ds ++ ds')
  | _, _, _, _, .nil, h => h
  | _, _, _, _, .cons r rs, h => .cons r (Reps.append rs h)
theorem Reps.take {c : Wd} : ∀ {vs : List Value} {ds : List D}, Reps c vs ds → ∀ k, Reps c (vs.take k) (ds.take k)
  | _, _, .nil, k => by simp; exact .nil
  | _, _, .cons r rs, 0 => .nil
  | _, _, .cons r rs, k + 1 => .cons r (Reps.take rs k)
theorem Reps.set {c : Wd} : ∀ {vs : List Value} {ds : List D}, Reps c vs ds → ∀ {k : Nat} {v d}, Rep c v d → Reps c (vs.set k v) (ds.set k d)
  | _, _, .nil, k, _, _, _ => by simp; exact .nil
  | _, _, .cons r rs, 0, _, _, h => .cons h rs
  | _, _, .cons r rs, k + 1, _, _, h => .cons r (Reps.set rs h)


/-- a system: the program, the world, the heap at the law's call, the two name spaces, the frozen objects at the start, the script's cells -/
structure Sys where
  prog : Program
  w : World
  B : Heap
  mg : Str → Option Value
  mb : Str → Option Value
  c0 : Addr → Option Obj
  scr : List Int

noncomputable def RatD (a b : Int) : D := .tup [.int a, .int b]
noncomputable def il (l : List Int) : D := .list (l.map .int)


structure Sys.Good (X : Sys) : Prop where
  g : X.B.Ns mainGlobals X.mg
  b : X.B.Ns builtinsNs X.mb
  nolimit : X.B.NoLimit
  builtins : ∀ x : Str, x ≠ "__name__" → X.mb x = bootBuiltins x
  fn : ∀ d ∈ recsOf X.prog, ∃ a o pm code doc, X.mg d.name = some (.ref a) ∧ X.B.get? a = some o ∧ o.data = .func (Calls.docDef d.name d.params d.body d.scope pm code doc) ∧ X.B.CodeRec code d.name
  free : ∀ x ∈ (["len", "abs", "max", "range", "enumerate", "sum", "list", "int"] : List Str), X.mg x = none
  r0 : ∃ v, X.mg "R0" = some v ∧ ∀ c : Wd, (∀ b o, X.c0 b = some o → c.f b = some o) → Rep c v (RatD 0 1)
  r1 : ∃ v, X.mg "R1" = some v ∧ ∀ c : Wd, (∀ b o, X.c0 b = some o → c.f b = some o) → Rep c v (RatD 1 1)

/-- the rows' objects -/
inductive RowsAt (h : Heap) : List Addr → List (List Int) → Prop
  | nil : RowsAt h [] []
  | cons {r : Addr} {vs : List Value} {is : List Int} {n : Nat} {rs : List Addr} {M : List (List Int)} : h.get? r = some (listO vs.toArray n) → IntsAre vs is → RowsAt h rs M → RowsAt h (r :: rs) (is :: M)

structure Ok (X : Sys) (c : Wd) (s : Shared) : Prop where
  base : ∀ b o, X.B.get? b = some o → s.heap.get? b = some o
  c0 : ∀ b o, X.c0 b = some o → c.f b = some o
  wd : ∀ b o, c.f b = some o → s.heap.get? b = some o ∧ ∃ xs n, o.data = .seq xs n
  pool : ∀ a v, c.pool = some (a, v) → c.f a = none ∧ Rep c v (il X.scr) ∧ ∃ t n, s.heap.get? a = some (listO #[v, .int c.g.1 t] n)
  mat : ∀ a rs, c.mat = some (a, rs) → c.f a = none ∧ (∃ n, s.heap.get? a = some (listO (rs.map Value.ref).toArray n)) ∧ rs.Nodup ∧ a ∉ rs ∧ (∀ r ∈ rs, c.f r = none) ∧ RowsAt s.heap rs c.g.2
  apart : ∀ a v m rs, c.pool = some (a, v) → c.mat = some (m, rs) → a ≠ m ∧ a ∉ rs
  hb : ∀ b, c.hole b → X.B.get? b = none
  m0 : c.g.2 = [] → c.mat = none

/-- all that was stays, but the holes -/
structure Kp (c : Wd) (s s' : Shared) : Prop where
  same : ∃ h' tk, s' = { s with heap := h', toks := tk }
  all : ∀ b o, ¬ c.hole b → s.heap.get? b = some o → s'.heap.get? b = some o
  live : ∀ b, s'.heap.get? b = none → s.heap.get? b = none

theorem Kp.refl (c : Wd) (s : Shared) : Kp c s s := ⟨⟨s.heap, s.toks, rfl⟩, fun _ _ _ e => e, fun _ e => e⟩
theorem Kp.trans {c c' : Wd} {s s' s'' : Shared} (h : Kp c s s') (k : Kp c' s' s'') (hh : ∀ b, c'.hole b → c.hole b) : Kp c s s'' := by
  obtain ⟨⟨h1, t1, rfl⟩, a1, l1⟩ := h
  obtain ⟨⟨h2, t2, rfl⟩, a2, l2⟩ := k
  exact ⟨⟨h2, t2, rfl⟩, fun b o n e => a2 b o (fun q => n (hh b q)) (a1 b o n e), fun b e => l1 b (l2 b e)⟩
theorem Kp.of {c : Wd} {s s' : Shared} (h : Keeps s s') : Kp c s s' := by
  obtain ⟨h', tk, rfl, k⟩ := h
  refine ⟨⟨h', tk, rfl⟩, fun b o _ e => k b o e, fun b e => ?_⟩
  cases q : s.heap.get? b with
  | none => rfl
  | some o => have z := k b o q; rw [e] at z; cases z

theorem Keeps.tok' (s : Shared) (t : Nat) : Keeps s { s with toks := t } := ⟨s.heap, t, rfl, fun _ _ e => e⟩
theorem kget {s s' : Shared} (h : Keeps s s') {b : Addr} {o : Obj} (e : s.heap.get? b = some o) : s'.heap.get? b = some o := by
  obtain ⟨h', tk, rfl, k⟩ := h; exact k b o e
theorem Keeps.of_eq {s : Shared} {h' : Heap} {tk : Nat} (k : ∀ b o, s.heap.get? b = some o → h'.get? b = some o) : Keeps s { s with heap := h', toks := tk } := ⟨h', tk, rfl, k⟩

theorem RowsAt.keeps {h h' : Heap} : ∀ {rs : List Addr} {M : List (List Int)}, RowsAt h rs M → (∀ b ∈ rs, ∀ o, h.get? b = some o → h'.get? b = some o) → RowsAt h' rs M
  | _, _, .nil, _ => .nil
  | _, _, .cons e i r, k => .cons (k _ (by simp) _ e) i (RowsAt.keeps r fun b hb => k b (by simp [hb]))

theorem Ok.keeps {X : Sys} {c : Wd} {s s' : Shared} (h : Ok X c s) (k : Keeps s s') : Ok X c s' where
  base := fun b o e => kget k (h.base b o e)
  c0 := h.c0
  wd := fun b o e => ⟨kget k (h.wd b o e).1, (h.wd b o e).2⟩
  pool := fun a v e => let ⟨p, q, t, n, r⟩ := h.pool a v e; ⟨p, q, t, n, kget k r⟩
  mat := fun a rs e => let ⟨p, ⟨n, q⟩, t, u, v, r⟩ := h.mat a rs e; ⟨p, ⟨n, kget k q⟩, t, u, v, r.keeps fun _ _ _ e => kget k e⟩
  apart := h.apart
  hb := h.hb
  m0 := h.m0

/-- a hole bears a list -/
theorem RowsAt.get {h : Heap} : ∀ {rs : List Addr} {M : List (List Int)}, RowsAt h rs M → ∀ b ∈ rs, ∃ vs n, h.get? b = some (listO vs n)
  | _, _, .cons e _ r, b, hb => by
    rcases List.mem_cons.mp hb with rfl | hb
    · exact ⟨_, _, e⟩
    · exact RowsAt.get r b hb
theorem Ok.hole {X : Sys} {c : Wd} {s : Shared} (h : Ok X c s) {b : Addr} (hb : c.hole b) : c.f b = none ∧ ∃ vs n, s.heap.get? b = some (listO vs n) := by
  rcases hb with ⟨v, e⟩ | ⟨rs, e⟩ | ⟨a, rs, e, m⟩
  · obtain ⟨p, _, t, n, q⟩ := h.pool _ _ e; exact ⟨p, _, _, q⟩
  · obtain ⟨p, ⟨n, q⟩, _⟩ := h.mat _ _ e; exact ⟨p, _, _, q⟩
  · obtain ⟨_, _, _, _, v, r⟩ := h.mat _ _ e; exact ⟨v b m, r.get b m⟩

structure Ext (X : Sys) (c : Wd) (s : Shared) (c' : Wd) (s' : Shared) : Prop where
  keeps : Kp c s s'
  le : Wd.le c c'
  fresh : ∀ b o, c'.f b = some o → c.f b = some o ∨ s.heap.get? b = none
  ok : Ok X c' s'

theorem Ext.refl {X : Sys} {c : Wd} {s : Shared} (h : Ok X c s) : Ext X c s c s := ⟨Kp.refl c s, .refl c, fun _ _ e => .inl e, h⟩
theorem Ext.trans {X : Sys} {c c' c'' : Wd} {s s' s'' : Shared} (h : Ext X c s c' s') (k : Ext X c' s' c'' s'') : Ext X c s c'' s'' where
  keeps := h.keeps.trans k.keeps fun b => (h.le.hole b).mp
  le := h.le.trans k.le
  fresh := fun b o e => by
    rcases k.fresh b o e with q | q
    · exact h.fresh b o q
    · exact .inr (h.keeps.live b q)
  ok := k.ok
/-- the same world, a state that keeps all -/
theorem Ext.same {X : Sys} {c : Wd} {s s' : Shared} (h : Ok X c s) (k : Keeps s s') : Ext X c s c s' := ⟨.of k, .refl c, fun _ _ e => .inl e, h.keeps k⟩

/-- one more frozen object -/
noncomputable def Wd.put (c : Wd) (a : Addr) (o : Obj) : Wd := { c with f := fun b => if b = a then some o else c.f b }
theorem Wd.put_self (c : Wd) (a : Addr) (o : Obj) : (c.put a o).f a = some o := if_pos rfl
theorem Wd.put_le {c : Wd} {a : Addr} {o : Obj} (ha : c.f a = none) : Wd.le c (c.put a o) := ⟨fun b o' e => by
  by_cases q : b = a
  · subst q; rw [ha] at e; cases e
  · exact (if_neg q).trans e, rfl, rfl, fun _ => Iff.rfl⟩
theorem Ok.put {X : Sys} {c : Wd} {s : Shared} {a : Addr} {o : Obj} (h : Ok X c s) (hc : c.f a = none) (hh : ¬ c.hole a) (ho : s.heap.get? a = some o) (hd : ∃ xs n, o.data = .seq xs n) : Ok X (c.put a o) s where
  base := h.base
  c0 := fun b o e => (Wd.put_le hc).f b o (h.c0 b o e)
  wd := fun b o' e => by
    by_cases q : b = a
    · subst q; rw [Wd.put_self] at e; cases e; exact ⟨ho, hd⟩
    · exact h.wd b o' ((if_neg q).symm.trans e)
  pool := fun b v e => let ⟨p, q, r⟩ := h.pool b v e; ⟨(if_neg (by rintro rfl; exact hh (.inl ⟨v, e⟩))).trans p, q.mono (Wd.put_le hc), r⟩
  mat := fun b rs e => let ⟨p, q, t, u, v, r⟩ := h.mat b rs e
    ⟨(if_neg (by rintro rfl; exact hh (.inr (.inl ⟨rs, e⟩)))).trans p, q, t, u, fun r' hr' => (if_neg (by rintro rfl; exact hh (.inr (.inr ⟨b, rs, e, hr'⟩)))).trans (v r' hr'), r⟩
  apart := h.apart
  hb := h.hb
  m0 := h.m0
theorem Ok.fnone {X : Sys} {c : Wd} {s : Shared} (h : Ok X c s) {a : Addr} (ha : s.heap.get? a = none) : c.f a = none := by
  cases q : c.f a with
  | none => rfl
  | some o => rw [(h.wd a o q).1] at ha; cases ha
theorem Ok.nhole {X : Sys} {c : Wd} {s : Shared} (h : Ok X c s) {a : Addr} (ha : s.heap.get? a = none) : ¬ c.hole a := fun hb => by
  obtain ⟨_, vs, n, e⟩ := h.hole hb
  rw [ha] at e; cases e
theorem Ext.put {X : Sys} {c : Wd} {s s' : Shared} {a : Addr} {o : Obj} (h : Ok X c s) (ha : s.heap.get? a = none) (k : Keeps s s') (ho : s'.heap.get? a = some o) (hd : ∃ xs n, o.data = .seq xs n) :
    Ext X c s (c.put a o) s' where
  keeps := .of k
  le := Wd.put_le (h.fnone ha)
  fresh := fun b o' e => by
    by_cases q : b = a
    · subst q; exact .inr ha
    · exact .inl ((if_neg q).symm.trans e)
  ok := (h.keeps k).put (h.fnone ha) (h.nhole ha) ho hd

theorem get_size_none (h : Heap) : h.get? h.objs.size = none := Heap.get?_none_of_le (Nat.le_refl _)
theorem Keeps.push' (s : Shared) (o : Obj) (t : Nat) : Keeps s { s with heap := s.heap.push o, toks := t } := ⟨_, t, rfl, fun _ _ e => Heap.get?_push_of_some _ e⟩
/-- a new frozen object at the heap's end -/
theorem Ext.push {X : Sys} {c : Wd} {s : Shared} {o : Obj} {t : Nat} (h : Ok X c s) (hd : ∃ xs n, o.data = .seq xs n) (hf : o.isFreed = false) :
    Ext X c s (c.put s.heap.objs.size o) { s with heap := s.heap.push o, toks := t } :=
  Ext.put h (get_size_none _) (Keeps.push' s o t) (Heap.get?_push_size _ hf) hd

/-- where a name's value is -/
noncomputable def At (m : Str → Option Value) (env : Env) (h : Heap) (x : Str) (v : Value) : Prop :=
  (env.kindOf x = some .local ∧ m x = some v) ∨
  ((env.kindOf x = some .cell ∨ (env.kindOf x = some .free ∧ (x == ("__classdict__" : Str)) = false)) ∧ ∃ a, env.cells.lookup x = some a ∧ h.IsCell a (some v))

/-- the hidden owner: a comprehension's list, which lies just below the comprehension's names -/
noncomputable def hid : Str := "%"
noncomputable def Has (m : Str → Option Value) (env : Env) (h : Heap) (y : Str) (l : Addr) : Prop := (y = hid ∧ l + 1 = env.locals) ∨ (y ≠ hid ∧ At m env h y (.ref l))
theorem Has.map {m m' : Str → Option Value} {env : Env} {h h' : Heap} {y : Str} {l : Addr} (q : Has m env h y l) (f : At m env h y (.ref l) → At m' env h' y (.ref l)) : Has m' env h' y l := by
  rcases q with q | ⟨q, a⟩
  · exact .inl q
  · exact .inr ⟨q, f a⟩
theorem Has.at {m : Str → Option Value} {env : Env} {h : Heap} {y : Str} {l : Addr} (q : Has m env h y l) (hy : y ≠ hid) : At m env h y (.ref l) := by
  rcases q with q | ⟨q, a⟩
  · exact (hy q.1).elim
  · exact a

noncomputable abbrev Gam := List (Str × D)
noncomputable abbrev Oms := List (Str × List D)

/-- the frame's body: the names and what they bear, the lists that it owns -/
structure FB (env : Env) (G : Gam) (O : Oms) (s₀ : Shared) (c : Wd) (s : Shared) (m : Str → Option Value) (ol : Str → Addr) : Prop where
  ns : s.heap.Ns env.locals m
  names : ∀ x d, G.lookup x = some d → ∃ v, At m env s.heap x v ∧ Rep c v d
  own : ∀ y ds, O.lookup y = some ds → Has m env s.heap y (ol y) ∧ c.f (ol y) = none ∧ ¬ c.hole (ol y) ∧ s₀.heap.get? (ol y) = none ∧ ∃ vs n, s.heap.get? (ol y) = some (listO vs.toArray n) ∧ Reps c vs ds
  apart : ∀ y ds y' ds', O.lookup y = some ds → O.lookup y' = some ds' → ol y = ol y' → y = y'

/-- the frame's state -/
structure FS (X : Sys) (c₀ : Wd) (s₀ : Shared) (env : Env) (G : Gam) (O : Oms) (c : Wd) (s : Shared) : Prop where
  ext : Ext X c₀ s₀ c s
  kind : env.scope.kind = .function
  glo : env.globals = mainGlobals
  blt : env.builtins = builtinsNs
  base₀ : ∀ b o, X.B.get? b = some o → s₀.heap.get? b = some o
  new : s₀.heap.get? env.locals = none
  cells : ∀ x a, env.cells.lookup x = some a → (env.func ≠ none → s₀.heap.get? a = none) ∧ ∃ v, s.heap.IsCell a v
  cellsApart : ∀ x y a, env.cells.lookup x = some a → env.cells.lookup y = some a → x = y
  body : ∃ m ol, FB env G O s₀ c s m ol

variable {X : Sys} {c₀ c c' : Wd} {s₀ s s' : Shared} {env : Env} {G : Gam} {O : Oms}

theorem FS.ok (F : FS X c₀ s₀ env G O c s) : Ok X c s := F.ext.ok
theorem Heap.Ns.nhole {m : Str → Option Value} {a : Addr} (K : Ok X c s) (n : s.heap.Ns a m) : ¬ c.hole a := fun hb => by
  obtain ⟨_, vs, k, e⟩ := K.hole hb
  obtain ⟨o, es, ep, h1, h2, _⟩ := n
  rw [e] at h1; cases h1; cases h2
theorem Heap.IsCell.nhole {a : Addr} {v : Option Value} (K : Ok X c s) (n : s.heap.IsCell a v) : ¬ c.hole a := fun hb => by
  obtain ⟨_, vs, k, e⟩ := K.hole hb
  obtain ⟨o, h1, h2⟩ := n
  rw [e] at h1; cases h1; cases h2
theorem At.step {m : Str → Option Value} {x : Str} {v : Value} (K : Ok X c s) (k : Kp c s s') (l : At m env s.heap x v) : At m env s'.heap x v := by
  rcases l with l | ⟨a, b, e, n⟩
  · exact .inl l
  · have hn := Heap.IsCell.nhole K n
    obtain ⟨o, h1, h2⟩ := n
    exact .inr ⟨a, b, e, o, k.all _ _ hn h1, h2⟩
theorem FS.step (F : FS X c₀ s₀ env G O c s) (e : Ext X c s c' s') : FS X c₀ s₀ env G O c' s' where
  ext := F.ext.trans e
  kind := F.kind
  glo := F.glo
  blt := F.blt
  base₀ := F.base₀
  new := F.new
  cells := fun x a h => let ⟨p, v, n⟩ := F.cells x a h; ⟨p, v, let ⟨o, h1, h2⟩ := n; ⟨o, e.keeps.all _ _ (Heap.IsCell.nhole F.ok n) h1, h2⟩⟩
  cellsApart := F.cellsApart
  body := by
    obtain ⟨m, ol, B⟩ := F.body
    refine ⟨m, ol, ?_, fun x d h => ?_, fun y ds h => ?_, B.apart⟩
    · have hn := Heap.Ns.nhole F.ok B.ns
      obtain ⟨o, es, ep, h1, h2⟩ := B.ns
      exact ⟨o, es, ep, e.keeps.all _ _ hn h1, h2⟩
    · obtain ⟨v, l, r⟩ := B.names x d h
      exact ⟨v, l.step F.ok e.keeps, r.mono e.le⟩
    · obtain ⟨a, b, bh, b', vs, n, q, r⟩ := B.own y ds h
      refine ⟨a.map fun a => a.step F.ok e.keeps, ?_, fun z => bh ((e.le.hole _).mp z), b', vs, n, e.keeps.all _ _ bh q, r.mono e.le⟩
      cases z : c'.f (ol y) with
      | none => rfl
      | some o =>
        rcases e.fresh _ o z with t | t
        · rw [b] at t; cases t
        · rw [q] at t; cases t

/-- how much room there is -/
noncomputable def Rm (n : Nat) (A : Around) : Prop := A.handled = none ∧ A.depth + n ≤ 900 ∧ A.units + 10 * n + 100 ≤ 9000

/-- the expression's value, as a tree -/
structure EV (X : Sys) (A : Around) (env : Env) (G : Gam) (O : Oms) (σ : Gh) (e : Expr) (d : D) (σ' : Gh) : Prop where
  run : ∀ c₀ s₀ c s, FS X c₀ s₀ env G O c s → c.g = σ → wpAny (model X.prog X.w) A (eval e env) (fun v s' => ∃ c', Ext X c s c' s' ∧ Rep c' v d ∧ c'.g = σ') (fun _ _ => False) s
/-- the test's answer -/
structure TV (X : Sys) (A : Around) (env : Env) (G : Gam) (O : Oms) (σ : Gh) (e : Expr) (b : Bool) : Prop where
  run : ∀ c₀ s₀ c s, FS X c₀ s₀ env G O c s → c.g = σ → wpAny (model X.prog X.w) A (isTrue e env (eval e env)) (fun v s' => v = b ∧ ∃ c', Ext X c s c' s' ∧ c'.g = σ) (fun _ _ => False) s

/-- a function of the module -/
noncomputable def FN (X : Sys) (f : Str) : Prop := ∃ a o fd, X.mg f = some (.ref a) ∧ X.B.get? a = some o ∧ o.data = .func fd
/-- a contract: called with arguments that bear ds, it gives what bears d; all that was stays -/
noncomputable def CT (X : Sys) (k : Nat) (f : Str) (σ : Gh) (ds : List D) (d : D) (σ' : Gh) : Prop :=
  FN X f ∧ ∀ (A : Around) (c : Wd) (s : Shared) (vs : List Value) (a : Addr), Rm k A → Ok X c s → X.mg f = some (.ref a) → Reps c vs ds → c.g = σ →
    wpAny (model X.prog X.w) A (call (.ref a) vs) (fun v s' => ∃ c', Ext X c s c' s' ∧ Rep c' v d ∧ c'.g = σ') (fun _ _ => False) s

/-- what only iterators and their like are -/
noncomputable def Itr (o : Obj) : Prop := match o.data with | .seq _ _ => False | .dict _ _ => False | .cell _ => False | _ => True
structure St where
  G : Gam
  O : Oms
  σ : Gh
inductive Out where
  | nx (S : St)
  | ret (d : D) (σ : Gh)

/-- what a statement leaves as it was: the frozen objects, the iterators -/
structure Rl (c : Wd) (s : Shared) (c' : Wd) (s' : Shared) : Prop where
  f : ∀ b o, c.f b = some o → c'.f b = some o
  rep : ∀ v d, Rep c v d → Rep c' v d
  itr : ∀ b o, s.heap.get? b = some o → Itr o → s'.heap.get? b = some o
theorem Rl.refl (c : Wd) (s : Shared) : Rl c s c s := ⟨fun _ _ e => e, fun _ _ e => e, fun _ _ e _ => e⟩
theorem Rl.trans {c c' c'' : Wd} {s s' s'' : Shared} (h : Rl c s c' s') (k : Rl c' s' c'' s'') : Rl c s c'' s'' := ⟨fun b o e => k.f b o (h.f b o e), fun v d e => k.rep v d (h.rep v d e), fun b o e i => k.itr b o (h.itr b o e i) i⟩
theorem Ext.rl {c c' : Wd} {s s' : Shared} (K : Ok X c s) (e : Ext X c s c' s') : Rl c s c' s' :=
  ⟨e.le.f, fun _ _ r => r.mono e.le, fun b o h i => e.keeps.all b o (fun hb => by obtain ⟨_, vs, n, z⟩ := K.hole hb; rw [h] at z; cases z; exact i) h⟩

/-- the statements' outcome -/
noncomputable def Post (X : Sys) (c₀ : Wd) (s₀ : Shared) (env : Env) (c : Wd) (s : Shared) : Out → Flow → Shared → Prop
  | .nx S, fl, s' => fl = .next ∧ ∃ c', FS X c₀ s₀ env S.G S.O c' s' ∧ c'.g = S.σ ∧ Rl c s c' s'
  | .ret d σ, fl, s' => ∃ v, fl = .ret v ∧ ∃ c', Ext X c₀ s₀ c' s' ∧ Rep c' v d ∧ c'.g = σ
structure TR (X : Sys) (A : Around) (env : Env) (S : St) (ss : List Stmt) (out : Out) : Prop where
  run : ∀ c₀ s₀ c s, FS X c₀ s₀ env S.G S.O c s → c.g = S.σ → wpAny (model X.prog X.w) A (execs ss env) (Post X c₀ s₀ env c s out) (fun _ _ => False) s
structure TS (X : Sys) (A : Around) (env : Env) (S : St) (st : Stmt) (out : Out) : Prop where
  run : ∀ c₀ s₀ c s, FS X c₀ s₀ env S.G S.O c s → c.g = S.σ → wpAny (model X.prog X.w) A (exec st env) (Post X c₀ s₀ env c s out) (fun _ _ => False) s

theorem TR.nil {X : Sys} {A : Around} {env : Env} {S : St} : TR X A env S [] (.nx S) := .mk fun c₀ s₀ c s F hg => wpAny_execs_nil ⟨rfl, c, F, hg, .refl c s⟩
theorem Post.later {X : Sys} {c₀ : Wd} {s₀ : Shared} {env : Env} {c c₁ : Wd} {s s₁ : Shared} {out : Out} {fl : Flow} {s' : Shared} (k : Rl c s c₁ s₁)
    (h : Post X c₀ s₀ env c₁ s₁ out fl s') : Post X c₀ s₀ env c s out fl s' := by
  cases out with
  | nx S => obtain ⟨e, c', F, g, r⟩ := h; exact ⟨e, c', F, g, k.trans r⟩
  | ret d σ => exact h
theorem TR.cons {X : Sys} {A : Around} {env : Env} {S S₁ : St} {st : Stmt} {ss : List Stmt} {out : Out} (h₁ : TS X A env S st (.nx S₁)) (h₂ : TR X A env S₁ ss out) : TR X A env S (st :: ss) out :=
  .mk fun c₀ s₀ c s F hg => wpAny_execs_cons (wpAny_mono (h₁.run c₀ s₀ c s F hg) (fun fl s₁ h => by
    obtain ⟨rfl, c₁, F₁, hg₁, k⟩ := h
    exact wpAny_mono (h₂.run c₀ s₀ c₁ s₁ F₁ hg₁) (fun _ _ q => q.later k) fun _ _ x => x) fun _ _ x => x)
theorem TR.cons_ret {X : Sys} {A : Around} {env : Env} {S : St} {st : Stmt} {ss : List Stmt} {d : D} {σ : Gh} (h₁ : TS X A env S st (.ret d σ)) : TR X A env S (st :: ss) (.ret d σ) :=
  .mk fun c₀ s₀ c s F hg => wpAny_execs_cons (wpAny_mono (h₁.run c₀ s₀ c s F hg) (fun fl s₁ h => by
    obtain ⟨v, rfl, h⟩ := h
    exact ⟨v, rfl, h⟩) fun _ _ x => x)
end

/-! text Fw2 -/
section
open PySem.Calls

variable {X : Sys} {A : Around} {env : Env} {G : Gam} {O : Oms} {σ σ₁ σ₂ σ₃ : Gh}

theorem EV.name {x : Str} {pos : Pos} {d : D} (hx : G.lookup x = some d) (hd : (x == ("__debug__" : Str)) = false := by decide) : EV X A env G O σ (.Name x pos) d σ := .mk fun c₀ s₀ c s F hg => by
  obtain ⟨m, ol, B⟩ := F.body
  obtain ⟨v, l, r⟩ := B.names x d hx
  have fin : ∃ c', Ext X c s c' s ∧ Rep c' v d ∧ c'.g = σ := ⟨c, .refl F.ok, r, hg⟩
  refine wpAny_Name ?_ hd
  rcases l with ⟨k, e⟩ | ⟨k | ⟨k, z⟩, a, e, n⟩
  · exact wpAny_loadName_local F.kind k B.ns e fin
  · exact wpAny_loadName_cell F.kind k e n fin
  · exact wpAny_loadName_free F.kind k e n fin z

theorem EV.glob {x : Str} {pos : Pos} {d : D} (Y : X.Good) (hk : env.kindOf x = some .globalImplicit)
    (hx : ∃ v, X.mg x = some v ∧ ∀ c : Wd, (∀ b o, X.c0 b = some o → c.f b = some o) → Rep c v d)
    (hd : (x == ("__debug__" : Str)) = false := by decide) : EV X A env G O σ (.Name x pos) d σ := .mk fun c₀ s₀ c s F hg => by
  obtain ⟨v, e, r⟩ := hx
  refine Name_function_global F.kind hk (loadGlobal_global (mg := X.mg) ?_ e ⟨c, .refl F.ok, r c F.ok.c0, hg⟩) hd
  rw [F.glo]; exact Y.g.keeps F.ok.base

theorem EV.int {i : Int} {k pos} : EV X A env G O σ (.Constant (.int i) k pos) (.int i) σ := .mk fun c₀ s₀ c s F hg =>
  wpAny_Constant_int ⟨c, .same F.ok (Keeps.tok' _ _), .int _ _, hg⟩
theorem EV.none {k pos} : EV X A env G O σ (.Constant .none k pos) .none σ := .mk fun c₀ s₀ c s F hg =>
  Constant_none ⟨c, .refl F.ok, .none, hg⟩
theorem EV.bool {b : Bool} {k pos} : EV X A env G O σ (.Constant (.bool b) k pos) (.bool b) σ := .mk fun c₀ s₀ c s F hg =>
  Constant_bool ⟨c, .refl F.ok, .bool b, hg⟩

/-- an operator on two trees -/
noncomputable def BO (X : Sys) (A : Around) (op : Operator) (d₁ d₂ d : D) : Prop :=
  ∀ c s v₁ v₂, Ok X c s → Rep c v₁ d₁ → Rep c v₂ d₂ → wpAny (model X.prog X.w) A (binaryOp op v₁ v₂) (fun v s' => ∃ c', Ext X c s c' s' ∧ Rep c' v d ∧ c'.g = c.g) (fun _ _ => False) s
/-- a fresh list: nobody else holds it, and it is not frozen yet -/
noncomputable def Fresh (X : Sys) (c : Wd) (s : Shared) (ds : List D) (v : Value) (c' : Wd) (s' : Shared) : Prop :=
  ∃ l, v = .ref l ∧ s.heap.get? l = .none ∧ Ext X c s c' s' ∧ c'.f l = .none ∧ ∃ vs n, s'.heap.get? l = some (listO vs.toArray n) ∧ Reps c' vs ds
noncomputable def BF (X : Sys) (A : Around) (op : Operator) (d₁ d₂ : D) (ds : List D) : Prop :=
  ∀ c s v₁ v₂, Ok X c s → Rep c v₁ d₁ → Rep c v₂ d₂ → wpAny (model X.prog X.w) A (binaryOp op v₁ v₂) (fun v s' => ∃ c', Fresh X c s ds v c' s' ∧ c'.g = c.g) (fun _ _ => False) s
structure EF (X : Sys) (A : Around) (env : Env) (G : Gam) (O : Oms) (σ : Gh) (e : Expr) (ds : List D) (σ' : Gh) : Prop where
  run : ∀ c₀ s₀ c s, FS X c₀ s₀ env G O c s → c.g = σ → wpAny (model X.prog X.w) A (eval e env) (fun v s' => ∃ c', Fresh X c s ds v c' s' ∧ c'.g = σ') (fun _ _ => False) s

theorem Ext.nhole {c c' : Wd} {s s' : Shared} (K : Ok X c s) (e : Ext X c s c' s') {l : Addr} (hl : s.heap.get? l = .none) : ¬ c'.hole l := fun h => K.nhole hl ((e.le.hole l).mp h)
theorem Fresh.freeze {c c' : Wd} {s s' : Shared} {ds : List D} {v : Value} (K : Ok X c s) (h : Fresh X c s ds v c' s') : ∃ c'', Ext X c s c'' s' ∧ Rep c'' v (.list ds) ∧ c''.g = c'.g := by
  obtain ⟨l, rfl, hl, e, hc, vs, n, hs, r⟩ := h
  have hh := Ext.nhole K e hl
  refine ⟨c'.put l (listO vs.toArray n), ⟨e.keeps, e.le.trans (Wd.put_le hc), fun b o q => ?_, e.ok.put hc hh hs ⟨_, _, rfl⟩⟩, .list (Wd.put_self _ _ _) (r.mono (Wd.put_le hc)), rfl⟩
  by_cases z : b = l
  · subst z; exact .inr hl
  · exact e.fresh b o ((if_neg z).symm.trans q)
theorem EV.ofF {e : Expr} {ds : List D} (h : EF X A env G O σ e ds σ₁) : EV X A env G O σ e (.list ds) σ₁ := .mk fun c₀ s₀ c s F hg =>
  wpAny_mono (h.run c₀ s₀ c s F hg) (fun v s' ⟨c', q, g⟩ => let ⟨c'', e, r, g'⟩ := q.freeze F.ok; ⟨c'', e, r, g'.trans g⟩) fun _ _ x => x

theorem EV.bin {l r : Expr} {op : Operator} {pos : Pos} {d₁ d₂ d : D} (h₁ : EV X A env G O σ l d₁ σ₁) (h₂ : EV X A env G O σ₁ r d₂ σ₂) (hb : BO X A op d₁ d₂ d) : EV X A env G O σ (.BinOp l op r pos) d σ₂ := .mk fun c₀ s₀ c s F hg =>
  wpAny_BinOp (wpAny_mono (h₁.run c₀ s₀ c s F hg) (fun v₁ s₁ ⟨c₁, e₁, r₁, g₁⟩ =>
    wpAny_mono (h₂.run c₀ s₀ c₁ s₁ (F.step e₁) g₁) (fun v₂ s₂ ⟨c₂, e₂, r₂, g₂⟩ =>
      wpAny_mono (hb c₂ s₂ v₁ v₂ e₂.ok (r₁.mono e₂.le) r₂) (fun v s' ⟨c', e', r', g'⟩ => ⟨c', (e₁.trans e₂).trans e', r', g'.trans g₂⟩) fun _ _ x => x) fun _ _ x => x) fun _ _ x => x)
theorem EF.bin {l r : Expr} {op : Operator} {pos : Pos} {d₁ d₂ : D} {ds : List D} (h₁ : EV X A env G O σ l d₁ σ₁) (h₂ : EV X A env G O σ₁ r d₂ σ₂) (hb : BF X A op d₁ d₂ ds) : EF X A env G O σ (.BinOp l op r pos) ds σ₂ := .mk fun c₀ s₀ c s F hg =>
  wpAny_BinOp (wpAny_mono (h₁.run c₀ s₀ c s F hg) (fun v₁ s₁ ⟨c₁, e₁, r₁, g₁⟩ =>
    wpAny_mono (h₂.run c₀ s₀ c₁ s₁ (F.step e₁) g₁) (fun v₂ s₂ ⟨c₂, e₂, r₂, g₂⟩ =>
      wpAny_mono (hb c₂ s₂ v₁ v₂ e₂.ok (r₁.mono e₂.le) r₂) (fun v s' ⟨c', ⟨l, e, n, e', q⟩, g'⟩ => ⟨c', ⟨l, e, e₁.keeps.live _ (e₂.keeps.live _ n), (e₁.trans e₂).trans e', q⟩, g'.trans g₂⟩) fun _ _ x => x) fun _ _ x => x) fun _ _ x => x)

theorem BO.ofInts {op : Operator} {i j k : Int} (h : ∀ (c : Wd) (s : Shared) (t u : Tok) (Q : Value → Shared → Prop), Q (.int k s.toks) { s with toks := s.toks + 1 } → wpAny (model X.prog X.w) A (binaryOp op (.int i t) (.int j u)) Q (fun _ _ => False) s) :
    BO X A op (.int i) (.int j) (.int k) := fun c s v₁ v₂ K r₁ r₂ => by
  obtain ⟨t, rfl⟩ := r₁.int_inv
  obtain ⟨u, rfl⟩ := r₂.int_inv
  exact h c s t u _ ⟨c, .same K (Keeps.tok' _ _), .int _ _, rfl⟩
theorem BO.add {i j : Int} : BO X A .Add (.int i) (.int j) (.int (i + j)) := .ofInts fun _ _ _ _ _ q => P.add_int q
theorem BO.sub {i j : Int} : BO X A .Sub (.int i) (.int j) (.int (i - j)) := .ofInts fun _ _ _ _ _ q => P.sub_int q
theorem BO.mul {i j : Int} (hm : IntMulOk i j) : BO X A .Mult (.int i) (.int j) (.int (i * j)) := .ofInts fun _ _ _ _ _ q => P.mul_int q hm
theorem BO.mod {i j : Int} (hj : j ≠ 0) : BO X A .Mod (.int i) (.int j) (.int (i.fmod j)) := .ofInts fun _ _ _ _ _ q => mod_int' hj q
theorem BO.div {i j : Int} (hj : j ≠ 0) (hs : j.natAbs.log2 < 9000) : BO X A .FloorDiv (.int i) (.int j) (.int (i.fdiv j)) := .ofInts fun _ _ _ _ _ q => floordiv_int hj q (Or.inl (PyProof.noPylong_of_log2 hs))
theorem BO.pow {i j : Int} (hn : 0 ≤ j) (hs : (Builtin.Int.intBits i : Int) * j ≤ 2 ^ 27) : BO X A .Pow (.int i) (.int j) (.int (i ^ j.toNat)) := .ofInts fun _ _ _ _ _ q => pow_int hn hs q

theorem EV.neg {e : Expr} {pos : Pos} {i : Int} (h : EV X A env G O σ e (.int i) σ₁) : EV X A env G O σ (.UnaryOp .USub e pos) (.int (-i)) σ₁ := .mk fun c₀ s₀ c s F hg =>
  UnaryOp_ (wpAny_mono (h.run c₀ s₀ c s F hg) (fun v s₁ ⟨c₁, e₁, r₁, g₁⟩ => by
    obtain ⟨t, rfl⟩ := r₁.int_inv
    exact P.neg_int ⟨c₁, e₁.trans (.same e₁.ok (Keeps.tok' _ _)), .int _ _, g₁⟩) fun _ _ x => x)

theorem Fresh.new {c : Wd} {s : Shared} {vs : List Value} {ds : List D} (K : Ok X c s) (r : Reps c vs ds) :
    Fresh X c s ds (.ref s.heap.objs.size) c { s with heap := s.heap.push { cls := .type "list", data := .seq vs.toArray } } :=
  ⟨_, rfl, get_size_none _, .same K (Keeps.push' s _ _), K.fnone (get_size_none _), vs, 0, Heap.get?_push_size _ rfl, r⟩
theorem BF.cat {a b : List D} (hsz : a.length + b.length ≤ 100000) : BF X A .Add (.list a) (.list b) (a ++ b) := by
  intro c s v₁ v₂ K r₁ r₂
  obtain ⟨l, vs, n, rfl, e₁, q₁⟩ := r₁.list_inv
  obtain ⟨l', vs', n', rfl, e₂, q₂⟩ := r₂.list_inv
  have h1 := q₁.length
  have h2 := q₂.length
  refine P.add_list (K.wd _ _ e₁).1 (K.wd _ _ e₂).1 ⟨c, ?_, rfl⟩ (by simp [sizeLine]; omega)
  have := Fresh.new K (q₁.append q₂)
  simpa using this

theorem foldl_rep (items : List Value) : ∀ k, List.foldl (fun x1 x2 => x1 ++ x2) (#[] : Array Value) (List.replicate k items.toArray) = ((List.replicate k items).flatten).toArray := by
  intro k
  have gen : ∀ (k : Nat) (acc : List Value), List.foldl (fun x1 x2 => x1 ++ x2) acc.toArray (List.replicate k items.toArray) = (acc ++ (List.replicate k items).flatten).toArray := by
    intro k
    induction k with
    | zero => intro acc; simp
    | succ k ih => intro acc; simp only [List.replicate_succ, List.foldl_cons, List.append_toArray, List.flatten_cons]; rw [ih]; simp
  simpa using gen k []
theorem Reps.flat {c : Wd} {vs : List Value} {ds : List D} (h : Reps c vs ds) : ∀ k, Reps c (List.replicate k vs).flatten (List.replicate k ds).flatten
  | 0 => .nil
  | k + 1 => by simp only [List.replicate_succ, List.flatten_cons]; exact h.append (Reps.flat h k)

theorem BF.rep {a : List D} {x : Int} (hx : x ≤ 1000) (hx0 : -1000 ≤ x) (hsz : a.length ≤ 1000) : BF X A .Mult (.list a) (.int x) (List.replicate x.toNat a).flatten := by
  intro c s v₁ v₂ K r₁ r₂
  obtain ⟨l, vs, n, rfl, e₁, q₁⟩ := r₁.list_inv
  obtain ⟨u, rfl⟩ := r₂.int_inv
  have hl := (K.wd _ _ e₁).1
  have hlen := q₁.length
  have hb : vs.toArray.size * x.toNat ≤ 2 ^ 24 := by
    have : vs.toArray.size ≤ 1000 := by simp; omega
    have h2 : x.toNat ≤ 1000 := by omega
    exact Nat.le_trans (Nat.mul_le_mul this h2) (by decide)
  refine wpAny_binaryOp_repeat_ref (T := "list") (U := "int") (by decide) ⟨_, hl, rfl⟩ (fun s' => typeIs_int s' x u) noFill_list_mul F.fills_int_mul F.slot_int_rmul repeat_list F.slot_int_index.lookup
    (call_meets F.slot_int_rmul (typeIs_int s x u) F.entry_int_rmul (F.args_int_rmul_2 _ _) (int___rmul___int_list x u l vs.toArray n)
      ⟨hl, rfl, ⟨_, hl, rfl⟩, call_meets F.slot_list_mul ⟨_, hl, rfl⟩ F.entry_list_mul (F.args_list_mul_2 _ _)
        (AutoListH.list___mul___list_int_3 l vs.toArray n x u (by simp [Builtin.List.listFitsIndex]; omega) (by omega) (by simp [Builtin.List.listTooLong, sizeLine] at hb ⊢; omega))
        ⟨hl, ⟨c, ?_, rfl⟩⟩⟩)
  have hz : List.foldl (fun x1 x2 => x1 ++ x2) (#[] : Array Value) (List.replicate (if vs.toArray.isEmpty = true then 0 else x.toNat) vs.toArray) = ((List.replicate x.toNat vs).flatten).toArray := by
    cases vs with
    | nil => simp
    | cons v vs => rw [if_neg (by simp), foldl_rep]
  rw [hz]
  exact Fresh.new K (q₁.flat _)
end

/-! text Fw3 -/
section
open PySem.Calls PySem.SeqAt

variable {X : Sys} {A : Around} {env : Env} {G : Gam} {O : Oms} {σ σ₁ σ₂ σ₃ : Gh}

mutual
noncomputable def D.eq : D → D → Bool
  | .int i, .int j => i == j
  | .tup a, .tup b => D.eqs a b
  | .list a, .list b => D.eqs a b
  | _, _ => false
noncomputable def D.eqs : List D → List D → Bool
  | [], [] => true
  | a :: as, b :: bs => D.eq a b && D.eqs as bs
  | _, _ => false
end
mutual
/-- trees that may be compared here -/
noncomputable def D.cok : Nat → D → D → Bool
  | _, .int _, .int _ => true
  | n + 1, .tup a, .tup b => D.coks n a b
  | n + 1, .list a, .list b => D.coks n a b
  | _, _, _ => false
noncomputable def D.coks : Nat → List D → List D → Bool
  | n, a :: as, b :: bs => D.cok n a b && D.coks n as bs
  | _, _, _ => true
end

theorem cok_inv {n : Nat} {d e : D} (h : D.cok n d e = true) : (∃ i j, d = .int i ∧ e = .int j) ∨ ∃ m ds es, n = m + 1 ∧ D.coks m ds es = true ∧ ((d = .tup ds ∧ e = .tup es) ∨ (d = .list ds ∧ e = .list es)) := by
  unfold D.cok at h
  split at h
  · exact .inl ⟨_, _, rfl, rfl⟩
  · exact .inr ⟨_, _, _, rfl, h, .inl ⟨rfl, rfl⟩⟩
  · exact .inr ⟨_, _, _, rfl, h, .inr ⟨rfl, rfl⟩⟩
  · cases h
theorem Reps.inv {c : Wd} {v : Value} {vs : List Value} {ds : List D} (h : Reps c (v :: vs) ds) : ∃ d es, ds = d :: es ∧ Rep c v d ∧ Reps c vs es := by
  cases h with | cons r rs => exact ⟨_, _, rfl, r, rs⟩
theorem Reps.inv0 {c : Wd} {ds : List D} (h : Reps c [] ds) : ds = [] := by cases h; rfl
theorem Reps.uniq_of {c : Wd} {n : Nat} (ih : ∀ {v : Value} {d e : D}, Rep c v d → Rep c v e → D.cok n d e = true → D.eq d e = true) {vs : List Value} {ds : List D} (r : Reps c vs ds) : ∀ {es : List D}, Reps c vs es → D.coks n ds es = true → D.eqs ds es = true := by
  induction vs generalizing ds with
  | nil =>
    intro es q _
    rw [r.inv0, q.inv0]; rfl
  | cons v vs jh =>
    intro es q h
    obtain ⟨d, ds, rfl, r, rs⟩ := r.inv
    obtain ⟨e, es, rfl, q, qs⟩ := q.inv
    simp only [D.coks, Bool.and_eq_true] at h
    simp only [D.eqs, Bool.and_eq_true]
    exact ⟨ih r q h.1, jh rs qs h.2⟩
theorem Rep.uniq {c : Wd} {n : Nat} : ∀ {v : Value} {d e : D}, Rep c v d → Rep c v e → D.cok n d e = true → D.eq d e = true := by
  induction n with
  | zero =>
    intro v d e r q h
    rcases cok_inv h with ⟨i, j, rfl, rfl⟩ | ⟨m, ds, es, e, _⟩
    · obtain ⟨t, rfl⟩ := r.int_inv
      obtain ⟨u, e⟩ := q.int_inv
      cases e; simp [D.eq]
    · cases e
  | succ n ih =>
    intro v d e r q h
    rcases cok_inv h with ⟨i, j, rfl, rfl⟩ | ⟨m, ds, es, e, k, ⟨rfl, rfl⟩ | ⟨rfl, rfl⟩⟩
    · obtain ⟨t, rfl⟩ := r.int_inv
      obtain ⟨u, e⟩ := q.int_inv
      cases e; simp [D.eq]
    · cases e
      obtain ⟨a, vs, k', rfl, e₁, r₁⟩ := r.tup_inv
      obtain ⟨a', vs', k'', e, e₂, r₂⟩ := q.tup_inv
      cases e; rw [e₁] at e₂; cases e₂
      simp only [D.eq]
      exact r₁.uniq_of ih r₂ k
    · cases e
      obtain ⟨a, vs, k', rfl, e₁, r₁⟩ := r.list_inv
      obtain ⟨a', vs', k'', e, e₂, r₂⟩ := q.list_inv
      cases e; rw [e₁] at e₂; cases e₂
      simp only [D.eq]
      exact r₁.uniq_of ih r₂ k

theorem eqs_all : ∀ {ds es : List D}, D.eqs ds es = ((List.range (min ds.length es.length)).all (fun j => D.eq (ds.getD j .none) (es.getD j .none)) && ds.length == es.length)
  | [], [] => by simp [D.eqs]
  | [], e :: es => by simp [D.eqs]
  | d :: ds, [] => by simp [D.eqs]
  | d :: ds, e :: es => by
    simp only [D.eqs, eqs_all (ds := ds) (es := es), List.length_cons]
    rw [Nat.add_min_add_right, List.range_succ_eq_map]
    simp [List.all_map, Function.comp_def, Bool.and_assoc]

theorem Reps.getD {c : Wd} {vs : List Value} {ds : List D} (h : Reps c vs ds) {j : Nat} (hj : j < vs.toArray.size) : Rep c vs.toArray[j] (ds.getD j .none) := by
  have hj' : j < ds.length := by have := h.length; simp at hj; omega
  obtain ⟨v, e, r⟩ := h.get (List.getElem?_eq_getElem hj')
  have : vs.toArray[j] = v := by
    have h1 : vs[j]? = some v := e
    simp at hj
    rw [List.getElem?_eq_getElem hj] at h1
    simpa using h1
  rw [this, List.getD_eq_getElem?_getD, List.getElem?_eq_getElem hj']; exact r
theorem coks_get : ∀ {n : Nat} {ds es : List D} {j : Nat}, D.coks n ds es = true → j < ds.length → j < es.length → D.cok n (ds.getD j .none) (es.getD j .none) = true
  | n, d :: ds, e :: es, 0, h, _, _ => by simp only [D.coks, Bool.and_eq_true] at h; simpa using h.1
  | n, d :: ds, e :: es, j + 1, h, h1, h2 => by
    simp only [D.coks, Bool.and_eq_true] at h
    have := coks_get (j := j) h.2 (by simpa using h1) (by simpa using h2)
    simpa using this

theorem eqAt_ints {s : Shared} {c : Wd} {v₁ v₂ : Value} {i j : Int} (r : Rep c v₁ (.int i)) (q : Rep c v₂ (.int j)) (A : Around) : EqAt A s v₁ v₂ (D.eq (.int i) (.int j)) := by
  obtain ⟨t, rfl⟩ := r.int_inv
  obtain ⟨u, rfl⟩ := q.int_inv
  simp only [D.eq]; exact EqAt.int_int i t j u
theorem eqAt_tups {s : Shared} {c : Wd} (K : Ok X c s) {n : Nat} {A : Around} (ih : ∀ {v₁ v₂ : Value} {d₁ d₂ : D}, Rep c v₁ d₁ → Rep c v₂ d₂ → D.cok n d₁ d₂ = true → EqAt A.in1 s v₁ v₂ (D.eq d₁ d₂))
    {v₁ v₂ : Value} {ds es : List D} (r : Rep c v₁ (.tup ds)) (q : Rep c v₂ (.tup es)) (h : D.coks n ds es = true) (hu : A.units < cLine) : EqAt A s v₁ v₂ (D.eq (.tup ds) (.tup es)) := by
  have uq : Rep c v₁ (.tup es) → D.eq (.tup ds) (.tup es) = true := fun q' => Rep.uniq (n := n + 1) r q' (by simpa only [D.cok] using h)
  obtain ⟨a, vs, k, rfl, e₁, r₁⟩ := r.tup_inv
  obtain ⟨a', vs', k', rfl, e₂, r₂⟩ := q.tup_inv
  by_cases hne : a = a'
  · subst hne; rw [uq q]; exact EqAt.same _
  have l₁ := r₁.length
  have l₂ := r₂.length
  refine EqAt.of_refs hne ?_
  have := RcAt.tuples (A := A) (s := s) (l := a) (b := a') (e := fun j => D.eq (ds.getD j .none) (es.getD j .none)) ⟨_, (K.wd _ _ e₁).1, rfl, _, rfl⟩ ⟨_, (K.wd _ _ e₂).1, rfl, _, rfl⟩ hu
    (fun j h1 h2 => ih (r₁.getD h1) (r₂.getD h2) (coks_get h (by simp at h1; omega) (by simp at h2; omega)))
  simp only [D.eq]
  rw [eqs_all, ← l₁, ← l₂]
  simpa using this
theorem eqAt_lists {s : Shared} {c : Wd} (K : Ok X c s) {n : Nat} {A : Around} (ih : ∀ {v₁ v₂ : Value} {d₁ d₂ : D}, Rep c v₁ d₁ → Rep c v₂ d₂ → D.cok n d₁ d₂ = true → EqAt A.in1 s v₁ v₂ (D.eq d₁ d₂))
    {v₁ v₂ : Value} {ds es : List D} (r : Rep c v₁ (.list ds)) (q : Rep c v₂ (.list es)) (h : D.coks n ds es = true) (hu : A.units < cLine) : EqAt A s v₁ v₂ (D.eq (.list ds) (.list es)) := by
  have uq : Rep c v₁ (.list es) → D.eq (.list ds) (.list es) = true := fun q' => Rep.uniq (n := n + 1) r q' (by simpa only [D.cok] using h)
  obtain ⟨a, vs, k, rfl, e₁, r₁⟩ := r.list_inv
  obtain ⟨a', vs', k', rfl, e₂, r₂⟩ := q.list_inv
  by_cases hne : a = a'
  · subst hne; rw [uq q]; exact EqAt.same _
  have l₁ := r₁.length
  have l₂ := r₂.length
  refine EqAt.of_refs hne ?_
  simp only [D.eq]
  rw [eqs_all, ← l₁, ← l₂]
  by_cases hl : vs.length = vs'.length
  · have := RcAt.lists (A := A) (s := s) (l := a) (b := a') (e := fun j => D.eq (ds.getD j .none) (es.getD j .none)) ⟨_, (K.wd _ _ e₁).1, rfl, _, rfl⟩ ⟨_, (K.wd _ _ e₂).1, rfl, _, rfl⟩ (by simpa using hl) hu
      (fun j h1 h2 => ih (r₁.getD h1) (r₂.getD h2) (coks_get h (by simp at h1; omega) (by simp at h2; omega)))
    simpa [hl] using this
  · have := RcAt.lists_lengths (A := A) (s := s) (l := a) (b := a') ⟨_, (K.wd _ _ e₁).1, rfl, _, rfl⟩ ⟨_, (K.wd _ _ e₂).1, rfl, _, rfl⟩ (by simpa using hl) hu
    have z : (vs.length == vs'.length) = false := by simpa using hl
    rw [z, Bool.and_false]; exact this
theorem Rep.eqAt {c : Wd} {s : Shared} (K : Ok X c s) (n : Nat) : ∀ {A : Around} {v₁ v₂ : Value} {d₁ d₂ : D}, Rep c v₁ d₁ → Rep c v₂ d₂ → D.cok n d₁ d₂ = true → A.units + n < cLine → EqAt A s v₁ v₂ (D.eq d₁ d₂) := by
  induction n with
  | zero =>
    intro A v₁ v₂ d₁ d₂ r q h hu
    rcases cok_inv h with ⟨i, j, rfl, rfl⟩ | ⟨m, ds, es, e, _⟩
    · exact eqAt_ints r q A
    · cases e
  | succ n ih =>
    intro A v₁ v₂ d₁ d₂ r q h hu
    have ih' : ∀ {v₁ v₂ : Value} {d₁ d₂ : D}, Rep c v₁ d₁ → Rep c v₂ d₂ → D.cok n d₁ d₂ = true → EqAt A.in1 s v₁ v₂ (D.eq d₁ d₂) := fun r q h => ih r q h (by show A.units + 1 + n < _; omega)
    rcases cok_inv h with ⟨i, j, rfl, rfl⟩ | ⟨m, ds, es, e, k, ⟨rfl, rfl⟩ | ⟨rfl, rfl⟩⟩
    · exact eqAt_ints r q A
    · cases e; exact eqAt_tups K ih' r q k (by omega)
    · cases e; exact eqAt_lists K ih' r q k (by omega)

/-- a comparison of two trees -/
noncomputable def CO (X : Sys) (A : Around) (op : CmpOp) (d₁ d₂ : D) (b : Bool) : Prop :=
  ∀ c s v₁ v₂, Ok X c s → Rep c v₁ d₁ → Rep c v₂ d₂ → wpAny (model X.prog X.w) A (compareOp op v₁ v₂) (fun v s' => v = .bool b ∧ s' = s) (fun _ _ => False) s
theorem CO.ofInts {op : CmpOp} {i j : Int} {b : Bool} (h : ∀ (s : Shared) (t u : Tok) (Q : Value → Shared → Prop), Q (.bool b) s → wpAny (model X.prog X.w) A (compareOp op (.int i t) (.int j u)) Q (fun _ _ => False) s) :
    CO X A op (.int i) (.int j) b := fun c s v₁ v₂ K r₁ r₂ => by
  obtain ⟨t, rfl⟩ := r₁.int_inv
  obtain ⟨u, rfl⟩ := r₂.int_inv
  exact h s t u _ ⟨rfl, rfl⟩
theorem CO.eq {i j : Int} : CO X A .Eq (.int i) (.int j) (i == j) := .ofInts fun _ _ _ _ q => P.eq_int q
theorem CO.ne {i j : Int} : CO X A .NotEq (.int i) (.int j) (i != j) := .ofInts fun _ _ _ _ q => P.ne_int q
theorem CO.lt {i j : Int} : CO X A .Lt (.int i) (.int j) (decide (i < j)) := .ofInts fun _ _ _ _ q => P.lt_int q
theorem CO.gt {i j : Int} : CO X A .Gt (.int i) (.int j) (decide (i > j)) := .ofInts fun _ _ _ _ q => P.gt_int q
theorem CO.ge {i j : Int} : CO X A .GtE (.int i) (.int j) (decide (i ≥ j)) := .ofInts fun _ _ _ _ q => P.ge_int q
theorem CO.is_int {i : Int} : CO X A .Is (.int i) .none false := fun c s v₁ v₂ K r₁ r₂ => by
  obtain ⟨t, rfl⟩ := r₁.int_inv
  rw [r₂.none_inv]
  exact is_none ⟨by simp, rfl⟩
theorem CO.is_none' : CO X A .Is .none .none true := fun c s v₁ v₂ K r₁ r₂ => by
  rw [r₁.none_inv, r₂.none_inv]
  exact is_none ⟨by simp, rfl⟩
theorem CO.eq_list {ds es : List D} (n : Nat) (h : D.coks n ds es = true) (hu : A.units + n + 1 < cLine) : CO X A .Eq (.list ds) (.list es) (D.eqs ds es) := fun c s v₁ v₂ K r q => by
  obtain ⟨a, vs, k, rfl, e₁, r₁⟩ := r.list_inv
  obtain ⟨a', vs', k', rfl, e₂, r₂⟩ := q.list_inv
  have l₁ := r₁.length
  have l₂ := r₂.length
  rw [eqs_all, ← l₁, ← l₂]
  by_cases hl : vs.length = vs'.length
  · refine eq_listAt (e := fun j => D.eq (ds.getD j .none) (es.getD j .none)) ⟨_, (K.wd _ _ e₁).1, rfl, _, rfl⟩ ⟨_, (K.wd _ _ e₂).1, rfl, _, rfl⟩ (by simpa using hl) (by omega)
      (fun j h1 h2 => Rep.eqAt K n (r₁.getD h1) (r₂.getD h2) (coks_get h (by simp at h1; omega) (by simp at h2; omega)) (by show A.units + 1 + n < _; omega)) ⟨by simp [hl], rfl⟩
  · exact eq_list_lengthsAt ⟨_, (K.wd _ _ e₁).1, rfl, _, rfl⟩ ⟨_, (K.wd _ _ e₂).1, rfl, _, rfl⟩ (by simpa using hl) (by omega) ⟨by simp [hl], rfl⟩
theorem CO.ne_list {ds es : List D} (n : Nat) (h : D.coks n ds es = true) (hu : A.units + n + 1 < cLine) : CO X A .NotEq (.list ds) (.list es) (!D.eqs ds es) := fun c s v₁ v₂ K r q => by
  obtain ⟨a, vs, k, rfl, e₁, r₁⟩ := r.list_inv
  obtain ⟨a', vs', k', rfl, e₂, r₂⟩ := q.list_inv
  have l₁ := r₁.length
  have l₂ := r₂.length
  have g₁ := (K.wd _ _ e₁).1
  have g₂ := (K.wd _ _ e₂).1
  rw [eqs_all, ← l₁, ← l₂]
  by_cases hl : vs.length = vs'.length
  · refine richCompare_meets_room (op := .NotEq) ⟨_, g₁, rfl⟩ ⟨_, g₂, rfl⟩ F.slot_list_ne F.entry_list_ne (F.args_list_ne_2 _ _) (list_neAt a a' vs.toArray vs'.toArray k k' .none .none #[] #[] (by simpa using hl) (fun j => D.eq (ds.getD j .none) (es.getD j .none)))
      ⟨g₁, g₂, (fun j h1 h2 => Rep.eqAt K n (r₁.getD h1) (r₂.getD h2) (coks_get h (by simp at h1; omega) (by simp at h2; omega)) (by show A.units + 1 + n < _; omega)), (fun x => nomatch x), ?_, rfl⟩ (by omega)
    simp [hl]
  · refine richCompare_meets_room (op := .NotEq) ⟨_, g₁, rfl⟩ ⟨_, g₂, rfl⟩ F.slot_list_ne F.entry_list_ne (F.args_list_ne_2 _ _) (list_ne_lengthsAt a a' vs.toArray vs'.toArray k k' .none .none #[] #[] (by simpa using hl))
      ⟨g₁, g₂, (fun x => nomatch x), ?_, rfl⟩ (by omega)
    simp [hl]

theorem EV.cmp {l r : Expr} {op : CmpOp} {pos : Pos} {d₁ d₂ : D} {b : Bool} (h₁ : EV X A env G O σ l d₁ σ₁) (h₂ : EV X A env G O σ₁ r d₂ σ₂) (hb : CO X A op d₁ d₂ b)
    (hm : behindInMarks op r = false := by with_unfolding_all rfl) : EV X A env G O σ (.Compare l [op] [r] pos) (.bool b) σ₂ := .mk fun c₀ s₀ c s F hg =>
  wpAny_Compare1 (wpAny_mono (h₁.run c₀ s₀ c s F hg) (fun v₁ s₁ ⟨c₁, e₁, r₁, g₁⟩ =>
    wpAny_mono (h₂.run c₀ s₀ c₁ s₁ (F.step e₁) g₁) (fun v₂ s₂ ⟨c₂, e₂, r₂, g₂⟩ =>
      wpAny_mono (hb c₂ s₂ v₁ v₂ e₂.ok (r₁.mono e₂.le) r₂) (fun v s' ⟨q, q'⟩ => by subst q q'; exact ⟨c₂, e₁.trans e₂, .bool b, g₂⟩) fun _ _ x => x) fun _ _ x => x) fun _ _ x => x) hm
theorem TV.cmp {l r : Expr} {op : CmpOp} {pos : Pos} {d₁ d₂ : D} {b : Bool} (h₁ : EV X A env G O σ l d₁ σ) (h₂ : EV X A env G O σ r d₂ σ) (hb : CO X A op d₁ d₂ b)
    (hm : behindInMarks op r = false := by with_unfolding_all rfl) : TV X A env G O σ (.Compare l [op] [r] pos) b := .mk fun c₀ s₀ c s F hg =>
  wpAny_isTrue_Compare1 (wpAny_mono (h₁.run c₀ s₀ c s F hg) (fun v₁ s₁ ⟨c₁, e₁, r₁, g₁⟩ =>
    wpAny_mono (h₂.run c₀ s₀ c₁ s₁ (F.step e₁) g₁) (fun v₂ s₂ ⟨c₂, e₂, r₂, g₂⟩ =>
      wpAny_mono (hb c₂ s₂ v₁ v₂ e₂.ok (r₁.mono e₂.le) r₂) (fun v s' ⟨q, q'⟩ => by subst q q'; exact wpAny_truthy_bool ⟨rfl, c₂, e₁.trans e₂, g₂⟩) fun _ _ x => x) fun _ _ x => x) fun _ _ x => x) hm

theorem EV.ite {t a b : Expr} {pos : Pos} {q : Bool} {d : D} (ht : TV X A env G O σ t q) (ha : q = true → EV X A env G O σ a d σ₁) (hb : q = false → EV X A env G O σ b d σ₁) : EV X A env G O σ (.IfExp t a b pos) d σ₁ := .mk fun c₀ s₀ c s F hg =>
  wpAny_IfExp (wpAny_mono (ht.run c₀ s₀ c s F hg) (fun v s₁ ⟨e, c₁, e₁, g₁⟩ => by
    subst e
    cases v with
    | true => exact wpAny_mono ((ha rfl).run c₀ s₀ c₁ s₁ (F.step e₁) g₁) (fun v s' ⟨c', e', r', g'⟩ => ⟨c', e₁.trans e', r', g'⟩) fun _ _ x => x
    | false => exact wpAny_mono ((hb rfl).run c₀ s₀ c₁ s₁ (F.step e₁) g₁) (fun v s' ⟨c', e', r', g'⟩ => ⟨c', e₁.trans e', r', g'⟩) fun _ _ x => x) fun _ _ x => x)

theorem TV.and_nil {pos : Pos} : TV X A env G O σ (.BoolOp .And [] pos) true := .mk fun c₀ s₀ c s F hg => isTrue_and_nil ⟨rfl, c, .refl F.ok, hg⟩
theorem TV.or_nil {pos : Pos} : TV X A env G O σ (.BoolOp .Or [] pos) false := .mk fun c₀ s₀ c s F hg => isTrue_or_nil ⟨rfl, c, .refl F.ok, hg⟩
theorem isTrue_and_whole {x : Expr} {rest : List Expr} {pos : Pos} {w w' : Sem Value} : isTrue (.BoolOp .And rest pos) env w = isTrue (.BoolOp .And rest pos) env w' := rfl
theorem isTrue_or_whole {x : Expr} {rest : List Expr} {pos : Pos} {w w' : Sem Value} : isTrue (.BoolOp .Or rest pos) env w = isTrue (.BoolOp .Or rest pos) env w' := rfl
theorem TV.and {x : Expr} {rest : List Expr} {pos : Pos} {p q : Bool} (h₁ : TV X A env G O σ x p) (h₂ : p = true → TV X A env G O σ (.BoolOp .And rest pos) q) : TV X A env G O σ (.BoolOp .And (x :: rest) pos) (p && q) := .mk fun c₀ s₀ c s F hg =>
  isTrue_and (wpAny_mono (h₁.run c₀ s₀ c s F hg) (fun v s₁ ⟨e, c₁, e₁, g₁⟩ => by
    subst e
    cases v with
    | true =>
      show wpAny _ _ (isTrue (.BoolOp .And rest pos) env _) _ _ s₁
      rw [isTrue_and_whole (x := x) (w' := eval (.BoolOp .And rest pos) env)]
      exact wpAny_mono ((h₂ rfl).run c₀ s₀ c₁ s₁ (F.step e₁) g₁) (fun v s' ⟨z, c', e', g'⟩ => ⟨by simpa using z, c', e₁.trans e', g'⟩) fun _ _ x => x
    | false => exact ⟨by simp, c₁, e₁, g₁⟩) fun _ _ x => x)
theorem TV.or {x : Expr} {rest : List Expr} {pos : Pos} {p q : Bool} (h₁ : TV X A env G O σ x p) (h₂ : p = false → TV X A env G O σ (.BoolOp .Or rest pos) q) : TV X A env G O σ (.BoolOp .Or (x :: rest) pos) (p || q) := .mk fun c₀ s₀ c s F hg =>
  isTrue_or (wpAny_mono (h₁.run c₀ s₀ c s F hg) (fun v s₁ ⟨e, c₁, e₁, g₁⟩ => by
    subst e
    cases v with
    | false =>
      show wpAny _ _ (isTrue (.BoolOp .Or rest pos) env _) _ _ s₁
      rw [isTrue_or_whole (x := x) (w' := eval (.BoolOp .Or rest pos) env)]
      exact wpAny_mono ((h₂ rfl).run c₀ s₀ c₁ s₁ (F.step e₁) g₁) (fun v s' ⟨z, c', e', g'⟩ => ⟨by simpa using z, c', e₁.trans e', g'⟩) fun _ _ x => x
    | true => exact ⟨by simp, c₁, e₁, g₁⟩) fun _ _ x => x)
/-- two booleans, by and -/
theorem EV.and2 {x y : Expr} {pos : Pos} {p q : Bool} (h₁ : EV X A env G O σ x (.bool p) σ₁) (h₂ : p = true → EV X A env G O σ₁ y (.bool q) σ₂) (h₃ : p = false → σ₁ = σ₂) : EV X A env G O σ (.BoolOp .And [x, y] pos) (.bool (p && q)) σ₂ := .mk fun c₀ s₀ c s F hg =>
  wpAny_And2 (wpAny_mono (h₁.run c₀ s₀ c s F hg) (fun v s₁ ⟨c₁, e₁, r₁, g₁⟩ => by
    rw [r₁.bool_inv]
    refine wpAny_truthy_bool ?_
    cases p with
    | true => exact wpAny_mono ((h₂ rfl).run c₀ s₀ c₁ s₁ (F.step e₁) g₁) (fun v s' ⟨c', e', r', g'⟩ => ⟨c', e₁.trans e', r', g'⟩) fun _ _ x => x
    | false => exact ⟨c₁, e₁, .bool _, g₁.trans (h₃ rfl)⟩) fun _ _ x => x)
end

/-! text Fw4 -/
section
open PySem.Calls PySem.SeqAt

variable {X : Sys} {A : Around} {env : Env} {G : Gam} {O : Oms} {σ σ₁ σ₂ σ₃ : Gh}

theorem tail_get {prog : Program} {w : World} {A : Around} {E : Value → Shared → Prop} {s : Shared} {value slice : Expr} {o i : Value} {T id : String} {Q : Value → Shared → Prop} (hT : s.TypeIs o T)
    (hl : typeLookup (.type T) "__getitem__" = pure (some (.builtin id))) (h : wpAny (model prog w) A (getItem o i) Q E s) :
    wpAny (model prog w) A (subscriptTail value slice o i) Q E s := by
  unfold subscriptTail
  refine wpAny_bind ?_
  rw [getitemInPython_of_ne hT.not_modules]
  refine wpAny_bind (wpAny_specialOf hT hl ?_)
  have fin : wpAny (model prog w) A (subscripted slice false o i) (fun r s₃ => wpAny (model prog w) A (letTemporaryGo value o r >>= fun _ => pure r) Q E s₃) E s := by
    have h2 : ∀ vs, wpAny (model prog w) A (operate vs (getItem o i)) (fun r s₃ => wpAny (model prog w) A (letTemporaryGo value o r >>= fun _ => pure r) Q E s₃) E s := fun vs =>
      wpAny_operating (wpAny_mono h (fun r s₃ h₃ => wpAny_bind (wpAny_letTemporaryGo (wpAny_pure h₃))) fun _ _ x => x)
    unfold subscripted
    split
    · exact h2 _
    · contradiction
    · exact h2 _
  first
    | exact wpAny_pure (wpAny_bind fin)
    | exact wpAny_bind (wpAny_pure (wpAny_bind fin))
    | exact wpAny_bind fin

noncomputable def D.item (ds : List D) (i : Int) : Option D := if 0 ≤ i then ds[i.toNat]? else if -(ds.length : Int) ≤ i then ds[(i + ds.length).toNat]? else Option.none

theorem getItem_list_any {prog : Program} {w : World} {A : Around} {E : Value → Shared → Prop} {s : Shared} {c : Wd} {l : Addr} {vs : List Value} {ds : List D} {n : Nat} {i : Int} {t : Tok} {d : D} {Q : Value → Shared → Prop}
    (hl : s.heap.get? l = some (listO vs.toArray n)) (r : Reps c vs ds) (hx : D.item ds i = some d) (hb : ds.length ≤ 100000) (h : ∀ v, Rep c v d → Q v s) : wpAny (model prog w) A (getItem (.ref l) (.int i t)) Q E s := by
  have hlen := r.length
  unfold D.item at hx
  split at hx
  · obtain ⟨v, e, q⟩ := r.get hx
    have : i.toNat < ds.length := (List.getElem?_eq_some_iff.mp hx).1
    exact wpAny_getItem_list ⟨_, hl, rfl, _, rfl⟩ (by assumption) (by omega) (by simpa using e) (h v q)
  · split at hx
    · obtain ⟨v, e, q⟩ := r.get hx
      refine wpAny_getItem_list_neg (x := v) ⟨_, hl, rfl, _, rfl⟩ (by omega) (by simp; omega) (by omega) ?_ (h v q)
      simp only [List.size_toArray, hlen]; simpa using e
    · cases hx
theorem getItem_tup_any {prog : Program} {w : World} {A : Around} {E : Value → Shared → Prop} {s : Shared} {c : Wd} {l : Addr} {vs : List Value} {ds : List D} {n : Nat} {i : Int} {t : Tok} {d : D} {Q : Value → Shared → Prop}
    (hl : s.heap.get? l = some (tupO vs.toArray n)) (r : Reps c vs ds) (hx : D.item ds i = some d) (hb : ds.length ≤ 100000) (h : ∀ v, Rep c v d → Q v s) : wpAny (model prog w) A (getItem (.ref l) (.int i t)) Q E s := by
  have hlen := r.length
  unfold D.item at hx
  split at hx
  · obtain ⟨v, e, q⟩ := r.get hx
    have : i.toNat < ds.length := (List.getElem?_eq_some_iff.mp hx).1
    refine PyProof.Rows.getItem_tuple (j := i.toNat) (x := v) ⟨_, hl, rfl, _, rfl⟩ (by omega) (by omega) ?_ (by simpa using e) (h v q)
    have hz : ¬ i < 0 := by omega
    have hc : (decide (0 ≤ i) && decide (i < ((vs.toArray.size : Nat) : Int))) = true := by simp; omega
    simp only [seqIndex?, if_neg hz, hc, if_true]
  · split at hx
    · obtain ⟨v, e, q⟩ := r.get hx
      refine PyProof.Rows.getItem_tuple (j := (i + ds.length).toNat) (x := v) ⟨_, hl, rfl, _, rfl⟩ (by omega) (by omega) ?_ (by simpa using e) (h v q)
      have hz : i < 0 := by omega
      have hc : (decide (0 ≤ i + ((vs.toArray.size : Nat) : Int)) && decide (i + ((vs.toArray.size : Nat) : Int) < ((vs.toArray.size : Nat) : Int))) = true := by simp; omega
      simp only [seqIndex?, if_pos hz, hc, if_true]
      simp [hlen]
    · cases hx

theorem EV.item {val idx : Expr} {pos : Pos} {ds : List D} {i : Int} {d : D} (hv : EV X A env G O σ val (.list ds) σ₁) (hi : EV X A env G O σ₁ idx (.int i) σ₂) (hx : D.item ds i = some d) (hb : ds.length ≤ 100000) :
    EV X A env G O σ (.Subscript val idx pos) d σ₂ := .mk fun c₀ s₀ c s F hg =>
  Subscript_ (wpAny_mono (hv.run c₀ s₀ c s F hg) (fun v₁ s₁ ⟨c₁, e₁, r₁, g₁⟩ =>
    wpAny_mono (hi.run c₀ s₀ c₁ s₁ (F.step e₁) g₁) (fun v₂ s₂ ⟨c₂, e₂, r₂, g₂⟩ => by
      obtain ⟨l, vs, n, rfl, q, rs⟩ := (r₁.mono e₂.le).list_inv
      obtain ⟨t, rfl⟩ := r₂.int_inv
      have hl := (e₂.ok.wd _ _ q).1
      exact tail_get ⟨_, hl, rfl⟩ slot_list_getitem.lookup (getItem_list_any hl rs hx hb fun v r => ⟨c₂, e₁.trans e₂, r, g₂⟩)) fun _ _ x => x) fun _ _ x => x)
theorem EV.itemT {val idx : Expr} {pos : Pos} {ds : List D} {i : Int} {d : D} (hv : EV X A env G O σ val (.tup ds) σ₁) (hi : EV X A env G O σ₁ idx (.int i) σ₂) (hx : D.item ds i = some d) (hb : ds.length ≤ 100000) :
    EV X A env G O σ (.Subscript val idx pos) d σ₂ := .mk fun c₀ s₀ c s F hg =>
  Subscript_ (wpAny_mono (hv.run c₀ s₀ c s F hg) (fun v₁ s₁ ⟨c₁, e₁, r₁, g₁⟩ =>
    wpAny_mono (hi.run c₀ s₀ c₁ s₁ (F.step e₁) g₁) (fun v₂ s₂ ⟨c₂, e₂, r₂, g₂⟩ => by
      obtain ⟨l, vs, n, rfl, q, rs⟩ := (r₁.mono e₂.le).tup_inv
      obtain ⟨t, rfl⟩ := r₂.int_inv
      have hl := (e₂.ok.wd _ _ q).1
      exact tail_get ⟨_, hl, rfl⟩ slot_tuple_getitem.lookup (getItem_tup_any hl rs hx hb fun v r => ⟨c₂, e₁.trans e₂, r, g₂⟩)) fun _ _ x => x) fun _ _ x => x)

/-- a name's value itself -/
theorem wpAny_name_at {A : Around} {env : Env} {s : Shared} {m : Str → Option Value} {x : Str} {v : Value} {pos : Pos} {Q : Value → Shared → Prop} {E : Value → Shared → Prop} {M : Model} (hk : env.scope.kind = .function) (ns : s.heap.Ns env.locals m)
    (l : At m env s.heap x v) (h : Q v s) (hd : (x == ("__debug__" : Str)) = false := by decide) : wpAny M A (eval (.Name x pos) env) Q E s := by
  refine wpAny_Name ?_ hd
  rcases l with ⟨k, e⟩ | ⟨k | ⟨k, z⟩, a, e, n⟩
  · exact wpAny_loadName_local hk k ns e h
  · exact wpAny_loadName_cell hk k e n h
  · exact wpAny_loadName_free hk k e n h z
/-- an item of a list that the frame owns -/
theorem EV.itemO {x : Str} {p : Pos} {idx : Expr} {pos : Pos} {ds : List D} {i : Int} {d : D} (ho : O.lookup x = some ds) (hi : EV X A env G O σ idx (.int i) σ₁) (hx : D.item ds i = some d) (hb : ds.length ≤ 100000)
    (hd : (x == ("__debug__" : Str)) = false := by decide) (hne : x ≠ hid := by decide) :
    EV X A env G O σ (.Subscript (.Name x p) idx pos) d σ₁ := .mk fun c₀ s₀ c s F hg => by
  obtain ⟨m, ol, B⟩ := F.body
  obtain ⟨l, hc, hh, hn, vs, n, hs, r⟩ := B.own x ds ho
  refine Subscript_ (wpAny_name_at F.kind B.ns (l.at hne) ?_ hd)
  exact wpAny_mono (hi.run c₀ s₀ c s F hg) (fun v₂ s₂ ⟨c₂, e₂, r₂, g₂⟩ => by
      obtain ⟨t, rfl⟩ := r₂.int_inv
      have hl := e₂.keeps.all _ _ hh hs
      exact tail_get ⟨_, hl, rfl⟩ slot_list_getitem.lookup (getItem_list_any hl (r.mono e₂.le) hx hb fun v r => ⟨c₂, e₂, r, g₂⟩)) fun _ _ x => x

noncomputable def upTo (n : Nat) (i : Int) : Nat := if 0 ≤ i then i.toNat else (n + i).toNat
theorem slice_stop (n : Nat) (i : Int) : ∃ stop : Int, sliceBounds none (some i) none n = (0, stop, 1) ∧ (sliceRange 0 stop 1) = List.range stop.toNat ∧ (stop.toNat = upTo n i ∨ (n ≤ stop.toNat ∧ n ≤ upTo n i)) := by
  refine ⟨max 0 (min (if i < 0 then i + n else i) n), by simp [sliceBounds], ?_, ?_⟩
  · generalize max 0 (min (if i < 0 then i + (n : Int) else i) n) = st
    unfold sliceRange
    simp only [show (1 : Int) > 0 by decide, if_true, Int.ediv_one]
    have e : (if 0 < st then st - 0 + 1 - 1 else (0 : Int)).toNat = st.toNat := by split <;> omega
    rw [e]
    conv => rhs; rw [← List.map_id (List.range st.toNat)]
    apply List.map_congr_left; intro a _; simp
  · unfold upTo
    by_cases hi : i < 0
    · rw [if_pos hi, if_neg (by omega)]; left; omega
    · rw [if_neg hi, if_pos (by omega)]
      by_cases hn : i ≤ n
      · left; omega
      · right; omega
theorem pick_range (vs : List Value) (k : Nat) : (List.range k).filterMap (fun j => vs.toArray[j]?) = vs.take k := by
  induction k with
  | zero => simp
  | succ k ih =>
    rw [List.range_succ, List.filterMap_append, ih, List.take_add_one]
    congr 1
    simp only [List.filterMap_cons, List.filterMap_nil, List.getElem?_toArray]
    cases vs[k]? <;> rfl
theorem slicePick_upTo (vs : List Value) (i : Int) : slicePick vs.toArray none (some i) none = (vs.take (upTo vs.length i)).toArray := by
  obtain ⟨st, h1, h2, h3⟩ := slice_stop vs.length i
  unfold slicePick
  rw [show vs.toArray.size = vs.length from rfl, h1]
  show ((sliceRange 0 st 1).filterMap _).toArray = _
  rw [h2, pick_range]
  rcases h3 with h3 | ⟨h3, h4⟩
  · rw [h3]
  · rw [List.take_of_length_le h3, List.take_of_length_le h4]

theorem EF.slice {val up : Expr} {p pos : Pos} {ds : List D} {i : Int} (hv : EV X A env G O σ val (.list ds) σ₁) (hi : EV X A env G O σ₁ up (.int i) σ₂) (hb : ds.length ≤ 100000) :
    EF X A env G O σ (.Subscript val (.Slice none (some up) none p) pos) (ds.take (upTo ds.length i)) σ₂ := .mk fun c₀ s₀ c s F hg =>
  Subscript_ (wpAny_mono (hv.run c₀ s₀ c s F hg) (fun v₁ s₁ ⟨c₁, e₁, r₁, g₁⟩ => by
    refine wpAny_Slice ?_
    rw [evalPart_none, evalPart_some]
    refine wpAny_pure ?_
    exact wpAny_mono (hi.run c₀ s₀ c₁ s₁ (F.step e₁) g₁) (fun v₂ s₂ ⟨c₂, e₂, r₂, g₂⟩ => by
      obtain ⟨l, vs, n, rfl, q, rs⟩ := (r₁.mono e₂.le).list_inv
      obtain ⟨t, rfl⟩ := r₂.int_inv
      have hlen := rs.length
      refine wpAny_pure ?_
      have hk := Keeps.push' s₂ { cls := .type "slice", data := .fields #[.none, .int i t, .none] } s₂.toks
      have e₃ := Ext.same e₂.ok hk
      have hl := (e₃.ok.wd _ _ q).1
      refine tail_get (T := "list") ⟨_, hl, rfl⟩ slot_list_getitem.lookup (wpAny_getItem_list_slice ⟨_, hl, rfl, _, rfl⟩ (Heap.IsSliceOf.new _ _ _ _) .none (.int _ _) .none (by simp) ⟨c₂, ?_, g₂⟩ (by simp [sizeLine]; omega))
      have := Fresh.new e₃.ok (rs.take (upTo ds.length i))
      rw [slicePick_upTo, hlen]
      obtain ⟨l', h1, h2, h3, h4⟩ := this
      exact ⟨l', h1, e₁.keeps.live _ (e₂.keeps.live _ (e₃.keeps.live _ h2)), (e₁.trans e₂).trans (e₃.trans h3), h4⟩) fun _ _ x => x) fun _ _ x => x)

/-- several expressions, one behind another -/
structure ES (X : Sys) (A : Around) (env : Env) (G : Gam) (O : Oms) (σ : Gh) (es : List Expr) (ds : List D) (σ' : Gh) : Prop where
  run : ∀ pos c₀ s₀ c s, FS X c₀ s₀ env G O c s → c.g = σ → wpAny (model X.prog X.w) A (spliced (backTo pos (starEach es env))) (fun vs s' => ∃ c', Ext X c s c' s' ∧ Reps c' vs ds ∧ c'.g = σ') (fun _ _ => False) s
theorem ES.nil : ES X A env G O σ [] [] σ := .mk fun pos c₀ s₀ c s F hg => args_nil ⟨c, .refl F.ok, .nil, hg⟩
theorem ES.cons {e : Expr} {es : List Expr} {d : D} {ds : List D} (h₁ : EV X A env G O σ e d σ₁) (h₂ : ES X A env G O σ₁ es ds σ₂)
    (he : starEach (e :: es) env = (false, eval e env) :: starEach es env := by rfl) : ES X A env G O σ (e :: es) (d :: ds) σ₂ := .mk fun pos c₀ s₀ c s F hg =>
  args_cons (wpAny_mono (h₁.run c₀ s₀ c s F hg) (fun v₁ s₁ ⟨c₁, e₁, r₁, g₁⟩ =>
    wpAny_mono (h₂.run pos c₀ s₀ c₁ s₁ (F.step e₁) g₁) (fun vs s₂ ⟨c₂, e₂, r₂, g₂⟩ => ⟨c₂, e₁.trans e₂, .cons (r₁.mono e₂.le) r₂, g₂⟩) fun _ _ x => x) fun _ _ x => x) he

theorem EF.list {es : List Expr} {pos : Pos} {ds : List D} (h : ES X A env G O σ es ds σ₁) (hb : ds.length ≤ 100000) : EF X A env G O σ (.List es pos) ds σ₁ := .mk fun c₀ s₀ c s F hg =>
  wpAny_List (wpAny_mono (h.run pos c₀ s₀ c s F hg) (fun vs s₁ ⟨c₁, e₁, r₁, g₁⟩ => by
    have hl := r₁.length
    refine ⟨by simp [sizeLine]; omega, c₁, ?_, g₁⟩
    obtain ⟨l', h1, h2, h3, h4⟩ := Fresh.new e₁.ok r₁
    exact ⟨l', h1, e₁.keeps.live _ h2, e₁.trans h3, h4⟩) fun _ _ x => x)
theorem EV.tup {es : List Expr} {k : Nat} {pos : Pos} {ds : List D} (h : ES X A env G O σ es ds σ₁) (hb : ds.length ≤ 100000) : EV X A env G O σ (.Tuple es k pos) (.tup ds) σ₁ := .mk fun c₀ s₀ c s F hg =>
  wpAny_Tuple (wpAny_mono (h.run pos c₀ s₀ c s F hg) (fun vs s₁ ⟨c₁, e₁, r₁, g₁⟩ => by
    have hl := r₁.length
    refine ⟨by simp [sizeLine]; omega, ?_⟩
    have e₂ := Ext.push (o := tupO vs.toArray 0) (t := s₁.toks) e₁.ok ⟨_, _, rfl⟩ rfl
    exact ⟨_, e₁.trans e₂, .tup (Wd.put_self _ _ _) (r₁.mono e₂.le), g₁⟩) fun _ _ x => x)

/-- a call of one of the module's functions -/
theorem EV.call {f : Str} {p pos : Pos} {e : Expr} {es : List Expr} {ds : List D} {d : D} {k : Nat} (Y : X.Good) (hk : env.kindOf f = some .globalImplicit) (hA : Rm k A) (hs : ES X A env G O σ (e :: es) ds σ₁) (hc : CT X k f σ₁ ds d σ₂)
    (he : starEach (e :: es) env = (false, eval e env) :: starEach es env := by rfl)
    (hd : (f == ("__debug__" : Str)) = false := by decide) : EV X A env G O σ (.Call (.Name f p) (e :: es) [] pos) d σ₂ := .mk fun c₀ s₀ c s F hg => by
  obtain ⟨⟨a, o, fd, e₁, e₂, e₃⟩, hc⟩ := hc
  refine Call_ (Name_function_global F.kind hk (loadGlobal_global (mg := X.mg) (by rw [F.glo]; exact Y.g.keeps F.ok.base) e₁ ?_) hd)
  refine callWith_def e₃ (wpAny_mono (hs.run pos c₀ s₀ c s F hg) (fun vs s₁ ⟨c₁, x₁, r₁, g₁⟩ => ⟨x₁.ok.base _ _ e₂, ?_⟩) fun _ _ x => x) he
  exact wpAny_mono (hc A c₁ s₁ vs a hA x₁.ok e₁ r₁ g₁) (fun v s' ⟨c', x', r', g'⟩ => ⟨c', x₁.trans x', r', g'⟩) fun _ _ x => x

/-- what a built-in makes of its arguments -/
noncomputable def BC (X : Sys) (A : Around) (f : Value) (ds : List D) (d : D) : Prop :=
  ∀ c s vs, Ok X c s → Reps c vs ds → wpAny (model X.prog X.w) A (call f vs) (fun v s' => ∃ c', Ext X c s c' s' ∧ Rep c' v d ∧ c'.g = c.g) (fun _ _ => False) s
noncomputable def BCF (X : Sys) (A : Around) (f : Value) (ds : List D) (d : List D) : Prop :=
  ∀ c s vs, Ok X c s → Reps c vs ds → wpAny (model X.prog X.w) A (call f vs) (fun v s' => ∃ c', Fresh X c s d v c' s' ∧ c'.g = c.g) (fun _ _ => False) s

theorem builtinName {x : Str} {p : Pos} {v : Value} {E : Value → Shared → Prop} {c₀ c : Wd} {s₀ s : Shared} (Y : X.Good) (F : FS X c₀ s₀ env G O c s) {Q : Value → Shared → Prop} (hk : env.kindOf x = some .globalImplicit) (hf : X.mg x = .none)
    (hv : bootBuiltins x = some v) (hn : x ≠ "__name__") (h : Q v s) (hd : (x == ("__debug__" : Str)) = false := by decide) : wpAny (model X.prog X.w) A (eval (.Name x p) env) Q E s :=
  Name_function_global F.kind hk (loadGlobal_builtin (mg := X.mg) (mb := X.mb) (by rw [F.glo]; exact Y.g.keeps F.ok.base) hf (by rw [F.blt]; exact Y.b.keeps F.ok.base) ((Y.builtins x hn).trans hv) h) hd

theorem EV.bcall {x : Str} {id : String} {p pos : Pos} {e : Expr} {es : List Expr} {ds : List D} {d : D} (Y : X.Good) (hk : env.kindOf x = some .globalImplicit) (hs : ES X A env G O σ (e :: es) ds σ₁) (hc : BC X A (.builtin id) ds d)
    (hf : X.mg x = .none) (hv : bootBuiltins x = some (.builtin id)) (hn : x ≠ "__name__")
    (he : starEach (e :: es) env = (false, eval e env) :: starEach es env := by rfl) (hp : ∀ pos, (backTo pos (starEach es env)).any (·.1) = false := by intro _; rfl)
    (hd : (x == ("__debug__" : Str)) = false := by decide) : EV X A env G O σ (.Call (.Name x p) (e :: es) [] pos) d σ₁ := .mk fun c₀ s₀ c s F hg => by
  refine Call_ (builtinName Y F hk hf hv hn ?_ hd)
  exact callWith_builtin1 (wpAny_mono (hs.run pos c₀ s₀ c s F hg) (fun vs s₁ ⟨c₁, x₁, r₁, g₁⟩ => wpAny_mono (hc c₁ s₁ vs x₁.ok r₁) (fun v s' ⟨c', x', r', g'⟩ => ⟨c', x₁.trans x', r', g'.trans g₁⟩) fun _ _ x => x) fun _ _ x => x) he (hp pos)
theorem EV.tcall {x : Str} {id : String} {p pos : Pos} {e : Expr} {es : List Expr} {ds : List D} {d : D} (Y : X.Good) (hk : env.kindOf x = some .globalImplicit) (hs : ES X A env G O σ (e :: es) ds σ₁) (hc : BC X A (.type id) ds d)
    (hf : X.mg x = .none) (hv : bootBuiltins x = some (.type id)) (hn : x ≠ "__name__")
    (he : starEach (e :: es) env = (false, eval e env) :: starEach es env := by rfl) (hp : ∀ pos, (backTo pos (starEach es env)).any (·.1) = false := by intro _; rfl)
    (hd : (x == ("__debug__" : Str)) = false := by decide) : EV X A env G O σ (.Call (.Name x p) (e :: es) [] pos) d σ₁ := .mk fun c₀ s₀ c s F hg => by
  refine Call_ (builtinName Y F hk hf hv hn ?_ hd)
  exact PyProof.Rows.callWith_type1 (wpAny_mono (hs.run pos c₀ s₀ c s F hg) (fun vs s₁ ⟨c₁, x₁, r₁, g₁⟩ => wpAny_mono (hc c₁ s₁ vs x₁.ok r₁) (fun v s' ⟨c', x', r', g'⟩ => ⟨c', x₁.trans x', r', g'.trans g₁⟩) fun _ _ x => x) fun _ _ x => x) he (hp pos)
theorem EF.tcall {x : Str} {id : String} {p pos : Pos} {e : Expr} {es : List Expr} {ds : List D} {d : List D} (Y : X.Good) (hk : env.kindOf x = some .globalImplicit) (hs : ES X A env G O σ (e :: es) ds σ₁) (hc : BCF X A (.type id) ds d)
    (hf : X.mg x = .none) (hv : bootBuiltins x = some (.type id)) (hn : x ≠ "__name__")
    (he : starEach (e :: es) env = (false, eval e env) :: starEach es env := by rfl) (hp : ∀ pos, (backTo pos (starEach es env)).any (·.1) = false := by intro _; rfl)
    (hd : (x == ("__debug__" : Str)) = false := by decide) : EF X A env G O σ (.Call (.Name x p) (e :: es) [] pos) d σ₁ := .mk fun c₀ s₀ c s F hg => by
  refine Call_ (builtinName Y F hk hf hv hn ?_ hd)
  exact PyProof.Rows.callWith_type1 (wpAny_mono (hs.run pos c₀ s₀ c s F hg) (fun vs s₁ ⟨c₁, x₁, r₁, g₁⟩ => wpAny_mono (hc c₁ s₁ vs x₁.ok r₁) (fun v s' ⟨c', ⟨l, h1, h2, h3, h4⟩, g'⟩ => ⟨c', ⟨l, h1, x₁.keeps.live _ h2, x₁.trans h3, h4⟩, g'.trans g₁⟩) fun _ _ x => x) fun _ _ x => x) he (hp pos)

theorem Reps.one {c : Wd} {vs : List Value} {d : D} (h : Reps c vs [d]) : ∃ v, vs = [v] ∧ Rep c v d := by
  cases h with | cons r rs => cases rs; exact ⟨_, rfl, r⟩
theorem Reps.two {c : Wd} {vs : List Value} {d e : D} (h : Reps c vs [d, e]) : ∃ v w, vs = [v, w] ∧ Rep c v d ∧ Rep c w e := by
  cases h with | cons r rs => obtain ⟨w, rfl, q⟩ := rs.one; exact ⟨_, _, rfl, r, q⟩
theorem BC.len {ds : List D} (hb : ds.length ≤ 100000) : BC X A (.builtin "len") [.list ds] (.int ds.length) := fun c s vs K r => by
  obtain ⟨v, rfl, r1⟩ := r.one
  · obtain ⟨l, vs, n, rfl, q, rs⟩ := r1.list_inv
    have hlen := rs.length
    refine call_len_list ⟨_, (K.wd _ _ q).1, rfl, _, rfl⟩ (by simp; omega) ⟨c, .same K (Keeps.tok' _ _), ?_, rfl⟩
    have := Rep.int (c := c) (ds.length : Int) (s.toks + 1)
    simpa [hlen] using this
theorem BC.abs {i : Int} : BC X A (.builtin "abs") [.int i] (.int i.natAbs) := fun c s vs K r => by
  obtain ⟨v, rfl, r1⟩ := r.one
  · obtain ⟨t, rfl⟩ := r1.int_inv
    refine call_abs_int fun u tk => ⟨c, .same K (Keeps.tok' _ _), ?_, rfl⟩
    rw [show (if i < 0 then -i else i) = ((i.natAbs : Nat) : Int) by split <;> omega]
    exact .int _ _
theorem BC.max {i j : Int} (hh : A.handled = none) : BC X A (.builtin "max") [.int i, .int j] (.int (max i j)) := fun c s vs K r => by
  obtain ⟨v, w, rfl, r1, q1⟩ := r.two
  · obtain ⟨t, rfl⟩ := r1.int_inv
    obtain ⟨u, rfl⟩ := q1.int_inv
    refine max_two_ints hh fun h' tk hk => ⟨c, .same K (Keeps.of_eq hk), ?_, rfl⟩
    rw [Int.max_def]
    split
    · rw [if_pos (by omega)]; exact .int _ _
    · by_cases e : i ≤ j
      · rw [if_pos e, show j = i by omega]; exact .int _ _
      · rw [if_neg e]; exact .int _ _
theorem BC.int {i : Int} : BC X A (.type "int") [.int i] (.int i) := fun c s vs K r => by
  obtain ⟨v, rfl, r1⟩ := r.one
  · obtain ⟨t, rfl⟩ := r1.int_inv
    exact call_int_int ⟨c, .refl K, .int _ _, rfl⟩
theorem BCF.list {ds : List D} (hb : ds.length ≤ 100000) : BCF X A (.type "list") [.list ds] ds := fun c s vs K r => by
  obtain ⟨v, rfl, r1⟩ := r.one
  · obtain ⟨l, vs, n, rfl, q, rs⟩ := r1.list_inv
    have hlen := rs.length
    refine call_list_seq l (.inl rfl) (K.wd _ _ q).1 rfl rfl (fun h' c' hk hl => ⟨c, ⟨_, rfl, get_size_none _, .same K (Keeps.of_eq hk), K.fnone (get_size_none _), vs, c', hl, rs⟩, rfl⟩) (by simp [sizeLine]; omega)
theorem presum_eq {is : List Int} : ∀ (k : Nat), preSum (fun j => is.getD j 0) k = (is.take k).sum := by
  intro k
  induction k with
  | zero => simp [preSum]
  | succ k ih =>
    rw [preSum, ih, List.take_add_one]
    simp only [List.sum_append]
    cases h : is[k]? <;> simp [List.getD_eq_getElem?_getD, h]
theorem BC.sum {is : List Int} (hh : A.handled = none) (hb : ∀ j, j < is.length → InLong (is.getD j 0) ∧ InLong ((is.take (j + 1)).sum)) : BC X A (.builtin "sum") [il is] (.int is.sum) := fun c s vs K r => by
  obtain ⟨v, rfl, r1⟩ := r.one
  · unfold il at r1
    obtain ⟨l, vs, n, rfl, q, rs⟩ := r1.list_inv
    have hlen : vs.length = is.length := by have := rs.length; simpa using this
    have hl := (K.wd _ _ q).1
    refine call_sum_walk (wpAny_pyIter_list ⟨_, hl, rfl, _, rfl⟩ ?_)
    refine ⟨_, [_, l], [_], vs.toArray.size, _, _, fun j => is.getD j 0, rfl, Walks.list (A := A.in1) hh _ l (Nat.ne_of_lt (Heap.lt_size hl)) vs.toArray,
      ⟨⟨_, Heap.get?_push_size _ rfl, rfl, rfl⟩, ⟨_, Heap.get?_push_of_some _ hl, rfl, _, rfl⟩⟩, fun b hb => ?_, fun i v h => ?_, fun j hj => ?_, fun h' tk t' hk => ⟨c, .same K (Keeps.of_eq fun b o e => ?_), ?_, rfl⟩⟩
    · rw [Heap.size_push]
      rcases List.mem_cons.mp hb with rfl | hb
      · exact Nat.lt_succ_self _
      · rw [List.mem_singleton.mp hb]; exact Nat.lt_succ_of_lt (Heap.lt_size hl)
    · have h1 : vs[i]? = some v := by simpa using h
      have hi : i < vs.length := (List.getElem?_eq_some_iff.mp h1).1
      obtain ⟨v', e, r'⟩ := rs.get (i := i) (d := .int (is.getD i 0)) (by
        rw [List.getElem?_map]; have : i < is.length := by omega
        simp [List.getD_eq_getElem?_getD, List.getElem?_eq_getElem this])
      rw [h1] at e; cases e
      exact r'.int_inv
    · rw [presum_eq]; exact hb j (by simp at hj; omega)
    · refine hk b o (fun hm => ?_) (Heap.get?_push_of_some _ e)
      rw [List.mem_singleton.mp hm] at e; exact absurd (Heap.lt_size e) (Nat.lt_irrefl _)
    · rw [presum_eq]
      have : vs.toArray.size = is.length := by simp; exact hlen
      rw [this, List.take_length]; exact .int _ _
end

/-! text Fw5 -/
section
open PySem.Calls PySem.SeqAt

variable {X : Sys} {A : Around} {env : Env} {G : Gam} {O : Oms} {σ σ₁ σ₂ σ₃ : Gh}

noncomputable def Gset : Gam → Str → D → Gam
  | [], x, d => [(x, d)]
  | (y, e) :: r, x, d => if y == x then (x, d) :: r else (y, e) :: Gset r x d
noncomputable def Gdel : Gam → Str → Gam
  | [], x => []
  | (y, e) :: r, x => if y == x then Gdel r x else (y, e) :: Gdel r x
noncomputable def Oset : Oms → Str → List D → Oms
  | [], x, d => [(x, d)]
  | (y, e) :: r, x, d => if y == x then (x, d) :: r else (y, e) :: Oset r x d
noncomputable def Odel : Oms → Str → Oms
  | [], x => []
  | (y, e) :: r, x => if y == x then Odel r x else (y, e) :: Odel r x

theorem beq_str {x y : Str} : (x == y) = decide (x = y) := by by_cases h : x = y <;> simp [h]
theorem Gset_lookup : ∀ (G : Gam) (x : Str) (d : D) (y : Str), (Gset G x d).lookup y = if y = x then some d else G.lookup y
  | [], x, d, y => by simp only [Gset, List.lookup_cons, List.lookup_nil, beq_str]; by_cases h : y = x <;> simp [h]
  | (z, e) :: r, x, d, y => by
    simp only [Gset, beq_str]
    by_cases hz : z = x
    · subst hz; simp only [decide_true, if_true, List.lookup_cons, beq_str]; by_cases h : y = z <;> simp [h]
    · simp only [hz, decide_false, Bool.false_eq_true, if_false, List.lookup_cons, beq_str, Gset_lookup r x d y]
      by_cases h : y = z
      · subst h; simp [hz]
      · simp [h]
theorem Gdel_lookup : ∀ (G : Gam) (x y : Str), (Gdel G x).lookup y = if y = x then none else G.lookup y
  | [], x, y => by simp [Gdel]
  | (z, e) :: r, x, y => by
    simp only [Gdel, beq_str]
    by_cases hz : z = x
    · subst hz; simp only [decide_true, if_true, List.lookup_cons, beq_str, Gdel_lookup r z y]; by_cases h : y = z <;> simp [h]
    · simp only [hz, decide_false, Bool.false_eq_true, if_false, List.lookup_cons, beq_str, Gdel_lookup r x y]
      by_cases h : y = z
      · subst h; simp [hz]
      · simp [h]
theorem Oset_lookup : ∀ (G : Oms) (x : Str) (d : List D) (y : Str), (Oset G x d).lookup y = if y = x then some d else G.lookup y
  | [], x, d, y => by simp only [Oset, List.lookup_cons, List.lookup_nil, beq_str]; by_cases h : y = x <;> simp [h]
  | (z, e) :: r, x, d, y => by
    simp only [Oset, beq_str]
    by_cases hz : z = x
    · subst hz; simp only [decide_true, if_true, List.lookup_cons, beq_str]; by_cases h : y = z <;> simp [h]
    · simp only [hz, decide_false, Bool.false_eq_true, if_false, List.lookup_cons, beq_str, Oset_lookup r x d y]
      by_cases h : y = z
      · subst h; simp [hz]
      · simp [h]
theorem Odel_lookup : ∀ (G : Oms) (x y : Str), (Odel G x).lookup y = if y = x then none else G.lookup y
  | [], x, y => by simp [Odel]
  | (z, e) :: r, x, y => by
    simp only [Odel, beq_str]
    by_cases hz : z = x
    · subst hz; simp only [decide_true, if_true, List.lookup_cons, beq_str, Odel_lookup r z y]; by_cases h : y = z <;> simp [h]
    · simp only [hz, decide_false, Bool.false_eq_true, if_false, List.lookup_cons, beq_str, Odel_lookup r x y]
      by_cases h : y = z
      · subst h; simp [hz]
      · simp [h]

/-- fewer names -/
structure St.sub (S T : St) : Prop where
  G : ∀ x d, T.G.lookup x = some d → S.G.lookup x = some d
  O : ∀ x d, T.O.lookup x = some d → S.O.lookup x = some d
  σ : S.σ = T.σ
theorem FS.sub {G' : Gam} {O' : Oms} {c₀ c : Wd} {s₀ s : Shared} (F : FS X c₀ s₀ env G O c s) (hG : ∀ x d, G'.lookup x = some d → G.lookup x = some d) (hO : ∀ x d, O'.lookup x = some d → O.lookup x = some d) : FS X c₀ s₀ env G' O' c s where
  ext := F.ext
  kind := F.kind
  glo := F.glo
  blt := F.blt
  base₀ := F.base₀
  new := F.new
  cells := F.cells
  cellsApart := F.cellsApart
  body := let ⟨m, ol, B⟩ := F.body; ⟨m, ol, B.ns, fun x d h => B.names x d (hG x d h), fun y ds h => B.own y ds (hO y ds h), fun y ds y' ds' h h' => B.apart y ds y' ds' (hO _ _ h) (hO _ _ h')⟩
theorem TR.sub {S S' T : St} {ss : List Stmt} (h : TR X A env S ss (.nx S')) (hs : S'.sub T) : TR X A env S ss (.nx T) := .mk fun c₀ s₀ c s F hg =>
  wpAny_mono (h.run c₀ s₀ c s F hg) (fun fl s' ⟨e, c', F', g', k⟩ => ⟨e, c', F'.sub hs.G hs.O, g'.trans hs.σ, k⟩) fun _ _ x => x
theorem TR.pre {S S' : St} {ss : List Stmt} {out : Out} (hs : S.sub S') (h : TR X A env S' ss out) : TR X A env S ss out := .mk fun c₀ s₀ c s F hg =>
  h.run c₀ s₀ c s (F.sub hs.G hs.O) (hg.trans hs.σ)

/-- a ghost step: an owned list is frozen -/
theorem FS.freeze {y : Str} {ds : List D} {c₀ c : Wd} {s₀ s : Shared} (F : FS X c₀ s₀ env G O c s) (hy : O.lookup y = some ds) (hne : y ≠ hid) : ∃ c', FS X c₀ s₀ env (Gset G y (.list ds)) (Odel O y) c' s ∧ c'.g = c.g ∧ Rl c s c' s := by
  obtain ⟨m, ol, B⟩ := F.body
  obtain ⟨a, hc, hh, hn, vs, n, hs, r⟩ := B.own y ds hy
  have hle := Wd.put_le (o := listO vs.toArray n) hc
  refine ⟨c.put (ol y) (listO vs.toArray n), ⟨⟨F.ext.keeps, F.ext.le.trans hle, fun b o e => ?_, F.ok.put hc hh hs ⟨_, _, rfl⟩⟩, F.kind, F.glo, F.blt, F.base₀, F.new, F.cells, F.cellsApart, m, ol, B.ns, fun x d h => ?_, fun z es h => ?_, fun z es z' es' h h' => ?_⟩, rfl, ⟨hle.f, fun _ _ r => r.mono hle, fun _ _ e _ => e⟩⟩
  · by_cases q : b = ol y
    · subst q; exact .inr hn
    · exact F.ext.fresh b o ((if_neg q).symm.trans e)
  · rw [Gset_lookup] at h
    by_cases q : x = y
    · rw [if_pos q] at h; cases h; subst q; exact ⟨_, a.at hne, .list (Wd.put_self _ _ _) (r.mono hle)⟩
    · rw [if_neg q] at h; obtain ⟨v, l, r'⟩ := B.names x d h; exact ⟨v, l, r'.mono hle⟩
  · rw [Odel_lookup] at h
    by_cases q : z = y
    · rw [if_pos q] at h; cases h
    · rw [if_neg q] at h
      obtain ⟨a', hc', hh', hn', vs', n', hs', r'⟩ := B.own z es h
      exact ⟨a', (if_neg (fun e => q (B.apart _ _ _ _ h hy e))).trans hc', hh', hn', vs', n', hs', r'.mono hle⟩
  · rw [Odel_lookup] at h h'
    by_cases q : z = y
    · rw [if_pos q] at h; cases h
    · by_cases q' : z' = y
      · rw [if_pos q'] at h'; cases h'
      · rw [if_neg q] at h; rw [if_neg q'] at h'; exact B.apart _ _ _ _ h h'
theorem TR.freeze {S : St} {y : Str} {ds : List D} {ss : List Stmt} {out : Out} (hy : S.O.lookup y = some ds) (h : TR X A env ⟨Gset S.G y (.list ds), Odel S.O y, S.σ⟩ ss out) (hne : y ≠ hid := by decide) : TR X A env S ss out := .mk fun c₀ s₀ c s F hg => by
  obtain ⟨c', F', g, k⟩ := F.freeze hy hne
  exact wpAny_mono (h.run c₀ s₀ c' s F' (g.trans hg)) (fun _ _ p => p.later k) fun _ _ x => x

/-- what a write into the frame leaves -/
noncomputable def Nd (o : Obj) : Prop := match o.data with | .dict _ _ => False | .cell _ => False | _ => True
structure Wrote (s s' : Shared) : Prop where
  same : ∃ h' tk, s' = { s with heap := h', toks := tk }
  nd : ∀ b o, s.heap.get? b = some o → Nd o → s'.heap.get? b = some o
  live : ∀ b, s'.heap.get? b = none → s.heap.get? b = none
theorem Wrote.itr {s s' : Shared} (w : Wrote s s') {b : Addr} {o : Obj} (e : s.heap.get? b = some o) (i : Itr o) : s'.heap.get? b = some o :=
  w.nd b o e (by unfold Itr at i; unfold Nd; split at i <;> first | exact i.elim | (split <;> simp_all))
theorem Wrote.rl {c : Wd} {s s' : Shared} (w : Wrote s s') : Rl c s c s' := ⟨fun _ _ e => e, fun _ _ e => e, fun _ _ e i => w.itr e i⟩
theorem Nd.seq {o : Obj} (h : ∃ xs n, o.data = .seq xs n) : Nd o := by obtain ⟨xs, n, e⟩ := h; unfold Nd; rw [e]; trivial

/-- a name that the frame may store to -/
noncomputable def Slot' (env : Env) (x : Str) : Prop := x ≠ hid ∧ (env.kindOf x = some .local ∨ (env.kindOf x = some .cell ∧ env.func ≠ none ∧ ∃ a, env.cells.lookup x = some a))

theorem notClass {env : Env} (hk : env.scope.kind = .function) : (env.scope.kind == .class || (env.scope.kind == .module && env.locals != env.globals)) = false := by rw [hk]; rfl

theorem Ok.wrote {c : Wd} {s s' : Shared} (K : Ok X c s) (w : Wrote s s') (hB : ∀ b o, X.B.get? b = some o → s'.heap.get? b = some o) : Ok X c s' where
  base := hB
  c0 := K.c0
  wd := fun b o e => ⟨w.nd b o (K.wd b o e).1 (.seq (K.wd b o e).2), (K.wd b o e).2⟩
  pool := fun a v e => let ⟨p, q, t, n, r⟩ := K.pool a v e; ⟨p, q, t, n, w.nd _ _ r (.seq ⟨_, _, rfl⟩)⟩
  mat := fun a rs e => let ⟨p, ⟨n, q⟩, t, u, v, r⟩ := K.mat a rs e
    ⟨p, ⟨n, w.nd _ _ q (.seq ⟨_, _, rfl⟩)⟩, t, u, v, r.keeps fun b hb o e => by
      obtain ⟨vs, k, z⟩ := r.get b hb
      rw [z] at e; cases e; exact w.nd _ _ z (.seq ⟨_, _, rfl⟩)⟩
  apart := K.apart
  hb := K.hb
  m0 := K.m0

/-- a list that is the frame's own, at an address -/
structure OwnAt (s₀ : Shared) (c : Wd) (s : Shared) (l : Addr) (ds : List D) : Prop where
  cf : c.f l = none
  nh : ¬ c.hole l
  new : s₀.heap.get? l = none
  at' : ∃ vs n, s.heap.get? l = some (listO vs.toArray n) ∧ Reps c vs ds

theorem FB.step {c c' : Wd} {s₀ s s' : Shared} {m : Str → Option Value} {ol : Str → Addr} (K : Ok X c s) (B : FB env G O s₀ c s m ol) (e : Ext X c s c' s') : FB env G O s₀ c' s' m ol := by
  refine ⟨?_, fun x d h => ?_, fun y ds h => ?_, B.apart⟩
  · have hn := Heap.Ns.nhole K B.ns
    obtain ⟨o, es, ep, h1, h2⟩ := B.ns
    exact ⟨o, es, ep, e.keeps.all _ _ hn h1, h2⟩
  · obtain ⟨v, l, r⟩ := B.names x d h
    exact ⟨v, l.step K e.keeps, r.mono e.le⟩
  · obtain ⟨a, b, bh, b', vs, n, q, r⟩ := B.own y ds h
    refine ⟨a.map fun a => a.step K e.keeps, ?_, fun z => bh ((e.le.hole _).mp z), b', vs, n, e.keeps.all _ _ bh q, r.mono e.le⟩
    cases z : c'.f (ol y) with
    | none => rfl
    | some o =>
      rcases e.fresh _ o z with t | t
      · rw [b] at t; cases t
      · rw [q] at t; cases t
theorem OwnAt.step {s₀ s s' : Shared} {c c' : Wd} {l : Addr} {ds : List D} (w : OwnAt s₀ c s l ds) (e : Ext X c s c' s') : OwnAt s₀ c' s' l ds := by
  obtain ⟨vs, n, q, r⟩ := w.at'
  refine ⟨?_, fun z => w.nh ((e.le.hole _).mp z), w.new, vs, n, e.keeps.all _ _ w.nh q, r.mono e.le⟩
  cases z : c'.f l with
  | none => rfl
  | some o =>
    rcases e.fresh _ o z with t | t
    · rw [w.cf] at t; cases t
    · rw [q] at t; cases t
theorem Fresh.own {c₀ c c' : Wd} {s₀ s s' : Shared} {ds : List D} {v : Value} (e₀ : Ext X c₀ s₀ c s) (h : Fresh X c s ds v c' s') : ∃ l, v = .ref l ∧ s.heap.get? l = none ∧ Ext X c s c' s' ∧ OwnAt s₀ c' s' l ds := by
  obtain ⟨l, rfl, hl, e, hc, hs⟩ := h
  exact ⟨l, rfl, hl, e, hc, Ext.nhole e₀.ok e hl, e₀.keeps.live _ hl, hs⟩

/-- the store: either a value that bears a tree, or a list of the frame's own -/
inductive Bd where
  | g (d : D)
  | o (ds : List D)
noncomputable def Bd.is (O : Oms) (ol : Str → Addr) (s₀ : Shared) (c : Wd) (s : Shared) (x : Str) (v : Value) : Bd → Prop
  | .g d => Rep c v d
  | .o ds => ∃ l, v = .ref l ∧ OwnAt s₀ c s l ds ∧ ∀ y es, O.lookup y = some es → y ≠ x → ol y ≠ l
noncomputable def St.bind (S : St) (x : Str) : Bd → St
  | .g d => ⟨Gset S.G x d, Odel S.O x, S.σ⟩
  | .o ds => ⟨Gdel S.G x, Oset S.O x ds, S.σ⟩

theorem FS.wrote {c₀ c : Wd} {s₀ s s' : Shared} (F : FS X c₀ s₀ env G O c s) (w : Wrote s s') {G' : Gam} {O' : Oms} {m' : Str → Option Value} {ol' : Str → Addr}
    (hk : ∀ b o, s₀.heap.get? b = some o → s.heap.get? b = some o → s'.heap.get? b = some o)
    (hB : ∀ b o, X.B.get? b = some o → s'.heap.get? b = some o)
    (hcells : ∀ x a, env.cells.lookup x = some a → ∃ v, s'.heap.IsCell a v)
    (B : FB env G' O' s₀ c s' m' ol') : FS X c₀ s₀ env G' O' c s' where
  ext := ⟨by
    obtain ⟨⟨h1, t1, e1⟩, a1, l1⟩ := F.ext.keeps
    obtain ⟨h2, t2, e2⟩ := w.same
    exact ⟨⟨h2, t2, by rw [e2, e1]⟩, fun b o n e => hk b o e (a1 b o n e), fun b e => l1 b (w.live b e)⟩, F.ext.le, F.ext.fresh, F.ok.wrote w hB⟩
  kind := F.kind
  glo := F.glo
  blt := F.blt
  base₀ := F.base₀
  new := F.new
  cells := fun x a h => ⟨(F.cells x a h).1, hcells x a h⟩
  cellsApart := F.cellsApart
  body := ⟨m', ol', B⟩

theorem store_any2 {x : Str} {v : Value} {b : Bd} {σ : Gh} {c₀ c : Wd} {s₀ s : Shared} {m : Str → Option Value} {ol : Str → Addr} {Q : Unit → Shared → Prop} {E : Value → Shared → Prop} {M : Model}
    (F : FS X c₀ s₀ env G O c s) (B : FB env G O s₀ c s m ol) (hx : Slot' env x) (r : b.is O ol s₀ c s x v)
    (hQ : ∀ s' m' ol', Wrote s s' → FS X c₀ s₀ env (St.bind ⟨G, O, σ⟩ x b).G (St.bind ⟨G, O, σ⟩ x b).O c s' → FB env (St.bind ⟨G, O, σ⟩ x b).G (St.bind ⟨G, O, σ⟩ x b).O s₀ c s' m' ol' →
      (∀ y, (St.bind ⟨G, O, σ⟩ x b).O.lookup y ≠ none → y ≠ x → ol' y = ol y) → (∀ l, v = .ref l → ol' x = l) → (∃ a, Heap.SameBut a s.heap s'.heap ∧ (a = env.locals ∨ ∃ x, env.cells.lookup x = some a)) → Q () s') :
    wpAny M A (storeName env x v) Q E s := by
  -- the frame's body behind the write, for any place of the write
  have key : ∀ (s' : Shared) (m' : Str → Option Value), Wrote s s' → s'.heap.Ns env.locals m' → At m' env s'.heap x v →
      (∀ y w, y ≠ x → At m env s.heap y w → At m' env s'.heap y w) →
      ∃ ol', FB env (St.bind ⟨G, O, σ⟩ x b).G (St.bind ⟨G, O, σ⟩ x b).O s₀ c s' m' ol' ∧ (∀ y, (St.bind ⟨G, O, σ⟩ x b).O.lookup y ≠ none → y ≠ x → ol' y = ol y) ∧ (∀ l, v = .ref l → ol' x = l) := by
    intro s' m' w hn hat hoth
    have own : ∀ y es, O.lookup y = some es → y ≠ x → Has m' env s'.heap y (ol y) ∧ c.f (ol y) = none ∧ ¬ c.hole (ol y) ∧ s₀.heap.get? (ol y) = none ∧ ∃ vs n, s'.heap.get? (ol y) = some (listO vs.toArray n) ∧ Reps c vs es := fun y es h hy => by
      obtain ⟨a, p, q, t, vs, n, u, r⟩ := B.own y es h
      exact ⟨a.map fun a => hoth _ _ hy a, p, q, t, vs, n, w.nd _ _ u (.seq ⟨_, _, rfl⟩), r⟩
    refine ⟨fun y => if y = x then (match v with | .ref l => l | _ => 0) else ol y, ?_, fun y _ h => if_neg h, fun l h => by subst h; exact if_pos rfl⟩
    cases b with
    | g d =>
      refine ⟨hn, fun y e h => ?_, fun y es h => ?_, fun y es y' es' h h' => ?_⟩
      · simp only [St.bind, Gset_lookup] at h
        by_cases q : y = x
        · rw [if_pos q] at h; cases h; subst q; exact ⟨v, hat, r⟩
        · rw [if_neg q] at h; obtain ⟨w', l, r'⟩ := B.names y e h; exact ⟨w', hoth _ _ q l, r'⟩
      · simp only [St.bind, Odel_lookup] at h
        by_cases q : y = x
        · rw [if_pos q] at h; cases h
        · rw [if_neg q] at h; simp only [if_neg q]; exact own y es h q
      · simp only [St.bind, Odel_lookup] at h h'
        by_cases q : y = x
        · rw [if_pos q] at h; cases h
        · by_cases q' : y' = x
          · rw [if_pos q'] at h'; cases h'
          · rw [if_neg q] at h; rw [if_neg q'] at h'; simp only [if_neg q, if_neg q']; exact B.apart _ _ _ _ h h'
    | o ds =>
      obtain ⟨l, rfl, w', hne⟩ := r
      obtain ⟨vs, n, hs, rr⟩ := w'.at'
      refine ⟨hn, fun y e h => ?_, fun y es h => ?_, fun y es y' es' h h' => ?_⟩
      · simp only [St.bind, Gdel_lookup] at h
        by_cases q : y = x
        · rw [if_pos q] at h; cases h
        · rw [if_neg q] at h; obtain ⟨w', l', r'⟩ := B.names y e h; exact ⟨w', hoth _ _ q l', r'⟩
      · simp only [St.bind, Oset_lookup] at h
        by_cases q : y = x
        · rw [if_pos q] at h; cases h; subst q
          simp only [if_true]
          exact ⟨.inr ⟨hx.1, hat⟩, w'.cf, w'.nh, w'.new, vs, n, w.nd _ _ hs (.seq ⟨_, _, rfl⟩), rr⟩
        · rw [if_neg q] at h; simp only [if_neg q]; exact own y es h q
      · simp only [St.bind, Oset_lookup] at h h'
        by_cases q : y = x
        · by_cases q' : y' = x
          · intro _; rw [q, q']
          · rw [if_neg q'] at h'; simp only [if_pos q, if_neg q']; intro z; exact (hne y' es' h' q' z.symm).elim
        · rw [if_neg q] at h
          by_cases q' : y' = x
          · simp only [if_neg q, if_pos q']; intro z; exact (hne y es h q z).elim
          · rw [if_neg q'] at h'; simp only [if_neg q, if_neg q']; exact B.apart _ _ _ _ h h'
  rcases hx.2 with hx | ⟨hx, hfn, a, ha⟩
  · refine wpAny_storeName_local hx B.ns (fun h' hn' hs' => ?_) (notClass F.kind)
    have w : Wrote s { s with heap := h', toks := s.toks + 1 } := ⟨⟨_, _, rfl⟩, fun b o e nd => by
      have hne : b ≠ env.locals := by
        rintro rfl
        obtain ⟨o', es, ep, h1, h2, _⟩ := B.ns
        rw [e] at h1; cases h1; unfold Nd at nd; rw [h2] at nd; exact nd
      exact (hs'.2 b hne).trans e, fun b e => by
      by_cases q : b = env.locals
      · subst q; obtain ⟨o', es, ep, h1, _⟩ := hn'; rw [h1] at e; cases e
      · rw [← hs'.2 b q]; exact e⟩
    obtain ⟨ol', B', h1, h2⟩ := key _ _ w hn' (.inl ⟨hx, if_pos rfl⟩) (fun y w' hy l => by
      rcases l with ⟨k, e⟩ | ⟨k, a, e, n⟩
      · exact .inl ⟨k, (if_neg hy).trans e⟩
      · refine .inr ⟨k, a, e, ?_⟩
        obtain ⟨o, h1, h2⟩ := n
        refine ⟨o, (hs'.2 a ?_).trans h1, h2⟩
        rintro rfl
        obtain ⟨o', es, ep, h3, h4, _⟩ := B.ns
        rw [h1] at h3; cases h3; rw [h2] at h4; cases h4)
    refine hQ _ _ ol' w (F.wrote w (fun b o e₀ e => (hs'.2 b (by rintro rfl; rw [F.new] at e₀; cases e₀)).trans e) (fun b o e => ?_) (fun y a ha => ?_) B') B' h1 h2 ⟨_, hs', .inl rfl⟩
    · exact (hs'.2 b (by rintro rfl; have := F.base₀ _ _ e; rw [F.new] at this; cases this)).trans (F.ok.base _ _ e)
    · obtain ⟨v', o, h1, h2⟩ := (F.cells y a ha).2
      refine ⟨v', o, (hs'.2 a ?_).trans h1, h2⟩
      rintro rfl
      obtain ⟨o', es, ep, h3, h4, _⟩ := B.ns
      rw [h1] at h3; cases h3; rw [h2] at h4; cases h4
  · obtain ⟨hn₀, v₀, hc₀⟩ := F.cells x a ha
    replace hn₀ := hn₀ hfn
    refine wpAny_storeName_cell F.kind hx ha hc₀ (fun h' hc' hs' => ?_)
    have w : Wrote s { s with heap := h' } := ⟨⟨h', s.toks, rfl⟩, fun b o e nd => by
      have hne : b ≠ a := by
        rintro rfl
        obtain ⟨o', h1, h2⟩ := hc₀
        rw [e] at h1; cases h1; unfold Nd at nd; rw [h2] at nd; exact nd
      exact (hs'.2 b hne).trans e, fun b e => by
      by_cases q : b = a
      · subst q; obtain ⟨o', h1, _⟩ := hc'; rw [h1] at e; cases e
      · rw [← hs'.2 b q]; exact e⟩
    have hL : env.locals ≠ a := by
      rintro rfl
      obtain ⟨o', es, ep, h3, h4, _⟩ := B.ns
      obtain ⟨o, h1, h2⟩ := hc₀
      rw [h1] at h3; cases h3; rw [h2] at h4; cases h4
    obtain ⟨ol', B', h1, h2⟩ := key _ m w (B.ns.sameBut hs' hL) (.inr ⟨.inl hx, a, ha, hc'⟩) (fun y w' hy l => by
      rcases l with l | ⟨k, a', e, n⟩
      · exact .inl l
      · refine .inr ⟨k, a', e, n.sameBut hs' ?_⟩
        rintro rfl
        exact hy (F.cellsApart _ _ _ e ha))
    refine hQ _ _ ol' w (F.wrote w (fun b o e₀ e => (hs'.2 b (by rintro rfl; rw [hn₀] at e₀; cases e₀)).trans e) (fun b o e => ?_) (fun y a' ha' => ?_) B') B' h1 h2 ⟨_, hs', .inr ⟨_, ha⟩⟩
    · exact (hs'.2 b (by rintro rfl; have := F.base₀ _ _ e; rw [hn₀] at this; cases this)).trans (F.ok.base _ _ e)
    · obtain ⟨v', n⟩ := (F.cells y a' ha').2
      by_cases q : a' = a
      · subst q; exact ⟨_, hc'⟩
      · exact ⟨v', n.sameBut hs' q⟩
theorem store_any {x : Str} {v : Value} {b : Bd} {σ : Gh} {c₀ c : Wd} {s₀ s : Shared} {m : Str → Option Value} {ol : Str → Addr} {Q : Unit → Shared → Prop} {E : Value → Shared → Prop} {M : Model}
    (F : FS X c₀ s₀ env G O c s) (B : FB env G O s₀ c s m ol) (hx : Slot' env x) (r : b.is O ol s₀ c s x v)
    (hQ : ∀ s' m' ol', Wrote s s' → FS X c₀ s₀ env (St.bind ⟨G, O, σ⟩ x b).G (St.bind ⟨G, O, σ⟩ x b).O c s' → FB env (St.bind ⟨G, O, σ⟩ x b).G (St.bind ⟨G, O, σ⟩ x b).O s₀ c s' m' ol' →
      (∀ y, (St.bind ⟨G, O, σ⟩ x b).O.lookup y ≠ none → y ≠ x → ol' y = ol y) → (∀ l, v = .ref l → ol' x = l) → Q () s') :
    wpAny M A (storeName env x v) Q E s :=
  store_any2 F B hx r fun s' m' ol' w F' B' h1 h2 _ => hQ s' m' ol' w F' B' h1 h2
end

/-! text Fw6 -/
section
open PySem.Calls PySem.SeqAt

variable {X : Sys} {A : Around} {env : Env} {G : Gam} {O : Oms} {σ σ₁ σ₂ σ₃ : Gh}

theorem Post.nx {c₀ c c' : Wd} {s₀ s s' : Shared} {S : St} (F : FS X c₀ s₀ env S.G S.O c' s') (g : c'.g = S.σ) (k : Rl c s c' s') : Post X c₀ s₀ env c s (.nx S) .next s' := ⟨rfl, c', F, g, k⟩

theorem TS.set {S : St} {x : Str} {p pos : Pos} {value : Expr} {d : D} (hx : Slot' env x) (h : EV X A env S.G S.O S.σ value d σ₁)
    (hs : swapsWith value (some (.Name x p)) pos.line env = pure false := by rfl) : TS X A env S (.Assign [.Name x p] value pos) (.nx ⟨Gset S.G x d, Odel S.O x, σ₁⟩) := .mk fun c₀ s₀ c s F hg =>
  wpAny_Assign_Name (wpAny_mono (h.run c₀ s₀ c s F hg) (fun v s₁ ⟨c₁, e₁, r₁, g₁⟩ => by
    have F₁ := F.step e₁
    obtain ⟨m, ol, B⟩ := F₁.body
    exact store_any (b := .g d) (σ := σ₁) F₁ B hx r₁ fun s' m' ol' w F' B' _ _ => Post.nx F' g₁ ((e₁.rl F.ok).trans w.rl)) fun _ _ x => x) hs
theorem TS.setO {S : St} {x : Str} {p pos : Pos} {value : Expr} {ds : List D} (hx : Slot' env x) (h : EF X A env S.G S.O S.σ value ds σ₁)
    (hs : swapsWith value (some (.Name x p)) pos.line env = pure false := by rfl) : TS X A env S (.Assign [.Name x p] value pos) (.nx ⟨Gdel S.G x, Oset S.O x ds, σ₁⟩) := .mk fun c₀ s₀ c s F hg =>
  wpAny_Assign_Name (wpAny_mono (h.run c₀ s₀ c s F hg) (fun v s₁ ⟨c₁, f₁, g₁⟩ => by
    obtain ⟨l, rfl, hl, e₁, w₁⟩ := f₁.own F.ext
    have F₁ := F.step e₁
    obtain ⟨m, ol, B⟩ := F.body
    have B₁ := B.step F.ok e₁
    refine store_any (b := .o ds) (σ := σ₁) F₁ B₁ hx ⟨l, rfl, w₁, fun y es hy _ q => ?_⟩ fun s' m' ol' w F' B' _ _ => Post.nx F' g₁ ((e₁.rl F.ok).trans w.rl)
    obtain ⟨_, _, _, _, vs, n, z, _⟩ := B.own y es hy
    rw [q, hl] at z; cases z) fun _ _ x => x) hs

theorem TS.augSub {S : St} {x : Str} {p pos : Pos} {value : Expr} {i j : Int} (hx : Slot' env x) (hi : S.G.lookup x = some (.int i)) (h : EV X A env S.G S.O S.σ value (.int j) σ₁) :
    TS X A env S (.AugAssign (.Name x p) .Sub value pos) (.nx ⟨Gset S.G x (.int (i - j)), Odel S.O x, σ₁⟩) := .mk fun c₀ s₀ c s F hg => by
  obtain ⟨m, ol, B⟩ := F.body
  obtain ⟨v, l, r⟩ := B.names x _ hi
  obtain ⟨t, rfl⟩ := r.int_inv
  refine wpAny_AugAssign_Name ?_
  have rest : wpAny (model X.prog X.w) A (eval value env) (fun v s₂ => wpAny (model X.prog X.w) A (inplaceOp .Sub (.int i t) v)
      (fun r s₃ => wpAny (model X.prog X.w) A (storeName env x r) (fun _ => Post X c₀ s₀ env c s (.nx ⟨Gset S.G x (.int (i - j)), Odel S.O x, σ₁⟩) .next) (fun _ _ => False) s₃) (fun _ _ => False) s₂) (fun _ _ => False) s := by
    refine wpAny_mono (h.run c₀ s₀ c s F hg) (fun v s₁ ⟨c₁, e₁, r₁, g₁⟩ => ?_) fun _ _ x => x
    obtain ⟨u, rfl⟩ := r₁.int_inv
    refine P.isub_int ?_
    have e₂ := e₁.trans (.same e₁.ok (Keeps.tok' s₁ (s₁.toks + 1)))
    have F₂ := F.step e₂
    obtain ⟨m₂, ol₂, B₂⟩ := F₂.body
    exact store_any (b := .g (.int (i - j))) (σ := σ₁) F₂ B₂ hx (.int _ _) fun s' m' ol' w F' B' _ _ => Post.nx F' g₁ ((e₂.rl F.ok).trans w.rl)
  rcases l with ⟨k, e⟩ | ⟨k | ⟨k, z⟩, a, e, n⟩
  · exact wpAny_loadName_local F.kind k B.ns e rest
  · exact wpAny_loadName_cell F.kind k e n rest
  · exact wpAny_loadName_free F.kind k e n rest z

/-- several values at once -/
inductive BReps (s₀ : Shared) (c : Wd) (s : Shared) : List Value → List Bd → List Addr → Prop
  | nil : BReps s₀ c s [] [] []
  | g {v : Value} {d : D} {vs : List Value} {bs : List Bd} {ls : List Addr} : Rep c v d → BReps s₀ c s vs bs ls → BReps s₀ c s (v :: vs) (.g d :: bs) ls
  | o {l : Addr} {ds : List D} {vs : List Value} {bs : List Bd} {ls : List Addr} : OwnAt s₀ c s l ds → l ∉ ls → BReps s₀ c s vs bs ls → BReps s₀ c s (.ref l :: vs) (.o ds :: bs) (l :: ls)
theorem BReps.step {s₀ s s' : Shared} {c c' : Wd} (e : Ext X c s c' s') {vs bs ls} (h : BReps s₀ c s vs bs ls) : BReps s₀ c' s' vs bs ls := by
  induction h with
  | nil => exact .nil
  | g r _ ih => exact .g (r.mono e.le) ih
  | o w n _ ih => exact .o (w.step e) n ih
theorem BReps.append {s₀ s : Shared} {c : Wd} {vs bs ls vs' bs' ls'} (h : BReps s₀ c s vs bs ls) (h' : BReps s₀ c s vs' bs' ls') : (∀ l ∈ ls, l ∉ ls') → BReps s₀ c s (vs ++ vs') (bs ++ bs') (ls ++ ls') := by
  induction h with
  | nil => exact fun _ => h'
  | g r _ ih => exact fun k => .g r (ih k)
  | o w n _ ih => exact fun k => .o w (fun q => (List.mem_append.mp q).elim n (k _ List.mem_cons_self)) (ih fun l hl => k l (List.mem_cons_of_mem _ hl))
theorem BReps.reverse {s₀ s : Shared} {c : Wd} {vs bs ls} (h : BReps s₀ c s vs bs ls) : BReps s₀ c s vs.reverse bs.reverse ls.reverse := by
  induction h with
  | nil => exact .nil
  | g r _ ih =>
    have := ih.append (.g r .nil) (fun l _ q => nomatch q)
    rw [List.append_nil] at this
    rw [List.reverse_cons, List.reverse_cons]; exact this
  | o w n _ ih =>
    have := ih.append (.o w List.not_mem_nil .nil) (fun l hl q => n (by rw [List.mem_singleton] at q; rw [List.mem_reverse] at hl; exact q ▸ hl))
    rw [List.reverse_cons, List.reverse_cons, List.reverse_cons]; exact this
theorem BReps.length {s₀ s : Shared} {c : Wd} {vs bs ls} (h : BReps s₀ c s vs bs ls) : vs.length = bs.length := by
  induction h with
  | nil => rfl
  | g r _ ih => exact congrArg (· + 1) ih
  | o w n _ ih => exact congrArg (· + 1) ih
theorem Reps.breps {s₀ s : Shared} {c : Wd} : ∀ {vs : List Value} {ds : List D}, Reps c vs ds → BReps s₀ c s vs (ds.map .g) []
  | _, _, .nil => .nil
  | _, _, .cons r h => .g r (Reps.breps h)
theorem OwnAt.wrote {s₀ s s' : Shared} {c : Wd} {l : Addr} {ds : List D} (h : OwnAt s₀ c s l ds) (w : Wrote s s') : OwnAt s₀ c s' l ds :=
  ⟨h.cf, h.nh, h.new, let ⟨vs, n, e, r⟩ := h.at'; ⟨vs, n, w.nd _ _ e (.seq ⟨_, _, rfl⟩), r⟩⟩
theorem BReps.wrote {s₀ s s' : Shared} {c : Wd} (w : Wrote s s') {vs bs ls} (h : BReps s₀ c s vs bs ls) : BReps s₀ c s' vs bs ls := by
  induction h with
  | nil => exact .nil
  | g r _ ih => exact .g r ih
  | o q n _ ih => exact .o (q.wrote w) n ih

structure EB (X : Sys) (A : Around) (env : Env) (G : Gam) (O : Oms) (σ : Gh) (es : List Expr) (bs : List Bd) (σ' : Gh) : Prop where
  run : ∀ pos c₀ s₀ c s, FS X c₀ s₀ env G O c s → c.g = σ → wpAny (model X.prog X.w) A (spliced (backTo pos (starEach es env)))
    (fun vs s' => ∃ c' ls, Ext X c s c' s' ∧ BReps s₀ c' s' vs bs ls ∧ (∀ l ∈ ls, s.heap.get? l = none) ∧ c'.g = σ') (fun _ _ => False) s
theorem EB.nil : EB X A env G O σ [] [] σ := .mk fun pos c₀ s₀ c s F hg => args_nil ⟨c, [], .refl F.ok, .nil, (fun _ h => nomatch h), hg⟩
theorem EB.g {e : Expr} {es : List Expr} {d : D} {bs : List Bd} (h₁ : EV X A env G O σ e d σ₁) (h₂ : EB X A env G O σ₁ es bs σ₂)
    (he : starEach (e :: es) env = (false, eval e env) :: starEach es env := by rfl) : EB X A env G O σ (e :: es) (.g d :: bs) σ₂ := .mk fun pos c₀ s₀ c s F hg =>
  args_cons (wpAny_mono (h₁.run c₀ s₀ c s F hg) (fun v₁ s₁ ⟨c₁, e₁, r₁, g₁⟩ =>
    wpAny_mono (h₂.run pos c₀ s₀ c₁ s₁ (F.step e₁) g₁) (fun vs s₂ ⟨c₂, ls, e₂, r₂, n₂, g₂⟩ => ⟨c₂, ls, e₁.trans e₂, .g (r₁.mono e₂.le) r₂, fun l hl => e₁.keeps.live _ (n₂ l hl), g₂⟩) fun _ _ x => x) fun _ _ x => x) he
theorem EB.o {e : Expr} {es : List Expr} {ds : List D} {bs : List Bd} (h₁ : EF X A env G O σ e ds σ₁) (h₂ : EB X A env G O σ₁ es bs σ₂)
    (he : starEach (e :: es) env = (false, eval e env) :: starEach es env := by rfl) : EB X A env G O σ (e :: es) (.o ds :: bs) σ₂ := .mk fun pos c₀ s₀ c s F hg =>
  args_cons (wpAny_mono (h₁.run c₀ s₀ c s F hg) (fun v₁ s₁ ⟨c₁, f₁, g₁⟩ => by
    obtain ⟨l, rfl, hl, e₁, w₁⟩ := f₁.own F.ext
    exact wpAny_mono (h₂.run pos c₀ s₀ c₁ s₁ (F.step e₁) g₁) (fun vs s₂ ⟨c₂, ls, e₂, r₂, n₂, g₂⟩ => by
      refine ⟨c₂, l :: ls, e₁.trans e₂, .o (w₁.step e₂) (fun hm => ?_) r₂, fun l' hl' => ?_, g₂⟩
      · obtain ⟨vs', n, z, _⟩ := w₁.at'
        rw [n₂ l hm] at z; cases z
      · rcases List.mem_cons.mp hl' with rfl | hl'
        · exact hl
        · exact e₁.keeps.live _ (n₂ l' hl')) fun _ _ x => x) fun _ _ x => x) he

noncomputable def St.bindAll (S : St) : List (Str × Bd) → St
  | [] => S
  | (x, b) :: r => St.bindAll (S.bind x b) r

/-- stores -/
inductive Stos (X : Sys) (A : Around) (env : Env) : List (Value → Sem Unit) → List Str → Prop
  | nil : Stos X A env [] []
  | cons {f : Value → Sem Unit} {fs : List (Value → Sem Unit)} {x : Str} {xs : List Str} : Slot' env x → (∀ v Q E s, wpAny (model X.prog X.w) A (storeName env x v) Q E s → wpAny (model X.prog X.w) A (f v) Q E s) → Stos X A env fs xs → Stos X A env (f :: fs) (x :: xs)
theorem St.bind_σ {S : St} {x : Str} {b : Bd} : (S.bind x b).σ = S.σ := by cases b <;> rfl
theorem St.bind_G {S T : St} {x : Str} {b : Bd} (h : S.G = T.G) : (S.bind x b).G = (T.bind x b).G := by cases b <;> simp [St.bind, h]
theorem storeAll {c₀ c c₁ : Wd} {s₀ s₁ : Shared} {σ : Gh} {fs : List (Value → Sem Unit)} {xs : List Str} (hf : Stos X A env fs xs) : ∀ {S : St} {vs : List Value} {bs : List Bd} {ls : List Addr} {s : Shared} {m : Str → Option Value} {ol : Str → Addr} {Q : Unit → Shared → Prop},
    FS X c₀ s₀ env S.G S.O c s → FB env S.G S.O s₀ c s m ol → BReps s₀ c s vs bs ls → vs.length = xs.length → (∀ l ∈ ls, ∀ y es, S.O.lookup y = some es → ol y ≠ l) → Rl c₁ s₁ c s → c.g = S.σ →
    (∀ s', Post X c₀ s₀ env c₁ s₁ (.nx (S.bindAll (xs.zip bs))) .next s' → Q () s') → wpAny (model X.prog X.w) A (assignInOrder fs vs) Q (fun _ _ => False) s := by
  induction hf with
  | nil => intro S vs bs ls s m ol Q F B r hlen hne hi hg hQ; exact wpAny_pure (hQ s (Post.nx F hg hi))
  | cons hx hsto hrest ih =>
    intro S vs bs ls s m ol Q F B r hlen hne hi hg hQ
    cases r with
    | nil => simp at hlen
    | g rv rest =>
      refine wpAny_bind (wpAny_holding (hsto _ _ _ _ ?_))
      refine store_any (b := .g _) (σ := S.σ) F B hx rv fun s' m' ol' w F' B' h1 h2 => ?_
      refine ih (S := S.bind _ (.g _)) F' B' (rest.wrote w) (by simpa using hlen) (fun l hl y es hy => ?_) (hi.trans w.rl) hg hQ
      simp only [St.bind, Odel_lookup] at hy
      split at hy
      · cases hy
      · rename_i q
        rw [h1 y (by simp [St.bind, Odel_lookup, q, hy]) q]; exact hne l hl y es hy
    | o w₁ hn rest =>
      refine wpAny_bind (wpAny_holding (hsto _ _ _ _ ?_))
      refine store_any (b := .o _) (σ := S.σ) F B hx ⟨_, rfl, w₁, fun y es hy _ => hne _ (by simp) y es hy⟩ fun s' m' ol' w F' B' h1 h2 => ?_
      refine ih (S := S.bind _ (.o _)) F' B' (rest.wrote w) (by simpa using hlen) (fun l hl y es hy => ?_) (hi.trans w.rl) hg hQ
      simp only [St.bind, Oset_lookup] at hy
      split at hy
      · rename_i q; rw [q, h2 _ rfl]; rintro rfl; exact hn hl
      · rename_i q
        rw [h1 y (by simp [St.bind, Oset_lookup, q, hy]) q]; exact hne l (by simp [hl]) y es hy

theorem Stos.names {xs : List Str} (h : ∀ x ∈ xs, Slot' env x) : Stos X A env (xs.map fun n => bindName env n) xs := by
  induction xs with
  | nil => exact .nil
  | cons x xs ih => exact .cons (h x (by simp)) (fun v Q E s q => wpAny_bindName q) (ih fun y hy => h y (by simp [hy]))
theorem Stos.assigns {nps : List (Str × Pos)} (h : ∀ x ∈ nps.map (·.1), Slot' env x) : Stos X A env (nps.map fun np => assign (.Name np.1 np.2) env) (nps.map (·.1)) := by
  induction nps with
  | nil => exact .nil
  | cons x xs ih => exact .cons (h _ (by simp)) (fun v Q E s q => wpAny_assign_Name q) (ih fun y hy => h y (by simp only [List.map_cons, List.mem_cons]; exact .inr hy))

theorem isTup_of {s : Shared} {t : Addr} {vs : List Value} {n : Nat} (h : s.heap.get? t = some (tupO vs.toArray n)) : IsTup s.heap t vs.toArray := ⟨_, h, rfl, _, rfl⟩
theorem ExtBut.keeps {s : Shared} {h' : Heap} (he : Heap.ExtBut s.heap.objs.size s.heap h') : Keeps s { s with heap := h' } :=
  ⟨h', s.toks, rfl, fun b o e => he b o (by rintro rfl; exact absurd (Heap.lt_size e) (Nat.lt_irrefl _)) e⟩

/-- a display of two or three, stored in exchange -/
theorem TS.swap {S : St} {elts es : List Expr} {k k' : Nat} {tpos vpos pos : Pos} {names : List Str} {bs : List Bd} (hh : A.handled = none) (h : EB X A env S.G S.O S.σ es bs σ₁) (hx : ∀ x ∈ names, Slot' env x) (hb : bs.length = names.length) (hb' : bs.length ≤ 1000)
    (hs : swapsWithSole [.Tuple elts k tpos] (.Tuple es k' vpos) pos.line env = pure false := by rfl)
    (hw : swappedStores [.Tuple elts k tpos] (.Tuple es k' vpos) env = pure (some names) := by rfl) :
    TS X A env S (.Assign [.Tuple elts k tpos] (.Tuple es k' vpos) pos) (.nx (St.bindAll ⟨S.G, S.O, σ₁⟩ (names.reverse.zip bs.reverse))) := .mk fun c₀ s₀ c s F hg => by
  obtain ⟨m, ol, B⟩ := F.body
  refine Assign_Tuple_swapped (wpAny_Tuple (wpAny_mono (h.run vpos c₀ s₀ c s F hg) (fun vs s₁ ⟨c₁, ls, e₁, r₁, n₁, g₁⟩ => ?_) fun _ _ x => x)) hs hw
  have hl := r₁.length
  refine ⟨by simp [sizeLine]; omega, ?_⟩
  have e₂ := Ext.same e₁.ok (Keeps.push' s₁ (tupO vs.toArray 0) s₁.toks)
  rw [show names.length = vs.toArray.size by simp; omega]
  refine unpackItems_tuple hh (isTup_of (Heap.get?_push_size _ rfl)) fun h' he => ?_
  have e₃ := Ext.same e₂.ok (ExtBut.keeps he)
  have e := (e₁.trans e₂).trans e₃
  refine storeAll (S := ⟨S.G, S.O, σ₁⟩) (c₁ := c) (s₁ := s) (σ := σ₁) (Stos.names fun x hx' => hx x (by simpa using hx')) (F.step e) (B.step F.ok e) ((r₁.step e₂).step e₃).reverse (by simp; omega)
    (fun l hl y es' hy q => ?_) (e.rl F.ok) g₁ fun s' p => p
  obtain ⟨_, _, _, _, vs', n, z, _⟩ := B.own y es' hy
  rw [q, n₁ l (by simpa using hl)] at z; cases z
/-- a display, stored in order -/
theorem TS.tupB {S : St} {elts es : List Expr} {k k' : Nat} {tpos vpos pos : Pos} {nps : List (Str × Pos)} {bs : List Bd} (hh : A.handled = none) (h : EB X A env S.G S.O S.σ es bs σ₁)
    (ha : assignEach elts env = nps.map (fun np => (false, assign (.Name np.1 np.2) env))) (hx : ∀ x ∈ nps.map (·.1), Slot' env x) (hb : bs.length = nps.length) (hb' : bs.length ≤ 1000)
    (hs : swapsWithSole [.Tuple elts k tpos] (.Tuple es k' vpos) pos.line env = pure false := by rfl)
    (hw : swappedStores [.Tuple elts k tpos] (.Tuple es k' vpos) env = pure none := by rfl) :
    TS X A env S (.Assign [.Tuple elts k tpos] (.Tuple es k' vpos) pos) (.nx (St.bindAll ⟨S.G, S.O, σ₁⟩ ((nps.map (·.1)).zip bs))) := .mk fun c₀ s₀ c s F hg => by
  obtain ⟨m, ol, B⟩ := F.body
  refine Assign_Tuple (wpAny_Tuple (wpAny_mono (h.run vpos c₀ s₀ c s F hg) (fun vs s₁ ⟨c₁, ls, e₁, r₁, n₁, g₁⟩ => ?_) fun _ _ x => x)) hs hw
  have hl := r₁.length
  refine ⟨by simp [sizeLine]; omega, ?_⟩
  have e₂ := Ext.same e₁.ok (Keeps.push' s₁ (tupO vs.toArray 0) s₁.toks)
  refine assign_Tuple_tuple hh (isTup_of (Heap.get?_push_size _ rfl)) (by rw [ha]; simp; omega) (by rw [ha]; simp) fun h' he => ?_
  have e₃ := Ext.same e₂.ok (ExtBut.keeps he)
  have e := (e₁.trans e₂).trans e₃
  rw [ha, List.map_map]
  refine storeAll (S := ⟨S.G, S.O, σ₁⟩) (c₁ := c) (s₁ := s) (σ := σ₁) (Stos.assigns hx) (F.step e) (B.step F.ok e) ((r₁.step e₂).step e₃) (by simp; omega)
    (fun l hl y es' hy q => ?_) (e.rl F.ok) g₁ fun s' p => p
  obtain ⟨_, _, _, _, vs', n, z, _⟩ := B.own y es' hy
  rw [q, n₁ l (by simpa using hl)] at z; cases z
/-- a tuple that an expression gives, stored in order -/
theorem TS.tupE {S : St} {elts : List Expr} {value : Expr} {k : Nat} {tpos pos : Pos} {nps : List (Str × Pos)} {ds : List D} (hh : A.handled = none) (h : EV X A env S.G S.O S.σ value (.tup ds) σ₁)
    (ha : assignEach elts env = nps.map (fun np => (false, assign (.Name np.1 np.2) env))) (hx : ∀ x ∈ nps.map (·.1), Slot' env x) (hb : ds.length = nps.length)
    (hs : swapsWithSole [.Tuple elts k tpos] value pos.line env = pure false := by rfl)
    (hw : swappedStores [.Tuple elts k tpos] value env = pure none := by rfl) :
    TS X A env S (.Assign [.Tuple elts k tpos] value pos) (.nx (St.bindAll ⟨S.G, S.O, σ₁⟩ ((nps.map (·.1)).zip (ds.map .g)))) := .mk fun c₀ s₀ c s F hg => by
  obtain ⟨m, ol, B⟩ := F.body
  refine Assign_Tuple (wpAny_mono (h.run c₀ s₀ c s F hg) (fun v s₁ ⟨c₁, e₁, r₁, g₁⟩ => ?_) fun _ _ x => x) hs hw
  obtain ⟨t, vs, n, rfl, z, rs⟩ := r₁.tup_inv
  have hl := rs.length
  refine assign_Tuple_tuple hh (isTup_of (e₁.ok.wd _ _ z).1) (by rw [ha]; simp; omega) (by rw [ha]; simp) fun h' he => ?_
  have e₃ := Ext.same e₁.ok (ExtBut.keeps he)
  have e := e₁.trans e₃
  rw [ha, List.map_map]
  exact storeAll (S := ⟨S.G, S.O, σ₁⟩) (c₁ := c) (s₁ := s) (σ := σ₁) (Stos.assigns hx) (F.step e) (B.step F.ok e) rs.breps (by simp; omega)
    (fun l hl => nomatch hl) (e.rl F.ok) g₁ fun s' p => p

theorem TS.ret {S : St} {e : Expr} {pos : Pos} {d : D} (h : EV X A env S.G S.O S.σ e d σ₁) : TS X A env S (.Return (some e) pos) (.ret d σ₁) := .mk fun c₀ s₀ c s F hg =>
  wpAny_Return_some (wpAny_mono (h.run c₀ s₀ c s F hg) (fun v s₁ ⟨c₁, e₁, r₁, g₁⟩ => ⟨v, rfl, c₁, F.ext.trans e₁, r₁, g₁⟩) fun _ _ x => x)
/-- a list of the frame's own is handed back -/
theorem TS.retO {S : St} {x : Str} {p pos : Pos} {ds : List D} (h : S.O.lookup x = some ds) (hd : (x == ("__debug__" : Str)) = false := by decide) (hne : x ≠ hid := by decide) : TS X A env S (.Return (some (.Name x p)) pos) (.ret (.list ds) S.σ) := .mk fun c₀ s₀ c s F hg => by
  obtain ⟨c', F', g, _⟩ := F.freeze h hne
  refine wpAny_Return_some (wpAny_mono ((EV.name (x := x) (d := .list ds) (by rw [Gset_lookup, if_pos rfl]) hd).run c₀ s₀ c' s F' rfl) (fun v s₁ ⟨c₁, e₁, r₁, g₁⟩ => ⟨v, rfl, c₁, F'.ext.trans e₁, r₁, g₁.trans (g.trans hg)⟩) fun _ _ x => x)

theorem TS.ifT {S : St} {t : Expr} {body orelse : List Stmt} {pos : Pos} {out : Out} {q : Bool} (ht : TV X A env S.G S.O S.σ t q) (hb : q = true → TR X A env S body out) (he : q = false → TR X A env S orelse out) : TS X A env S (.If t body orelse pos) out := .mk fun c₀ s₀ c s F hg =>
  wpAny_If (wpAny_mono (ht.run c₀ s₀ c s F hg) (fun b s₁ ⟨e, c₁, e₁, g₁⟩ => by
    subst e
    cases b with
    | true => exact wpAny_mono ((hb rfl).run c₀ s₀ c₁ s₁ (F.step e₁) g₁) (fun fl s' p => p.later (e₁.rl F.ok)) fun _ _ x => x
    | false => exact wpAny_mono ((he rfl).run c₀ s₀ c₁ s₁ (F.step e₁) g₁) (fun fl s' p => p.later (e₁.rl F.ok)) fun _ _ x => x) fun _ _ x => x)
end

/-! text Fw7 -/
section
open PySem.Calls PySem.SeqAt

variable {X : Sys} {A : Around} {env : Env} {G : Gam} {O : Oms} {σ σ₁ σ₂ σ₃ σ₄ : Gh}

theorem mapSeq_set (its : Array Value) (n j : Nat) (v : Value) : Obj.mapSeq (·.setIfInBounds j v) (listO its n) = listO (its.setIfInBounds j v) n := by
  simp [Obj.mapSeq]
/-- an item is written, in the object's own words -/
theorem setItem_exact {prog : Program} {w : World} {A : Around} {E : Value → Shared → Prop} {s : Shared} {l : Addr} {its : Array Value} {n : Nat} {k : Int} {t : Tok} {v : Value} {Q : Unit → Shared → Prop}
    (hl : s.heap.get? l = some (listO its n)) (h0 : 0 ≤ k) (hfit : k < 2 ^ 63) (hn : k < its.size)
    (hQ : ∀ h', h'.get? l = some (listO (its.setIfInBounds k.toNat v) n) → Heap.SameBut l s.heap h' → Q () { s with heap := h' }) : wpAny (model prog w) A (setItem (.ref l) (.int k t) v) Q E s := by
  have hT : s.TypeIs (.ref l) "list" := ⟨_, hl, rfl⟩
  unfold setItem
  try with_reducible refine wpAny_holding ?_
  first | refine wpAny_bind (wpAny_pure ?_) | skip
  refine wpAny_bind (wpAny_sequenceKey hT (by decide) ?_)
  refine wpAny_bind (wpAny_callSpecial?_slot (name := Str.ofString "__setitem__") hT slot_list_setitem (wpAny_call_entry slot_list_setitem hT entry_list_setitem ?_ (args_list_setitem _ _ _)))
  show wpAny _ _ (Builtin.List.listSubscript? (.int k t) >>= _) _ _ s
  refine wpAny_bind (wpAny_listSubscript_int (fitsIndex_of h0 hfit) ?_)
  clear hfit
  obtain ⟨j, rfl⟩ := Int.eq_ofNat_of_zero_le h0
  have hj : j < its.size := by omega
  have hx' : its[j]? = some its[j] := Array.getElem?_eq_getElem hj
  show wpAny _ _ ((seqItemAt l j >>= fun r => pure (r.map (j, ·))) >>= _) _ _ s
  refine wpAny_bind (wpAny_bind (wpAny_seqItemAt hl rfl (wpAny_pure ?_)))
  rw [hx']
  show wpAny _ _ (setSeqItemAt l j v >>= _) _ _ s
  have hfin : (s.heap.update l (Obj.mapSeq (·.setIfInBounds j v))).get? l = some (listO (its.setIfInBounds j v) n) := by
    rw [Heap.get?_update_self _ hl (by rw [mapSeq_set]; rfl), mapSeq_set]
  refine wpAny_bind (wpAny_setSeqItemAt hl rfl ?_)
  first
    | exact wpAny_bind (wpAny_pure (wpAny_pure ⟨.none, rfl, wpAny_pure (hQ _ hfin (Heap.SameBut.update ..))⟩))
    | exact wpAny_pure ⟨.none, rfl, wpAny_pure (hQ _ hfin (Heap.SameBut.update ..))⟩

/-- an owned list's object is changed -/
theorem FS.change {x : Str} {ds ds' : List D} {c₀ c : Wd} {s₀ s : Shared} {m : Str → Option Value} {ol : Str → Addr} (F : FS X c₀ s₀ env G O c s) (B : FB env G O s₀ c s m ol) (ho : O.lookup x = some ds)
    {h' : Heap} {tk : Nat} {vs' : List Value} {n' : Nat} (hn : h'.get? (ol x) = some (listO vs'.toArray n')) (r : Reps c vs' ds') (hs : Heap.SameBut (ol x) s.heap h') :
    FS X c₀ s₀ env G (Oset O x ds') c { s with heap := h', toks := tk } ∧ Rl c s c { s with heap := h', toks := tk } := by
  obtain ⟨hat, hc, hh, hn₀, vs, n, hl, r₀⟩ := B.own x ds ho
  have keep : ∀ b o, b ≠ ol x → s.heap.get? b = some o → h'.get? b = some o := fun b o q e => (hs.2 b q).trans e
  have nsne : env.locals ≠ ol x := by
    intro e; obtain ⟨o', es, ep, h3, h4, _⟩ := B.ns
    rw [e, hl] at h3; cases h3; cases h4
  have cellne : ∀ a v, s.heap.IsCell a v → a ≠ ol x := by
    intro a v ⟨o, h1, h2⟩ e; rw [e, hl] at h1; cases h1; cases h2
  have atk : ∀ y w, At m env s.heap y w → At m env h' y w := fun y w q => by
    rcases q with q | ⟨k, a, e, n⟩
    · exact .inl q
    · exact .inr ⟨k, a, e, n.sameBut hs (cellne _ _ n)⟩
  have fne : ∀ b o, c.f b = some o → b ≠ ol x := fun b o e q => by rw [q, hc] at e; cases e
  have K := F.ok
  refine ⟨⟨⟨?_, F.ext.le, F.ext.fresh, ?_⟩, F.kind, F.glo, F.blt, F.base₀, F.new, fun y a ha => ?_, F.cellsApart, m, ol, B.ns.sameBut hs nsne, fun y d h => ?_, fun y es h => ?_, fun y es y' es' h h' => ?_⟩, ⟨fun _ _ e => e, fun _ _ e => e, fun b o e i => ?_⟩⟩
  · obtain ⟨⟨h1, t1, e1⟩, a1, l1⟩ := F.ext.keeps
    refine ⟨⟨h', tk, by rw [e1]⟩, fun b o nh e => keep b o (fun q => by rw [q, hn₀] at e; cases e) (a1 b o nh e), fun b e => l1 b ?_⟩
    by_cases q : b = ol x
    · subst q; have : h'.get? (ol x) = none := e; rw [hn] at this; cases this
    · rw [← hs.2 b q]; exact e
  · refine ⟨fun b o e => keep b o (fun q => ?_) (K.base b o e), K.c0, fun b o e => ⟨keep b o (fne b o e) (K.wd b o e).1, (K.wd b o e).2⟩, fun a v e => ?_, fun a rs e => ?_, K.apart, K.hb, K.m0⟩
    · have := F.base₀ b o e; rw [q, hn₀] at this; cases this
    · obtain ⟨p, q, t, k, z⟩ := K.pool a v e
      exact ⟨p, q, t, k, keep _ _ (fun y => hh (y ▸ .inl ⟨v, e⟩)) z⟩
    · obtain ⟨p, ⟨k, q⟩, t, u, v, z⟩ := K.mat a rs e
      exact ⟨p, ⟨k, keep _ _ (fun y => hh (y ▸ .inr (.inl ⟨rs, e⟩))) q⟩, t, u, v, z.keeps fun b hb o => keep b o (fun y => hh (y ▸ .inr (.inr ⟨a, rs, e, hb⟩)))⟩
  · obtain ⟨v, o, h1, h2⟩ := (F.cells y a ha).2
    exact ⟨(F.cells y a ha).1, v, o, keep _ _ (cellne a v ⟨o, h1, h2⟩) h1, h2⟩
  · obtain ⟨v, l, r⟩ := B.names y d h; exact ⟨v, atk _ _ l, r⟩
  · rw [Oset_lookup] at h
    by_cases q : y = x
    · rw [if_pos q] at h; cases h; subst q; exact ⟨hat.map (atk _ _), hc, hh, hn₀, vs', n', hn, r⟩
    · rw [if_neg q] at h
      obtain ⟨a, p, t, u, vs₁, k, z, r₁⟩ := B.own y es h
      exact ⟨a.map (atk _ _), p, t, u, vs₁, k, keep _ _ (fun e => q (B.apart _ _ _ _ h ho e)) z, r₁⟩
  · rw [Oset_lookup] at h h'
    by_cases q : y = x
    · by_cases q' : y' = x
      · intro _; rw [q, q']
      · rw [if_neg q'] at h'; subst q; exact B.apart _ _ _ _ ho h'
    · rw [if_neg q] at h
      by_cases q' : y' = x
      · subst q'; exact B.apart _ _ _ _ h ho
      · rw [if_neg q'] at h'; exact B.apart _ _ _ _ h h'
  · refine keep b o (fun q => ?_) e
    rw [q, hl] at e; cases e; exact i

theorem set_list (vs : List Value) (k : Nat) (v : Value) : vs.toArray.setIfInBounds k v = (vs.set k v).toArray := by simp

/-- x[i] = value -/
theorem TS.putItem {S : St} {x : Str} {px p pos : Pos} {idx value : Expr} {ds : List D} {i : Int} {d : D} (ho : S.O.lookup x = some ds) (hv : EV X A env S.G S.O S.σ value d σ₁) (hi : EV X A env S.G S.O σ₁ idx (.int i) σ₂)
    (h0 : 0 ≤ i) (hn : i < ds.length) (hb : ds.length ≤ 100000)
    (hs : swapsWith value (some (.Subscript (.Name x px) idx p)) pos.line env = pure false := by rfl) (hd : (x == ("__debug__" : Str)) = false := by decide) (hne : x ≠ hid := by decide) :
    TS X A env S (.Assign [.Subscript (.Name x px) idx p] value pos) (.nx ⟨S.G, Oset S.O x (ds.set i.toNat d), σ₂⟩) := .mk fun c₀ s₀ c s F hg => by
  obtain ⟨m, ol, B⟩ := F.body
  refine wpAny_Assign_Subscript (wpAny_mono (hv.run c₀ s₀ c s F hg) (fun v s₁ ⟨c₁, e₁, r₁, g₁⟩ => ?_) fun _ _ x => x) hs
  have B₁ := B.step F.ok e₁
  obtain ⟨hat, hc, hh, hn₀, vs, n, hl, r₀⟩ := B₁.own x ds ho
  refine wpAny_name_at F.kind B₁.ns (hat.at hne) ?_ hd
  refine wpAny_mono (hi.run c₀ s₀ c₁ s₁ (F.step e₁) g₁) (fun iv s₂ ⟨c₂, e₂, r₂, g₂⟩ => ?_) fun _ _ x => x
  obtain ⟨t, rfl⟩ := r₂.int_inv
  have F₂ := (F.step e₁).step e₂
  have B₂ := B₁.step (F.step e₁).ok e₂
  have hlen := r₀.length
  refine setItem_exact (e₂.keeps.all _ _ hh hl) h0 (by omega) (by simp; omega) fun h' hl' hs' => ?_
  rw [set_list] at hl'
  obtain ⟨F', k⟩ := F₂.change B₂ ho (tk := s₂.toks) hl' ((r₀.mono e₂.le).set (r₁.mono e₂.le)) hs'
  exact Post.nx F' g₂ (((e₁.rl F.ok).trans (e₂.rl e₁.ok)).trans k)
/-- x[i] += value -/
theorem TS.augItem {S : St} {x : Str} {px p pos : Pos} {idx value : Expr} {ds : List D} {i a b : Int} (ho : S.O.lookup x = some ds) (hi : EV X A env S.G S.O S.σ idx (.int i) σ₁) (hv : EV X A env S.G S.O σ₁ value (.int b) σ₂)
    (h0 : 0 ≤ i) (hx : ds[i.toNat]? = some (.int a)) (hb : ds.length ≤ 100000)
    (hs : ∀ ov iv new, augStore idx ov iv new = (do holding [new, ov, iv] (setItem ov iv new); release [new, ov, iv] []; pure .next) := by intros; rfl) (hd : (x == ("__debug__" : Str)) = false := by decide) (hne : x ≠ hid := by decide) :
    TS X A env S (.AugAssign (.Subscript (.Name x px) idx p) .Add value pos) (.nx ⟨S.G, Oset S.O x (ds.set i.toNat (.int (a + b))), σ₂⟩) := .mk fun c₀ s₀ c s F hg => by
  obtain ⟨m, ol, B⟩ := F.body
  obtain ⟨hat, hc, hh, hn₀, vs, n, hl, r₀⟩ := B.own x ds ho
  refine wpAny_AugAssign_SubscriptAny (wpAny_name_at F.kind B.ns (hat.at hne) ?_ hd) hs
  refine wpAny_mono (hi.run c₀ s₀ c s F hg) (fun iv s₁ ⟨c₁, e₁, r₁, g₁⟩ => ?_) fun _ _ x => x
  obtain ⟨t, rfl⟩ := r₁.int_inv
  have B₁ := B.step F.ok e₁
  have hlen := r₀.length
  have hlt : i.toNat < ds.length := (List.getElem?_eq_some_iff.mp hx).1
  have hl₁ := e₁.keeps.all _ _ hh hl
  refine getItem_list_any hl₁ (r₀.mono e₁.le) (d := .int a) (by unfold D.item; rw [if_pos h0]; exact hx) hb fun old ro => ?_
  obtain ⟨t', rfl⟩ := ro.int_inv
  refine wpAny_mono (hv.run c₀ s₀ c₁ s₁ (F.step e₁) g₁) (fun v s₂ ⟨c₂, e₂, r₂, g₂⟩ => ?_) fun _ _ x => x
  obtain ⟨u, rfl⟩ := r₂.int_inv
  refine P.iadd_int ?_
  have e₃ := e₂.trans (.same e₂.ok (Keeps.tok' s₂ (s₂.toks + 1)))
  have F₂ := (F.step e₁).step e₃
  have B₂ := B₁.step (F.step e₁).ok e₃
  have hh₁ : ¬ c₁.hole (ol x) := (B₁.own x ds ho).2.2.1
  refine setItem_exact (e₃.keeps.all _ _ hh₁ hl₁) h0 (by omega) (by simp; omega) fun h' hl' hs' => ?_
  rw [set_list] at hl'
  obtain ⟨F', k⟩ := F₂.change B₂ ho (tk := s₂.toks + 1) hl' (((r₀.mono e₁.le).mono e₃.le).set (.int _ _)) hs'
  exact Post.nx F' g₂ (((e₁.rl F.ok).trans (e₃.rl e₁.ok)).trans k)

theorem push_list (vs : List Value) (v : Value) : vs.toArray.push v = (vs ++ [v]).toArray := by simp
/-- x.append(value) -/
theorem TS.append {S : St} {x name : Str} {px pa pc pos : Pos} {value : Expr} {ds : List D} {d : D} {pl : Sem Bool} (ho : S.O.lookup x = some ds) (hv : EV X A env S.G S.O S.σ value d σ₁) (hname : name = "append") (hb : ds.length ≤ 100000)
    (he' : eval (.Call (.Attribute (.Name x px) name pa) [value] [] pc) env = (do
      let ov ← eval (.Name x px) env
      standAt pa.atName
      let (f, first) ← holding [ov] (getMethod ov name pl)
      callWith pc f first (backTo pc (starEach [value] env)) []) := by rfl)
    (he : starEach [value] env = (false, eval value env) :: starEach [] env := by rfl) (hd : (x == ("__debug__" : Str)) = false := by decide) (hne : x ≠ hid := by decide)
    (hin : interactive env = false := by rfl) (hs : swapsWith (.Call (.Attribute (.Name x px) name pa) [value] [] pc) none pos.line env = pure false := by rfl) :
    TS X A env S (.Expr (.Call (.Attribute (.Name x px) name pa) [value] [] pc) pos) (.nx ⟨S.G, Oset S.O x (ds ++ [d]), σ₁⟩) := .mk fun c₀ s₀ c s F hg => by
  subst hname
  obtain ⟨m, ol, B⟩ := F.body
  obtain ⟨hat, hc, hh, hn₀, vs, n, hl, r₀⟩ := B.own x ds ho
  refine wpAny_Expr (MethodCall_ (pl := pl) (wpAny_name_at F.kind B.ns (hat.at hne) ?_ hd) he') hin hs
  refine Calls.getMethod_list_append hl rfl rfl ?_
  refine callWith_method1 (args_cons (wpAny_mono (hv.run c₀ s₀ c s F hg) (fun v s₁ ⟨c₁, e₁, r₁, g₁⟩ => args_nil ?_) fun _ _ x => x) he) he
  have B₁ := B.step F.ok e₁
  have hl₁ := e₁.keeps.all _ _ hh hl
  have hlen := r₀.length
  refine wpAny_list_append_plain ⟨n, hl₁⟩ (fun h' hp hs' => ?_) (by simp [sizeLine]; omega)
  rw [push_list] at hp
  obtain ⟨n', hp⟩ := hp
  obtain ⟨F', k⟩ := (F.step e₁).change B₁ ho (tk := s₁.toks) hp ((r₀.mono e₁.le).append (.cons r₁ .nil)) hs'
  exact Post.nx F' g₁ ((e₁.rl F.ok).trans k)
end

/-! text Fw8 -/
section
open PySem.Calls PySem.SeqAt

variable {X : Sys} {A : Around} {env : Env} {G : Gam} {O : Oms} {σ σ₁ σ₂ σ₃ σ₄ : Gh}

/-- while: a chain of states -/
theorem TS.while {S : Nat → St} {test : Expr} {body : List Stmt} {pos : Pos} (n : Nat) (ht : ∀ i, i < n → TV X A env (S i).G (S i).O (S i).σ test true) (hb : ∀ i, i < n → TR X A env (S i) body (.nx (S (i + 1))))
    (hf : TV X A env (S n).G (S n).O (S n).σ test false) : TS X A env (S 0) (.While test body [] pos) (.nx (S n)) := .mk fun c₀ s₀ c s F hg => by
  refine wpAny_While (codeAny_whileLoop (fun k s' => ∃ i c', k = n - i ∧ i ≤ n ∧ FS X c₀ s₀ env (S i).G (S i).O c' s' ∧ c'.g = (S i).σ ∧ Rl c s c' s') ?_ n ⟨0, c, rfl, Nat.zero_le _, F, hg, .refl c s⟩)
  rintro k s' ⟨i, c', rfl, hi, F', g', r'⟩
  rcases Nat.lt_or_ge i n with h | h
  · refine wpAny_mono ((ht i h).run c₀ s₀ c' s' F' g') (fun b s₁ ⟨e, c₁, e₁, g₁⟩ => ?_) fun _ _ x => x.elim
    subst e
    show wpAny _ _ (execs body env) _ _ s₁
    refine wpAny_mono ((hb i h).run c₀ s₀ c₁ s₁ (F'.step e₁) g₁) (fun fl s₂ ⟨e, c₂, F₂, g₂, r₂⟩ => ?_) fun _ _ x => x.elim
    subst e
    exact ⟨n - (i + 1), by omega, i + 1, c₂, rfl, h, F₂, g₂, (r'.trans (e₁.rl F'.ok)).trans r₂⟩
  · have : i = n := by omega
    subst this
    refine wpAny_mono (hf.run c₀ s₀ c' s' F' g') (fun b s₁ ⟨e, c₁, e₁, g₁⟩ => ?_) fun _ _ x => x.elim
    subst e
    exact wpAny_execs_nil (Post.nx (F'.step e₁) g₁ (r'.trans (e₁.rl F'.ok)))

/-- what a turn gives: one thing, or a number and a thing -/
inductive ID where
  | one (d : D)
  | pair (i : Int) (d : D)
noncomputable def IV (c : Wd) (h : Heap) (v : Value) : ID → Prop
  | .one d => Rep c v d
  | .pair i d => ∃ T t x, v = .ref T ∧ IsTup h T #[.int i t, x] ∧ Rep c x d

structure Mv (wr : List Addr) (s s' : Shared) : Prop where
  same : ∃ h' tk, s' = { s with heap := h', toks := tk }
  all : ∀ b o, b ∉ wr → s.heap.get? b = some o → s'.heap.get? b = some o

structure Turns (X : Sys) (A : Around) (target : Expr) (it : Value) (wr : List Addr) (n : Nat) (iv : Nat → ID) (J : Nat → Wd → Shared → Prop) : Prop where
  itrs : ∀ i c s, J i c s → ∀ b ∈ wr, ∃ o, s.heap.get? b = some o ∧ Itr o
  step : ∀ i c s c' s', J i c s → Rl c s c' s' → J i c' s'
  self : ∀ i c s (Q : Value → Shared → Prop) E, Ok X c s → J i c s → Q it s → wpAny (model X.prog X.w) A (pyIter it) Q E s
  next : ∀ i c s, i < n → Ok X c s → J i c s → wpAny (model X.prog X.w) A (pyNext it) (fun r s₁ => ∃ v, r = some v ∧ wpAny (model X.prog X.w) A (letOwnedTupleGo target it v)
    (fun _ s₂ => Mv wr s s₂ ∧ J (i + 1) c s₂ ∧ IV c s₂.heap v (iv i)) (fun _ _ => False) s₁) (fun _ _ => False) s
  done : ∀ c s, Ok X c s → J n c s → wpAny (model X.prog X.w) A (pyNext it) (fun r s₁ => r = none ∧ Mv wr s s₁) (fun _ _ => False) s

theorem FS.moved {c₀ c : Wd} {s₀ s s' : Shared} {wr : List Addr} (F : FS X c₀ s₀ env G O c s) (mv : Mv wr s s') (hw : ∀ b ∈ wr, ∃ o, s.heap.get? b = some o ∧ Itr o) (hn : ∀ b ∈ wr, s₀.heap.get? b = none) :
    FS X c₀ s₀ env G O c s' := by
  have nit : ∀ b o, s.heap.get? b = some o → ¬ Itr o → s'.heap.get? b = some o := fun b o e i => mv.all b o (fun hb => by
    obtain ⟨o', e', i'⟩ := hw b hb; rw [e] at e'; cases e'; exact i i') e
  have nseq : ∀ b o, s.heap.get? b = some o → (∃ xs n, o.data = .seq xs n) → s'.heap.get? b = some o := fun b o e ⟨xs, n, h⟩ => nit b o e (fun i => by unfold Itr at i; rw [h] at i; exact i)
  have ncell : ∀ a v, s.heap.IsCell a v → s'.heap.IsCell a v := fun a v ⟨o, e, h⟩ => ⟨o, nit a o e (fun i => by unfold Itr at i; rw [h] at i; exact i), h⟩
  have atk : ∀ (m : Str → Option Value) y w, At m env s.heap y w → At m env s'.heap y w := fun m y w q => by
    rcases q with q | ⟨k, a, e, n⟩
    · exact .inl q
    · exact .inr ⟨k, a, e, ncell _ _ n⟩
  have K := F.ok
  obtain ⟨m, ol, B⟩ := F.body
  refine ⟨⟨?_, F.ext.le, F.ext.fresh, ?_⟩, F.kind, F.glo, F.blt, F.base₀, F.new, fun y a ha => ?_, F.cellsApart, m, ol, ?_, fun y d h => ?_, fun y es h => ?_, B.apart⟩
  · obtain ⟨⟨h1, t1, e1⟩, a1, l1⟩ := F.ext.keeps
    obtain ⟨h2, t2, e2⟩ := mv.same
    refine ⟨⟨h2, t2, by rw [e2, e1]⟩, fun b o nh e => mv.all b o (fun hb => by rw [hn b hb] at e; cases e) (a1 b o nh e), fun b e => ?_⟩
    by_cases hb : b ∈ wr
    · exact hn b hb
    · refine l1 b ?_
      cases q : s.heap.get? b with
      | none => rfl
      | some o => rw [mv.all b o hb q] at e; cases e
  · refine ⟨fun b o e => mv.all b o (fun hb => ?_) (K.base b o e), K.c0, fun b o e => ⟨nseq b o (K.wd b o e).1 (K.wd b o e).2, (K.wd b o e).2⟩, fun a v e => ?_, fun a rs e => ?_, K.apart, K.hb, K.m0⟩
    · have := F.base₀ b o e; rw [hn b hb] at this; cases this
    · obtain ⟨p, q, t, k, z⟩ := K.pool a v e
      exact ⟨p, q, t, k, nseq _ _ z ⟨_, _, rfl⟩⟩
    · obtain ⟨p, ⟨k, q⟩, t, u, v, z⟩ := K.mat a rs e
      exact ⟨p, ⟨k, nseq _ _ q ⟨_, _, rfl⟩⟩, t, u, v, z.keeps fun b hb o e => by obtain ⟨vs, k', z'⟩ := z.get b hb; rw [z'] at e; cases e; exact nseq _ _ z' ⟨_, _, rfl⟩⟩
  · obtain ⟨v, h⟩ := (F.cells y a ha).2
    exact ⟨(F.cells y a ha).1, v, ncell _ _ h⟩
  · obtain ⟨o, es, ep, h1, h2, h3⟩ := B.ns
    exact ⟨o, es, ep, nit _ _ h1 (fun i => by unfold Itr at i; rw [h2] at i; exact i), h2, h3⟩
  · obtain ⟨v, l, r⟩ := B.names y d h; exact ⟨v, atk _ _ _ l, r⟩
  · obtain ⟨a, p, t, u, vs₁, k, z, r₁⟩ := B.own y es h
    exact ⟨a.map (atk _ _ _), p, t, u, vs₁, k, nseq _ _ z ⟨_, _, rfl⟩, r₁⟩

/-- a target's stores -/
structure Tg (X : Sys) (A : Around) (env : Env) (target : Expr) (id : ID) (bds : List (Str × Bd)) : Prop where
  run : ∀ (S : St) c₀ s₀ c s v, FS X c₀ s₀ env S.G S.O c s → c.g = S.σ → IV c s.heap v id → wpAny (model X.prog X.w) A (PySem.assign target env v) (fun _ s' => Post X c₀ s₀ env c s (.nx (S.bindAll bds)) .next s') (fun _ _ => False) s
theorem Tg.one {x : Str} {p : Pos} {d : D} (hx : Slot' env x) : Tg X A env (.Name x p) (.one d) [(x, .g d)] := .mk fun S c₀ s₀ c s v F hg r => by
  obtain ⟨m, ol, B⟩ := F.body
  exact wpAny_assign_Name (store_any (b := .g d) (σ := S.σ) F B hx r fun s' m' ol' w F' B' _ _ => Post.nx F' hg w.rl)
theorem Tg.pair {x y : Str} {p q pos : Pos} {k : Nat} {i : Int} {d : D} (hh : A.handled = none) (hx : Slot' env x) (hy : Slot' env y) : Tg X A env (.Tuple [.Name x p, .Name y q] k pos) (.pair i d) [(x, .g (.int i)), (y, .g d)] := .mk fun S c₀ s₀ c s v F hg r => by
  obtain ⟨T, t, w, rfl, hT, rw'⟩ := r
  obtain ⟨m, ol, B⟩ := F.body
  refine assign_Tuple_tuple hh hT rfl rfl fun h' he => ?_
  have e := Ext.same F.ok (ExtBut.keeps he)
  exact storeAll (c₁ := c) (s₁ := s) (σ := S.σ) (xs := [x, y]) (Stos.assigns (nps := [(x, p), (y, q)]) (fun z hz => by simp at hz; rcases hz with rfl | rfl <;> assumption)) (F.step e) (B.step F.ok e)
    (BReps.g (.int i t) (BReps.g rw' .nil)) rfl (fun l hl => nomatch hl) (e.rl F.ok) hg fun s' p => p

/-- what a loop walks over -/
structure IT (X : Sys) (A : Around) (env : Env) (G : Gam) (O : Oms) (σ : Gh) (target iter : Expr) (n : Nat) (iv : Nat → ID) (σ' : Gh) : Prop where
  run : ∀ c₀ s₀ c s, FS X c₀ s₀ env G O c s → c.g = σ → wpAny (model X.prog X.w) A (eval iter env) (fun x s₁ => wpAny (model X.prog X.w) A (pyIter x)
    (fun it s₂ => ∃ I c' wr J, it = .ref I ∧ Ext X c s c' s₂ ∧ c'.g = σ' ∧ Turns X A target it wr n iv J ∧ J 0 c' s₂ ∧ ∀ b ∈ wr, s.heap.get? b = none) (fun _ _ => False) s₁) (fun _ _ => False) s

theorem Mv.rl {c : Wd} {s s' : Shared} {wr : List Addr} {s₁ : Shared} {c₁ : Wd} (h : Rl c₁ s₁ c s) (mv : Mv wr s s') (hn : ∀ b ∈ wr, s₁.heap.get? b = none) : Rl c₁ s₁ c s' :=
  ⟨h.f, h.rep, fun b o e i => mv.all b o (fun hb => by rw [hn b hb] at e; cases e) (h.itr b o e i)⟩

/-- for, without a way out -/
theorem TS.forN {S₀ : St} {S : Nat → St} {target iter : Expr} {body : List Stmt} {pos : Pos} {n : Nat} {iv : Nat → ID} {bds : Nat → List (Str × Bd)} (hi : IT X A env S₀.G S₀.O S₀.σ target iter n iv σ₁) (h0 : St.sub ⟨S₀.G, S₀.O, σ₁⟩ (S 0))
    (ht : ∀ i, i < n → Tg X A env target (iv i) (bds i)) (hb : ∀ i, i < n → TR X A env ((S i).bindAll (bds i)) body (.nx (S (i + 1))))
    (hs : ∀ x, foldedSetIterable iter env x = pure x := by intro _; rfl) : TS X A env S₀ (.For target iter body [] pos) (.nx (S n)) := .mk fun c₀ s₀ c s F hg => by
  refine wpAny_For (wpAny_mono (hi.run c₀ s₀ c s F hg) (fun x s₁ h₁ => wpAny_mono h₁ (fun it s₂ h₂ => ?_) fun _ _ x => x) fun _ _ x => x) hs
  obtain ⟨I, c₂, wr, J, rfl, e₂, g₂, T, j₂, hw⟩ := h₂
  have hw₀ : ∀ b ∈ wr, s₀.heap.get? b = none := fun b hb => F.ext.keeps.live b (hw b hb)
  refine codeAny_forLoop_any (fun k s' => ∃ i c', k = n - i ∧ i ≤ n ∧ FS X c₀ s₀ env (S i).G (S i).O c' s' ∧ c'.g = (S i).σ ∧ Rl c s c' s' ∧ J i c' s') ?_ n ⟨0, c₂, rfl, Nat.zero_le _, (F.step e₂).sub h0.G h0.O, g₂.trans h0.σ, e₂.rl F.ok, j₂⟩
  rintro k s' ⟨i, c', rfl, hi, F', g', r', j'⟩
  rcases Nat.lt_or_ge i n with h | h
  · refine wpAny_mono (T.next i c' s' h F'.ok j') (fun r s₃ ⟨v, e, h₃⟩ => ?_) fun _ _ x => x.elim
    subst e
    refine wpAny_mono h₃ (fun _ s₄ ⟨mv, j₄, iv₄⟩ => ?_) fun _ _ x => x.elim
    have F₄ := F'.moved mv (T.itrs i c' s' j') hw₀
    refine wpAny_mono ((ht i h).run _ c₀ s₀ c' s₄ v F₄ g' iv₄) (fun _ s₅ ⟨_, c₅, F₅, g₅, r₅⟩ => ?_) fun _ _ x => x.elim
    refine wpAny_mono ((hb i h).run c₀ s₀ c₅ s₅ F₅ g₅) (fun fl s₆ ⟨e, c₆, F₆, g₆, r₆⟩ => ?_) fun _ _ x => x.elim
    subst e
    exact ⟨n - (i + 1), by omega, i + 1, c₆, rfl, h, F₆, g₆, (Mv.rl r' mv hw).trans (r₅.trans r₆), T.step _ _ _ _ _ j₄ (r₅.trans r₆)⟩
  · have : i = n := by omega
    subst this
    refine wpAny_mono (T.done c' s' F'.ok j') (fun r s₃ ⟨e, mv⟩ => ?_) fun _ _ x => x.elim
    subst e
    exact wpAny_execs_nil (Post.nx (F'.moved mv (T.itrs _ c' s' j') hw₀) g' (Mv.rl r' mv hw))
/-- for, which hands back at the turn j -/
theorem TS.forR {S₀ : St} {S : Nat → St} {target iter : Expr} {body : List Stmt} {pos : Pos} {n j : Nat} {iv : Nat → ID} {bds : Nat → List (Str × Bd)} {d : D} (hi : IT X A env S₀.G S₀.O S₀.σ target iter n iv σ₁) (h0 : St.sub ⟨S₀.G, S₀.O, σ₁⟩ (S 0)) (hj : j < n)
    (ht : ∀ i, i ≤ j → Tg X A env target (iv i) (bds i)) (hb : ∀ i, i < j → TR X A env ((S i).bindAll (bds i)) body (.nx (S (i + 1)))) (hr : TR X A env ((S j).bindAll (bds j)) body (.ret d σ₂))
    (hs : ∀ x, foldedSetIterable iter env x = pure x := by intro _; rfl) : TS X A env S₀ (.For target iter body [] pos) (.ret d σ₂) := .mk fun c₀ s₀ c s F hg => by
  refine wpAny_For (wpAny_mono (hi.run c₀ s₀ c s F hg) (fun x s₁ h₁ => wpAny_mono h₁ (fun it s₂ h₂ => ?_) fun _ _ x => x) fun _ _ x => x) hs
  obtain ⟨I, c₂, wr, J, rfl, e₂, g₂, T, j₂, hw⟩ := h₂
  have hw₀ : ∀ b ∈ wr, s₀.heap.get? b = none := fun b hb => F.ext.keeps.live b (hw b hb)
  refine codeAny_forLoop_any (fun k s' => ∃ i c', k = n - i ∧ i ≤ j ∧ FS X c₀ s₀ env (S i).G (S i).O c' s' ∧ c'.g = (S i).σ ∧ Rl c s c' s' ∧ J i c' s') ?_ n ⟨0, c₂, rfl, Nat.zero_le _, (F.step e₂).sub h0.G h0.O, g₂.trans h0.σ, e₂.rl F.ok, j₂⟩
  rintro k s' ⟨i, c', rfl, hi, F', g', r', j'⟩
  have h : i < n := by omega
  refine wpAny_mono (T.next i c' s' h F'.ok j') (fun r s₃ ⟨v, e, h₃⟩ => ?_) fun _ _ x => x.elim
  subst e
  refine wpAny_mono h₃ (fun _ s₄ ⟨mv, j₄, iv₄⟩ => ?_) fun _ _ x => x.elim
  have F₄ := F'.moved mv (T.itrs i c' s' j') hw₀
  refine wpAny_mono ((ht i hi).run _ c₀ s₀ c' s₄ v F₄ g' iv₄) (fun _ s₅ ⟨_, c₅, F₅, g₅, r₅⟩ => ?_) fun _ _ x => x.elim
  rcases Nat.lt_or_ge i j with hij | hij
  · refine wpAny_mono ((hb i hij).run c₀ s₀ c₅ s₅ F₅ g₅) (fun fl s₆ ⟨e, c₆, F₆, g₆, r₆⟩ => ?_) fun _ _ x => x.elim
    subst e
    exact ⟨n - (i + 1), by omega, i + 1, c₆, rfl, hij, F₆, g₆, (Mv.rl r' mv hw).trans (r₅.trans r₆), T.step _ _ _ _ _ j₄ (r₅.trans r₆)⟩
  · have : i = j := by omega
    subst this
    refine wpAny_mono (hr.run c₀ s₀ c₅ s₅ F₅ g₅) (fun fl s₆ ⟨v, e, h₆⟩ => ?_) fun _ _ x => x.elim
    subst e
    exact ⟨v, rfl, h₆⟩

theorem Reps.rl {c c' : Wd} {s s' : Shared} (h : Rl c s c' s') : ∀ {vs ds}, Reps c vs ds → Reps c' vs ds
  | _, _, .nil => .nil
  | _, _, .cons r rs => .cons (h.rep _ _ r) (Reps.rl h rs)

/-- over a list -/
theorem Turns.list {x : Str} {p : Pos} {I l : Addr} {vs : List Value} {ds : List D} {k : Nat} (hh : A.handled = none) (hne : l ≠ I) :
    Turns X A (.Name x p) (.ref I) [I] ds.length (fun i => .one (ds.getD i .none)) (fun i c s => s.heap.IsListIter I l i ∧ c.f l = some (listO vs.toArray k) ∧ Reps c vs ds) where
  itrs := fun i c s ⟨⟨o, h, _, hd⟩, _⟩ b hb => by
    rw [List.mem_singleton.mp hb]; exact ⟨o, h, by unfold Itr; rw [hd]; trivial⟩
  step := fun i c s c' s' ⟨⟨o, h, hc, hd⟩, hl, r⟩ k => ⟨⟨o, k.itr _ _ h (by unfold Itr; rw [hd]; trivial), hc, hd⟩, k.f _ _ hl, r.rl k⟩
  self := fun i c s Q E K h hQ => wpAny_pyIter_listiter h.1 hQ
  next := fun i c s hi K ⟨hit, hl, r⟩ => by
    have hl' := (K.wd _ _ hl).1
    have hlen := r.length
    refine wpAny_pyNext_list_item hit (items := vs.toArray) ⟨_, hl', rfl, _, rfl⟩ (x := vs.toArray[i]'(by simp; omega)) (by simp) fun h' hit' hs' => ⟨_, rfl, ?_⟩
    refine wpAny_pure ⟨⟨⟨h', s.toks, rfl⟩, fun b o hb e => (hs'.2 b (by simpa using hb)).trans e⟩, ⟨hit', hl, r⟩, r.getD (by simp; omega)⟩
  done := fun c s K ⟨hit, hl, r⟩ => by
    have hl' := (K.wd _ _ hl).1
    have hlen := r.length
    exact wpAny_pyNext_list_end hh hit (items := vs.toArray) ⟨_, hl', rfl, _, rfl⟩ (by simp; omega) fun h' he' => ⟨rfl, ⟨h', s.toks, rfl⟩, fun b o hb e => he' b o (by simpa using hb) e⟩
theorem IT.list {x : Str} {p : Pos} {iter : Expr} {ds : List D} (hh : A.handled = none) (h : EV X A env G O σ iter (.list ds) σ₁) : IT X A env G O σ (.Name x p) iter ds.length (fun i => .one (ds.getD i .none)) σ₁ := .mk fun c₀ s₀ c s F hg =>
  wpAny_mono (h.run c₀ s₀ c s F hg) (fun v s₁ ⟨c₁, e₁, r₁, g₁⟩ => by
    obtain ⟨l, vs, n, rfl, q, rs⟩ := r₁.list_inv
    have hl := (e₁.ok.wd _ _ q).1
    refine wpAny_pyIter_list ⟨_, hl, rfl, _, rfl⟩ ?_
    have e₂ := Ext.same e₁.ok (Keeps.push' s₁ { cls := .type "list_iterator", data := .fields #[.ref l, .int 0 0] } s₁.toks)
    exact ⟨_, c₁, _, _, rfl, e₁.trans e₂, g₁, Turns.list (l := l) (vs := vs) (k := n) hh (Nat.ne_of_lt (Heap.lt_size hl)), ⟨⟨_, Heap.get?_push_size _ rfl, rfl, rfl⟩, q, rs⟩, fun b hb => by
      rw [List.mem_singleton.mp hb]; exact e₁.keeps.live _ (get_size_none _)⟩) fun _ _ x => x

/-- over numbers -/
theorem Turns.range {x : Str} {p : Pos} {I : Addr} {a st : Int} {n : Nat} (hh : A.handled = none) :
    Turns X A (.Name x p) (.ref I) [I] n (fun i => .one (.int (a + i * st))) (fun i c s => IsRangeIter s.heap I (a + (i : Nat) * st) ((n : Int) - (i : Nat)) st) where
  itrs := fun i c s h b hb => by
    rw [List.mem_singleton.mp hb]; exact ⟨_, h, trivial⟩
  step := fun i c s c' s' h k => k.itr _ _ h trivial
  self := fun i c s Q E K h hQ => wpAny_pyIter_rangeiter h hQ
  next := fun i c s hi K h => by
    refine wpAny_pyNext_range_item h (by omega) fun h' hit' hs' => ⟨_, rfl, ?_⟩
    refine wpAny_pure ⟨⟨⟨h', _, rfl⟩, fun b o hb e => (hs'.2 b (by simpa using hb)).trans e⟩, ?_, .int _ _⟩
    have e1 : a + (i : Int) * st + st = a + ((i + 1 : Nat) : Int) * st := by rw [Int.natCast_add, Int.add_mul]; simp; omega
    have e2 : (n : Int) - (i : Int) - 1 = (n : Int) - ((i + 1 : Nat) : Int) := by omega
    rw [e1, e2] at hit'; exact hit'
  done := fun c s K h => wpAny_pyNext_range_end hh h (by omega) fun h' he' => ⟨rfl, ⟨h', s.toks, rfl⟩, fun b o hb e => he' b o (by simpa using hb) e⟩

theorem range_core {x : Str} {p : Pos} {c₀ c : Wd} {s₀ s s₁ : Shared} {r : Addr} {a b st : Int} {t u v : Tok} {n : Nat} (hh : A.handled = none) (e₁ : Ext X c s c s₁) (hr : IsRange s₁.heap r a b st t u v) (hsm : Builtin.Range.small a b st = true) (hn : Builtin.Range.rangeSize a b st = n) (hg : c.g = σ) :
    wpAny (model X.prog X.w) A (pyIter (.ref r)) (fun it s₂ => ∃ I c' wr J, it = .ref I ∧ Ext X c s c' s₂ ∧ c'.g = σ ∧ Turns X A (.Name x p) it wr n (fun i => .one (.int (a + i * st))) J ∧ J 0 c' s₂ ∧ ∀ b ∈ wr, s.heap.get? b = none) (fun _ _ => False) s₁ := by
  refine wpAny_pyIter_range hr hsm ?_
  have e₂ := Ext.same e₁.ok (Keeps.push' s₁ { cls := .type "range_iterator", data := .fields #[rawInt a, rawInt (Builtin.Range.rangeSize a b st), rawInt st] } s₁.toks)
  refine ⟨_, c, _, _, rfl, e₁.trans e₂, hg, Turns.range (a := a) (st := st) hh, ?_, fun b hb => by rw [List.mem_singleton.mp hb]; exact e₁.keeps.live _ (get_size_none _)⟩
  have := Heap.get?_push_size s₁.heap (o := { cls := .type "range_iterator", data := .fields #[rawInt a, rawInt (Builtin.Range.rangeSize a b st), rawInt st] }) rfl
  rw [hn] at this
  simpa [hn] using this
theorem IT.range1 {x f : Str} {p q pos : Pos} {e : Expr} {b : Int} (Y : X.Good) (hh : A.handled = none) (hk : env.kindOf f = some .globalImplicit) (hs : EV X A env G O σ e (.int b) σ₁) (hb : -(2 ^ 60) ≤ b) (hb' : b ≤ 2 ^ 60)
    (hf : X.mg f = none) (hv : bootBuiltins f = some (.type "range")) (hn : f ≠ "__name__")
    (he : starEach [e] env = (false, eval e env) :: starEach [] env := by rfl) (hd : (f == ("__debug__" : Str)) = false := by decide) :
    IT X A env G O σ (.Name x p) (.Call (.Name f q) [e] [] pos) b.toNat (fun i => .one (.int i)) σ₁ := .mk fun c₀ s₀ c s F hg => by
  refine Call_ (builtinName Y F hk hf hv hn ?_ hd)
  refine PyProof.Rows.callWith_type1 (args_cons (wpAny_mono (hs.run c₀ s₀ c s F hg) (fun v s₁ ⟨c₁, e₁, r₁, g₁⟩ => args_nil ?_) fun _ _ x => x) he) he
  obtain ⟨t, rfl⟩ := r₁.int_inv
  refine call_range_1 ?_
  have e₂ := Ext.same e₁.ok (Keeps.push' s₁ { cls := .type "range", data := .fields #[.int 0 s₁.toks, .int b t, .int 1 (s₁.toks + 1)] } (s₁.toks + 1 + 1))
  refine wpAny_mono (range_core (x := x) (p := p) (n := b.toNat) (c₀ := c₀) (s₀ := s₀) hh e₂ (IsRange.new ..) (small_one (by omega) (by omega) (by omega) (by omega)) (by rw [rangeSize_one]; split <;> omega) g₁) (fun it s₂ h => ?_) fun _ _ x => x
  obtain ⟨I, c', wr, J, h1, h2, h3, h4, h5, h6⟩ := h
  refine ⟨I, c', wr, J, h1, e₁.trans h2, h3, ?_, h5, fun b hb => e₁.keeps.live _ (h6 b hb)⟩
  simpa using h4
theorem IT.range2 {x f : Str} {p q pos : Pos} {e e' : Expr} {a b : Int} (Y : X.Good) (hh : A.handled = none) (hk : env.kindOf f = some .globalImplicit) (hs : EV X A env G O σ e (.int a) σ₁) (hs' : EV X A env G O σ₁ e' (.int b) σ₂)
    (ha : -(2 ^ 60) ≤ a) (ha' : a ≤ 2 ^ 60) (hb : -(2 ^ 60) ≤ b) (hb' : b ≤ 2 ^ 60)
    (hf : X.mg f = none) (hv : bootBuiltins f = some (.type "range")) (hn : f ≠ "__name__")
    (he : starEach [e, e'] env = (false, eval e env) :: starEach [e'] env := by rfl) (he' : starEach [e'] env = (false, eval e' env) :: starEach [] env := by rfl) (hd : (f == ("__debug__" : Str)) = false := by decide) :
    IT X A env G O σ (.Name x p) (.Call (.Name f q) [e, e'] [] pos) (b - a).toNat (fun i => .one (.int (a + i))) σ₂ := .mk fun c₀ s₀ c s F hg => by
  refine Call_ (builtinName Y F hk hf hv hn ?_ hd)
  refine PyProof.Rows.callWith_type1 (args_cons (wpAny_mono (hs.run c₀ s₀ c s F hg) (fun v s₁ ⟨c₁, e₁, r₁, g₁⟩ => args_cons (wpAny_mono (hs'.run c₀ s₀ c₁ s₁ (F.step e₁) g₁) (fun v s₂ ⟨c₂, e₂, r₂, g₂⟩ => args_nil ?_) fun _ _ x => x) he') fun _ _ x => x) he) he (by rw [he']; rfl)
  obtain ⟨t, rfl⟩ := r₁.int_inv
  obtain ⟨u, rfl⟩ := r₂.int_inv
  refine call_range_2 ?_
  have e₃ := Ext.same e₂.ok (Keeps.push' s₂ { cls := .type "range", data := .fields #[.int a t, .int b u, .int 1 s₂.toks] } (s₂.toks + 1))
  refine wpAny_mono (range_core (x := x) (p := p) (n := (b - a).toNat) (c₀ := c₀) (s₀ := s₀) hh e₃ (IsRange.new ..) (small_one (by omega) (by omega) (by omega) (by omega)) (by rw [rangeSize_one]; split <;> omega) g₂) (fun it s₂ h => ?_) fun _ _ x => x
  obtain ⟨I, c', wr, J, h1, h2, h3, h4, h5, h6⟩ := h
  refine ⟨I, c', wr, J, h1, (e₁.trans e₂).trans h2, h3, ?_, h5, fun b hb => e₁.keeps.live _ (e₂.keeps.live _ (h6 b hb))⟩
  simpa using h4
/-- downwards -/
theorem IT.range3 {x f : Str} {p q pos : Pos} {e e' e'' : Expr} {a b : Int} (Y : X.Good) (hh : A.handled = none) (hk : env.kindOf f = some .globalImplicit) (hs : EV X A env G O σ e (.int a) σ₁) (hs' : EV X A env G O σ₁ e' (.int b) σ₂) (hs'' : EV X A env G O σ₂ e'' (.int (-1)) σ₃)
    (ha : -(2 ^ 60) ≤ a) (ha' : a ≤ 2 ^ 60) (hb : -(2 ^ 60) ≤ b) (hb' : b ≤ 2 ^ 60)
    (hf : X.mg f = none) (hv : bootBuiltins f = some (.type "range")) (hn : f ≠ "__name__")
    (he : starEach [e, e', e''] env = (false, eval e env) :: starEach [e', e''] env := by rfl) (he' : starEach [e', e''] env = (false, eval e' env) :: starEach [e''] env := by rfl) (he'' : starEach [e''] env = (false, eval e'' env) :: starEach [] env := by rfl)
    (hd : (f == ("__debug__" : Str)) = false := by decide) :
    IT X A env G O σ (.Name x p) (.Call (.Name f q) [e, e', e''] [] pos) (a - b).toNat (fun i => .one (.int (a - i))) σ₃ := .mk fun c₀ s₀ c s F hg => by
  refine Call_ (builtinName Y F hk hf hv hn ?_ hd)
  refine PyProof.Rows.callWith_type1 (args_cons (wpAny_mono (hs.run c₀ s₀ c s F hg) (fun v s₁ ⟨c₁, e₁, r₁, g₁⟩ => args_cons (wpAny_mono (hs'.run c₀ s₀ c₁ s₁ (F.step e₁) g₁) (fun v s₂ ⟨c₂, e₂, r₂, g₂⟩ =>
    args_cons (wpAny_mono (hs''.run c₀ s₀ c₂ s₂ ((F.step e₁).step e₂) g₂) (fun v s₃ ⟨c₃, e₃, r₃, g₃⟩ => args_nil ?_) fun _ _ x => x) he'') fun _ _ x => x) he') fun _ _ x => x) he) he (by rw [he', he'']; rfl)
  obtain ⟨t, rfl⟩ := r₁.int_inv
  obtain ⟨u, rfl⟩ := r₂.int_inv
  obtain ⟨w, rfl⟩ := r₃.int_inv
  refine call_range_3 (by decide) ?_ (Or.inl (PyProof.noPylong_small (by decide)))
  have e₄ := Ext.same e₃.ok (Keeps.push' s₃ { cls := .type "range", data := .fields #[.int a t, .int b u, .int (-1) w] } s₃.toks)
  have hsz : Builtin.Range.rangeSize a b (-1) = (((a - b).toNat : Nat) : Int) := by
    unfold Builtin.Range.rangeSize
    rw [if_neg (by decide)]
    split
    · rw [show -(-1 : Int) = 1 by decide, Int.ediv_one]; omega
    · omega
  refine wpAny_mono (range_core (x := x) (p := p) (n := (a - b).toNat) (c₀ := c₀) (s₀ := s₀) hh e₄ (IsRange.new ..) ?_ hsz g₃) (fun it s₂ h => ?_) fun _ _ x => x
  · unfold Builtin.Range.small
    rw [hsz]
    simp only [Builtin.Range.rangeFitsLong, Bool.and_eq_true, Bool.or_eq_true, decide_eq_true_eq, beq_iff_eq, show ¬ (-1 : Int) > 0 by decide, if_false]
    refine ⟨⟨⟨⟨?_, ?_⟩, ?_⟩, ?_⟩, .inr ?_⟩ <;> first | omega | (constructor <;> omega)
  obtain ⟨I, c', wr, J, h1, h2, h3, h4, h5, h6⟩ := h
  refine ⟨I, c', wr, J, h1, ((e₁.trans e₂).trans e₃).trans h2, h3, ?_, h5, fun b hb => e₁.keeps.live _ (e₂.keeps.live _ (e₃.keeps.live _ (h6 b hb)))⟩
  have e : (fun i : Nat => ID.one (.int (a + (i : Int) * -1))) = fun i : Nat => ID.one (.int (a - (i : Int))) := by funext i; congr 2; omega
  rw [e] at h4; exact h4

/-- over a list, with numbers -/
theorem Turns.enum {elts : List Expr} {kk : Nat} {pp : Pos} {e it l : Addr} {vs : List Value} {ds : List D} {k : Nat} (hh : A.handled = none) (hei : e ≠ it) (hle : l ≠ e) (hli : l ≠ it) :
    Turns X A (.Tuple elts kk pp) (.ref e) [e, it] ds.length (fun i => .pair i (ds.getD i .none)) (fun i c s => (∃ old, IsEnum s.heap e it i old) ∧ s.heap.IsListIter it l i ∧ c.f l = some (listO vs.toArray k) ∧ Reps c vs ds) where
  itrs := fun i c s ⟨⟨old, he⟩, ⟨o, h, _, hd⟩, _⟩ b hb => by
    rcases List.mem_cons.mp hb with rfl | hb
    · exact ⟨_, he, trivial⟩
    · rw [List.mem_singleton.mp hb]; exact ⟨o, h, by unfold Itr; rw [hd]; trivial⟩
  step := fun i c s c' s' ⟨⟨old, he⟩, ⟨o, h, hc, hd⟩, hl, r⟩ k => ⟨⟨old, k.itr _ _ he trivial⟩, ⟨o, k.itr _ _ h (by unfold Itr; rw [hd]; trivial), hc, hd⟩, k.f _ _ hl, r.rl k⟩
  self := fun i c s Q E K h hQ => let ⟨old, he⟩ := h.1; wpAny_pyIter_enum he hQ
  next := fun i c s hi K ⟨⟨old, he⟩, hit, hl, r⟩ => by
    have hl' := (K.wd _ _ hl).1
    have hlen := r.length
    have W := WalksT.enumerate (prog := X.prog) (w := X.w) (A := A) hh e it l hei hle hli vs.toArray
    refine W.item i s _ _ (by simp; omega) ⟨⟨old, he⟩, hit, ⟨_, hl', rfl, _, rfl⟩⟩ fun T vals h' tk hP hT hIT hM hk => ⟨_, rfl, ?_⟩
    obtain ⟨t, x, hx, rfl⟩ := hP
    refine W.go elts kk pp i T { s with heap := h', toks := tk } _ _ hM fun h'' hst hk' => ⟨⟨⟨h'', tk, rfl⟩, fun b o hb e => hk' b o hb (hk b o hb e)⟩, ⟨hst.1, hst.2.1, hl, r⟩, T, t, x, rfl, ?_, ?_⟩
    · obtain ⟨o, h1, h2⟩ := hIT
      exact ⟨o, hk' T o (W.apart _ _ _ hM) h1, h2⟩
    · have := r.getD (j := i) (by simp; omega)
      have e' : vs.toArray[i]'(by simp; omega) = x := by
        have h1 := hx
        rw [Array.getElem?_eq_getElem (by simp; omega)] at h1
        exact Option.some.inj h1
      rw [e'] at this; exact this
  done := fun c s K ⟨⟨old, he⟩, hit, hl, r⟩ => by
    have hl' := (K.wd _ _ hl).1
    have hlen := r.length
    have W := WalksT.enumerate (prog := X.prog) (w := X.w) (A := A) hh e it l hei hle hli vs.toArray
    have hsz : vs.toArray.size = ds.length := by simp; omega
    exact W.done s _ _ (by rw [hsz]; exact ⟨⟨old, he⟩, hit, ⟨_, hl', rfl, _, rfl⟩⟩) fun h' tk hk => ⟨rfl, ⟨h', tk, rfl⟩, hk⟩
theorem IT.enum {f : Str} {elts : List Expr} {kk : Nat} {pp q pos : Pos} {e : Expr} {ds : List D} (Y : X.Good) (hh : A.handled = none) (hk : env.kindOf f = some .globalImplicit) (hs : EV X A env G O σ e (.list ds) σ₁)
    (hf : X.mg f = none) (hv : bootBuiltins f = some (.type "enumerate")) (hn : f ≠ "__name__")
    (he : starEach [e] env = (false, eval e env) :: starEach [] env := by rfl) (hd : (f == ("__debug__" : Str)) = false := by decide) :
    IT X A env G O σ (.Tuple elts kk pp) (.Call (.Name f q) [e] [] pos) ds.length (fun i => .pair i (ds.getD i .none)) σ₁ := .mk fun c₀ s₀ c s F hg => by
  refine Call_ (builtinName Y F hk hf hv hn ?_ hd)
  refine PyProof.Rows.callWith_type1 (args_cons (wpAny_mono (hs.run c₀ s₀ c s F hg) (fun v s₁ ⟨c₁, e₁, r₁, g₁⟩ => args_nil ?_) fun _ _ x => x) he) he
  obtain ⟨l, vs, n, rfl, q, rs⟩ := r₁.list_inv
  have hl := (e₁.ok.wd _ _ q).1
  have hlt := Heap.lt_size hl
  refine call_enumerate_1 hl fun h' hE hI hsz hkeep => ?_
  refine wpAny_pyIter_enum hE ?_
  have e₂ := Ext.same (s' := { s₁ with heap := h' }) e₁.ok ⟨h', s₁.toks, rfl, hkeep⟩
  refine ⟨_, c₁, _, _, rfl, e₁.trans e₂, g₁, Turns.enum (e := s₁.heap.objs.size + 1) (l := l) (it := s₁.heap.objs.size) (vs := vs) (k := n) hh (Nat.succ_ne_self _) (Nat.ne_of_lt (Nat.lt_succ_of_lt hlt)) (Nat.ne_of_lt hlt), ⟨⟨_, hE⟩, hI, q, rs⟩, fun b hb => ?_⟩
  refine e₁.keeps.live _ (Heap.get?_none_of_le ?_)
  rcases List.mem_cons.mp hb with rfl | hb
  · omega
  · rw [List.mem_singleton.mp hb]; exact Nat.le_refl _
end

/-! text Fw9 -/
section
open PySem.Calls PySem.SeqAt

variable {X : Sys} {A : Around} {env : Env} {G : Gam} {O : Oms} {σ σ₁ σ₂ σ₃ σ₄ : Gh}

/-- the comprehension's loop, whatever its target -/
theorem compLoop_any {prog : Program} {w : World} {A : Around} {R : Result → Shared → Prop} {s : Shared} {elt target iter : Expr} {ifs : List Expr} {scope : Scope} {pos : Pos} {it acc : Value} {env : Env} (I : Nat → Shared → Prop)
    (turn : ∀ n s, I n s → wpAny (model prog w) A (pyNext it) (fun r s₁ => match r with
      | none => R (.ok .next) s₁
      | some v => wpAny (model prog w) A (letOwnedTupleGo target it v) (fun _ s₁' => wpAny (model prog w) A (PySem.assign target env v) (fun _ s₂ =>
          wpAny (model prog w) A (forIn ifs true fun c r => if r = true then do let ok ← isTrue c env (eval c env); pure (ForInStep.yield ok) else pure (ForInStep.yield r)) (fun ok s₃ =>
            if ok = true then wpAny (model prog w) A (eval elt env) (fun x s₄ =>
              wpAny (model prog w) A (call (.builtin "list.append") [acc, x]) (fun _ s₅ => ∃ m, m < n ∧ I m s₅) (fun _ _ => False) s₄) (fun _ _ => False) s₃
            else ∃ m, m < n ∧ I m s₃) (fun _ _ => False) s₂) (fun _ _ => False) s₁') (fun _ _ => False) s₁) (fun _ _ => False) s)
    (n : Nat) (h : I n s) :
    codeAny (model prog w) A (.compLoop (.ListComp elt [⟨target, iter, ifs, 0⟩] scope pos) 0 it acc env) R s := by
  refine codeAny_loop rfl I (fun n s hI => ?_) n h
  show wpAny _ A ((compTurn (.ListComp elt [⟨target, iter, ifs, 0⟩] scope pos) 0 it acc env).onRaise (fun x => do noteFrame x env; theTreesLotGoes x)) _ _ s
  refine wpAny_noted ?_
  rw [compTurn_list]
  refine wpAny_bind (wpAny_standAt (wpAny_bind (wpAny_mono (turn n s hI) (fun r s₁ h₁ => ?_) fun _ _ h' => h'.elim)))
  cases r with
  | none => exact wpAny_pure h₁
  | some v =>
    refine wpAny_bind (wpAny_mono h₁ (fun _ s₁' h₁' => ?_) fun _ _ h' => h'.elim)
    refine wpAny_bind (wpAny_mono h₁' (fun _ s₂ h₂ => wpAny_bind (wpAny_mono h₂ (fun ok s₃ h₃ => ?_) fun _ _ h' => h'.elim)) fun _ _ h' => h'.elim)
    cases ok with
    | false => exact wpAny_pure ⟨rfl, h₃⟩
    | true =>
      exact wpAny_bind (wpAny_bind (wpAny_mono h₃ (fun x s₄ h₄ => wpAny_bind (wpAny_mono h₄ (fun _ s₅ h₅ => wpAny_pure (wpAny_pure ⟨rfl, h₅⟩)) fun _ _ h' => h'.elim)) fun _ _ h' => h'.elim))

noncomputable def clGo (env : Env) : List (Str × NameKind) → List (Str × Addr) → List (Str × Addr)
  | [], acc => acc
  | (n, k) :: r, acc => if k == .free then clGo env r ((n, (env.cells.lookup n).getD 0) :: acc) else clGo env r acc
noncomputable def clOf (scope : Scope) (env : Env) : List (Str × Addr) := clGo env scope.names []
theorem closure_go {env : Env} : ∀ (l : List (Str × NameKind)) (acc : List (Str × Addr)), (∀ p ∈ l, p.2 = .free → (env.cells.lookup p.1).isSome = true) →
    (forIn l acc (fun (p : Str × NameKind) (cs : List (Str × Addr)) => if (p.2 == NameKind.free) = true then (do let a ← cellOf env p.1; pure (ForInStep.yield ((p.1, a) :: cs))) else (pure (ForInStep.yield cs) : Sem _))) = pure (clGo env l acc)
  | [], acc, _ => rfl
  | (n, k) :: r, acc, h => by
    rw [List.forIn_cons]
    have ih := fun acc => closure_go r acc (fun p hp => h p (List.mem_cons_of_mem _ hp))
    by_cases hk : (k == NameKind.free) = true
    · have hs := h (n, k) (List.mem_cons_self ..) (by simpa using hk)
      obtain ⟨a, ha⟩ := Option.isSome_iff_exists.mp hs
      simp only [clGo, hk, if_true]
      simp only at ha
      have hc : cellOf env n = pure a := by simp [cellOf, ha]
      rw [hc, ha]
      exact ih _
    · simp only [clGo, hk]
      exact ih _
theorem closure_of {scope : Scope} {env : Env} (h : ∀ p ∈ scope.names, p.2 = .free → (env.cells.lookup p.1).isSome = true) : closureFor scope env = pure (clOf scope env) := by
  have := closure_go (env := env) scope.names [] h
  unfold closureFor
  show (forIn scope.names [] _ >>= fun r => pure r) = _
  refine Eq.trans ?_ (congrArg (· >>= fun r => pure r) this)
  rfl
theorem clGo_lookup {env : Env} (h : ∀ (p : Str × NameKind), p.2 = .free → True) : ∀ (l : List (Str × NameKind)) (acc : List (Str × Addr)), (∀ p ∈ l, p.2 = .free → (env.cells.lookup p.1).isSome = true) → (∀ x a, acc.lookup x = some a → env.cells.lookup x = some a) →
    ∀ x a, (clGo env l acc).lookup x = some a → env.cells.lookup x = some a
  | [], acc, _, ha => ha
  | (n, k) :: r, acc, hl, ha => by
    unfold clGo
    split
    · rename_i hk
      refine clGo_lookup h r _ (fun p hp => hl p (List.mem_cons_of_mem _ hp)) fun x a hx => ?_
      have hs := hl (n, k) (List.mem_cons_self ..) (by simpa using hk)
      obtain ⟨b, hb⟩ := Option.isSome_iff_exists.mp hs
      simp only at hb
      rw [List.lookup_cons, beq_str] at hx
      by_cases q : x = n
      · subst q; simp [hb] at hx; rw [hb, hx]
      · simp [q] at hx; exact ha x a hx
    · exact clGo_lookup h r _ (fun p hp => hl p (List.mem_cons_of_mem _ hp)) ha
theorem clOf_lookup {scope : Scope} {env : Env} (h : ∀ p ∈ scope.names, p.2 = .free → (env.cells.lookup p.1).isSome = true) : ∀ x a, (clOf scope env).lookup x = some a → env.cells.lookup x = some a :=
  clGo_lookup (fun _ _ => trivial) scope.names [] h (fun x a e => by simp at e)

noncomputable abbrev ienv (scope : Scope) (env : Env) (C : Addr) : Env := compEnvC scope (clOf scope env) C env

/-- the tests of a turn -/
structure TF (X : Sys) (A : Around) (env : Env) (G : Gam) (O : Oms) (σ : Gh) (ifs : List Expr) (b : Bool) : Prop where
  run : ∀ c₀ s₀ c s, FS X c₀ s₀ env G O c s → c.g = σ → wpAny (model X.prog X.w) A (forIn ifs true fun c r => if r = true then do let ok ← isTrue c env (eval c env); pure (ForInStep.yield ok) else pure (ForInStep.yield r))
    (fun v s' => v = b ∧ ∃ c', Ext X c s c' s' ∧ c'.g = σ) (fun _ _ => False) s
theorem TF.nil : TF X A env G O σ [] true := .mk fun c₀ s₀ c s F hg => wpAny_tests_nil ⟨rfl, c, .refl F.ok, hg⟩
theorem TF.one {t : Expr} {b : Bool} (h : TV X A env G O σ t b) : TF X A env G O σ [t] b := .mk fun c₀ s₀ c s F hg => wpAny_tests_one (h.run c₀ s₀ c s F hg)

theorem filter_range_succ (q : Nat → Bool) (d : Nat → D) (i : Nat) : ((List.range (i + 1)).filter q).map d = ((List.range i).filter q).map d ++ (if q i then [d i] else []) := by
  rw [List.range_succ, List.filter_append, List.map_append]
  cases h : q i <;> simp [h]
theorem bindAll_O : ∀ (bds : List (Str × Bd)) (S : St) (x : Str), (∀ p ∈ bds, p.1 ≠ x) → (S.bindAll bds).O.lookup x = S.O.lookup x
  | [], S, x, _ => rfl
  | (y, b) :: r, S, x, hb => by
    rw [St.bindAll, bindAll_O r _ x (fun p hp => hb p (List.mem_cons_of_mem _ hp))]
    have : x ≠ y := fun e => hb _ (List.mem_cons_self ..) e.symm
    cases b <;> simp [St.bind, Oset_lookup, Odel_lookup, this]
theorem bindAll_G : ∀ (bds : List (Str × Bd)) (S : St) (x : Str), (∀ p ∈ bds, p.1 ≠ x) → (S.bindAll bds).G.lookup x = S.G.lookup x
  | [], S, x, _ => rfl
  | (y, b) :: r, S, x, hb => by
    rw [St.bindAll, bindAll_G r _ x (fun p hp => hb p (List.mem_cons_of_mem _ hp))]
    have : x ≠ y := fun e => hb _ (List.mem_cons_self ..) e.symm
    cases b <;> simp [St.bind, Gset_lookup, Gdel_lookup, this]
theorem bindAll_GG : ∀ (bds : List (Str × Bd)) (S T : St), S.G = T.G → (S.bindAll bds).G = (T.bindAll bds).G
  | [], S, T, h => h
  | (y, b) :: r, S, T, h => bindAll_GG r _ _ (St.bind_G h)
theorem bindAll_σ : ∀ (bds : List (Str × Bd)) (S : St), (S.bindAll bds).σ = S.σ
  | [], S => rfl
  | (y, b) :: r, S => by rw [St.bindAll, bindAll_σ r]; exact St.bind_σ

/-- a captured name -/
noncomputable def Cap (env : Env) (ie : Env) (x : Str) : Prop := (env.kindOf x = some .cell ∨ (env.kindOf x = some .free ∧ (x == ("__classdict__" : Str)) = false)) ∧ (ie.kindOf x = some .cell ∨ (ie.kindOf x = some .free ∧ (x == ("__classdict__" : Str)) = false)) ∧ ie.cells.lookup x = env.cells.lookup x

theorem EF.comp {G' : Gam} {elt target iter : Expr} {ifs : List Expr} {scope : Scope} {pos : Pos} {n : Nat} {iv : Nat → ID} {bds : Nat → List (Str × Bd)} {σs : Nat → Gh} {q : Nat → Bool} {d : Nat → D}
    (hi : IT X A env G O σ target iter n iv (σs 0)) (hn : n ≤ 100000)
    (hfree : ∀ p ∈ scope.names, p.2 = .free → (env.cells.lookup p.1).isSome = true) (hcell : ∀ y ∈ scope.names, y.2 ≠ .cell) (hkind : scope.kind = .function)
    (hnames : ∀ y ∈ scope.names, y.2 = .local → scope.names.lookup y.1 = some .local)
    (hcap : ∀ C x e, G'.lookup x = some e → G.lookup x = some e ∧ Cap env (ienv scope env C) x)
    (hbd : ∀ i, i < n → ∀ p ∈ bds i, p.1 ≠ hid ∧ G'.lookup p.1 = none)
    (ht : ∀ C i, i < n → Tg X A (ienv scope env C) target (iv i) (bds i))
    (htest : ∀ C O i, i < n → TF X A (ienv scope env C) (St.bindAll ⟨G', [], σs i⟩ (bds i)).G O (σs i) ifs (q i))
    (helt : ∀ C O i, i < n → q i = true → EV X A (ienv scope env C) (St.bindAll ⟨G', [], σs i⟩ (bds i)).G O (σs i) elt (d i) (σs (i + 1)))
    (hno : ∀ i, i < n → q i = false → σs (i + 1) = σs i)
    (hs : ∀ x, foldedSetIterable iter env x = pure x := by intro _; rfl) :
    EF X A env G O σ (.ListComp elt [⟨target, iter, ifs, 0⟩] scope pos) (((List.range n).filter q).map d) (σs n) := .mk fun c₀ s₀ c s F hg => by
  rw [eval_ListComp]
  refine wpAny_comprehension_free (use := none) rfl hs (closure_of hfree) hkind hnames (wpAny_mono (hi.run c₀ s₀ c s F hg) (fun xv s₁ h₁ => wpAny_mono h₁ (fun it s₂ h₂ => ?_) fun _ _ e => e) fun _ _ e => e)
  obtain ⟨I, c₂, wr, J, rfl, e₂, g₂, T, j₂, hw⟩ := h₂
  refine wpAny_newObj_type (wpAny_newFunctionEnv hcell (by intro y hy; simp at hy) (fun h₁ hns₁ hsb₁ => ?_) hkind)
  dsimp only at hns₁ hsb₁ ⊢
  generalize hH2 : s₂.heap.push { cls := .type "list", dict := none, data := .seq ([] : List Value).toArray } = H2 at hns₁ hsb₁ ⊢
  have hC : H2.objs.size = s₂.heap.objs.size + 1 := by rw [← hH2, Heap.size_push]
  have hDC : s₂.heap.objs.size ≠ H2.objs.size := by rw [hC]; exact Nat.ne_of_lt (Nat.lt_succ_self _)
  have old : ∀ b o, s₂.heap.get? b = some o → h₁.get? b = some o := fun b o e => hsb₁.extBut b o (Nat.ne_of_lt (Nat.lt_trans (Heap.lt_size e) (by rw [hC]; exact Nat.lt_succ_self _))) (Heap.get?_push_of_some _ (hH2 ▸ Heap.get?_push_of_some _ e))
  have hD : h₁.get? s₂.heap.objs.size = some (listO ([] : List Value).toArray 0) := hsb₁.extBut _ _ hDC (Heap.get?_push_of_some _ (hH2 ▸ Heap.get?_push_size _ rfl))
  have fresh2 : ∀ a, s₂.heap.objs.size ≤ a → s₂.heap.get? a = none := fun a ha => Heap.get?_none_of_le ha
  have fresh : ∀ a, s₂.heap.objs.size ≤ a → s.heap.get? a = none := fun a ha => e₂.keeps.live a (fresh2 a ha)
  have k₃ : Keeps s₂ { s₂ with heap := h₁, toks := s₂.toks + ([] : List (Str × Value)).length } := ⟨h₁, _, rfl, old⟩
  generalize hs3 : ({ s₂ with heap := h₁, toks := s₂.toks + ([] : List (Str × Value)).length } : Shared) = s₃ at k₃ ⊢
  have e₃ := Ext.same e₂.ok k₃
  have hh₁ : s₃.heap = h₁ := by rw [← hs3]
  rw [← hh₁] at hD hns₁
  have FO := F.step (e₂.trans e₃)
  obtain ⟨mO, olO, BO⟩ := FO.body
  -- the frame of the comprehension, above the state at its start
  have hCz : (ienv scope env H2.objs.size).locals = s₂.heap.objs.size + 1 := hC
  have FI : FS X c s (ienv scope env H2.objs.size) G' [(hid, [])] c₂ s₃ := by
    refine ⟨e₂.trans e₃, hkind, F.glo, F.blt, F.ok.base, fresh _ (by show s₂.heap.objs.size ≤ H2.objs.size; omega), fun x a h => ⟨fun hf => (hf rfl).elim, ?_⟩, fun x y a hx hy => F.cellsApart x y a (clOf_lookup hfree _ _ hx) (clOf_lookup hfree _ _ hy),
      _, fun _ => s₂.heap.objs.size, hns₁, fun x e h => ?_, fun y es h => ?_, fun y es y' es' h h' _ => ?_⟩
    · exact (FO.cells x a (clOf_lookup hfree _ _ h)).2
    · obtain ⟨hG, k1, k2, k3⟩ := hcap H2.objs.size x e h
      obtain ⟨v, l, r⟩ := BO.names x e hG
      refine ⟨v, .inr ⟨k2, ?_⟩, r⟩
      rcases l with ⟨k, _⟩ | ⟨_, a, ea, n⟩
      · rcases k1 with k1 | ⟨k1, _⟩ <;> rw [k] at k1 <;> cases k1
      · exact ⟨a, k3.trans ea, n⟩
    · rw [List.lookup_cons, beq_str] at h
      by_cases z : y = hid
      · simp [z] at h; subst h
        exact ⟨.inl ⟨z, hCz.symm⟩, e₂.ok.fnone (fresh2 _ (Nat.le_refl _)), e₂.ok.nhole (fresh2 _ (Nat.le_refl _)), fresh _ (Nat.le_refl _), [], 0, hD, .nil⟩
      · simp [z] at h
    · rw [List.lookup_cons, beq_str] at h h'
      by_cases z : y = hid
      · by_cases z' : y' = hid
        · rw [z, z']
        · simp [z'] at h'
      · simp [z] at h
  have j₃ : J 0 c₂ s₃ := T.step _ _ _ _ _ j₂ (e₃.rl e₂.ok)
  have fin : ∀ s' , (∃ c', FS X c s (ienv scope env H2.objs.size) G' [(hid, ((List.range n).filter q).map d)] c' s' ∧ c'.g = σs n) →
      ∃ m, s'.heap.Ns H2.objs.size m ∧ ∀ h', Heap.SameBut H2.objs.size s'.heap h' → ∃ c', Fresh X c s (((List.range n).filter q).map d) (.ref s₂.heap.objs.size) c' { s' with heap := h' } ∧ c'.g = σs n := by
    rintro s' ⟨c', F', g'⟩
    obtain ⟨m', ol', B'⟩ := F'.body
    obtain ⟨hat, hcf, hnh, hnew, hat'⟩ := B'.own hid _ rfl
    have hol : ol' hid = s₂.heap.objs.size := by
      rcases hat with ⟨_, z⟩ | ⟨z, _⟩
      · rw [hCz] at z; exact Nat.succ.inj z
      · exact (z rfl).elim
    rw [hol] at hcf hnh hnew hat'
    refine ⟨m', B'.ns, fun h' hs' => ⟨c', ⟨_, rfl, hnew, ?_, hcf, ?_⟩, g'⟩⟩
    · have K := F'.ok
      have keep : ∀ b o, b ≠ H2.objs.size → s'.heap.get? b = some o → h'.get? b = some o := fun b o q e => (hs'.2 b q).trans e
      have nseq : ∀ b o, s'.heap.get? b = some o → (∃ xs n, o.data = .seq xs n) → h'.get? b = some o := fun b o e ⟨xs, k, hd⟩ => keep b o (fun z => by
        obtain ⟨o', es, ep, h1, h2, _⟩ := B'.ns
        rw [show (ienv scope env H2.objs.size).locals = H2.objs.size from rfl, ← z, e] at h1; cases h1; rw [hd] at h2; cases h2) e
      refine ⟨?_, F'.ext.le, F'.ext.fresh, fun b o e => keep b o (fun z => ?_) (K.base b o e), K.c0, fun b o e => ⟨nseq b o (K.wd b o e).1 (K.wd b o e).2, (K.wd b o e).2⟩, fun a v e => ?_, fun a rs e => ?_, K.apart, K.hb, K.m0⟩
      · obtain ⟨⟨h2, t2, e2⟩, a2, l2⟩ := F'.ext.keeps
        refine ⟨⟨h', t2, by rw [e2]⟩, fun b o nh e => keep b o (fun z => ?_) (a2 b o nh e), fun b e => ?_⟩
        · rw [z, fresh H2.objs.size (by omega)] at e; cases e
        · by_cases z : b = H2.objs.size
          · rw [z]; exact fresh H2.objs.size (by omega)
          · exact l2 b (by rw [← hs'.2 b z]; exact e)
      · have := F.ok.base b o e; rw [z, fresh H2.objs.size (by omega)] at this; cases this
      · obtain ⟨p, q, t, k, z⟩ := K.pool a v e
        exact ⟨p, q, t, k, nseq _ _ z ⟨_, _, rfl⟩⟩
      · obtain ⟨p, ⟨k, q⟩, t, u, v, z⟩ := K.mat a rs e
        exact ⟨p, ⟨k, nseq _ _ q ⟨_, _, rfl⟩⟩, t, u, v, z.keeps fun b hb o e => by obtain ⟨vs, k', z'⟩ := z.get b hb; rw [z'] at e; cases e; exact nseq _ _ z' ⟨_, _, rfl⟩⟩
    · obtain ⟨vs, k, z, r⟩ := hat'
      exact ⟨vs, k, (hs'.2 _ hDC).trans z, r⟩
  have loop : ∀ j₃ : J 0 c₂ s₃, codeAny (model X.prog X.w) A (.compLoop (.ListComp elt [⟨target, iter, ifs, 0⟩] scope pos) 0 (.ref I) (.ref s₂.heap.objs.size) (ienv scope env H2.objs.size))
      (compPost (model X.prog X.w) A (fun _ _ => False) none (fun v s' => ∃ c', Fresh X c s (((List.range n).filter q).map d) v c' s' ∧ c'.g = σs n) (.ref s₂.heap.objs.size) H2.objs.size) s₃ := by
    intro j₃
    refine compLoop_any (fun k s' => ∃ i c', k = n - i ∧ i ≤ n ∧ FS X c s (ienv scope env H2.objs.size) G' [(hid, ((List.range i).filter q).map d)] c' s' ∧ c'.g = σs i ∧ J i c' s') ?_ n
      ⟨0, c₂, rfl, Nat.zero_le _, by simpa using FI, g₂, j₃⟩
    rintro k s' ⟨i, c', rfl, hin, F', g', j'⟩
    rcases Nat.lt_or_ge i n with h | h
    · refine wpAny_mono (T.next i c' s' h F'.ok j') (fun r s₄ ⟨v, e, h₄⟩ => ?_) fun _ _ x => x
      subst e
      refine wpAny_mono h₄ (fun _ s₅ ⟨mv, j₅, iv₅⟩ => ?_) fun _ _ x => x
      have F₅ := F'.moved mv (T.itrs i c' s' j') hw
      generalize hacc : ((List.range i).filter q).map d = acc at F₅
      refine wpAny_mono ((ht _ i h).run ⟨G', [(hid, acc)], σs i⟩ c s c' s₅ v F₅ g' iv₅) (fun _ s₆ ⟨_, c₆, F₆, g₆, r₆⟩ => ?_) fun _ _ x => x
      have hG₆ : (St.bindAll ⟨G', [(hid, acc)], σs i⟩ (bds i)).G = (St.bindAll ⟨G', [], σs i⟩ (bds i)).G := bindAll_GG _ _ _ rfl
      have F₆' : FS X c s (ienv scope env H2.objs.size) (St.bindAll ⟨G', [], σs i⟩ (bds i)).G [(hid, acc)] c₆ s₆ := F₆.sub (fun x e hx => by rw [hG₆]; exact hx) (fun x e hx => by
        rw [List.lookup_cons, beq_str] at hx
        by_cases z : x = hid
        · rw [bindAll_O _ _ x (fun p hp => z ▸ (hbd i h p hp).1)]; simp [z] at hx; subst hx; simp [z]
        · simp [z] at hx)
      rw [bindAll_σ] at g₆
      refine wpAny_mono ((htest _ _ i h).run c s c₆ s₆ F₆' g₆) (fun ok s₇ ⟨e, c₇, e₇, g₇⟩ => ?_) fun _ _ x => x
      subst e
      have F₇ := F₆'.step e₇
      have back : ∀ {O' : Oms} {c' : Wd} {s' : Shared}, FS X c s (ienv scope env H2.objs.size) (St.bindAll ⟨G', [], σs i⟩ (bds i)).G O' c' s' → FS X c s (ienv scope env H2.objs.size) G' O' c' s' := fun F => F.sub (fun x e hx => by
        rw [bindAll_G _ _ x (fun p hp z => by have := (hbd i h p hp).2; rw [z, hx] at this; cases this)]; exact hx) (fun _ _ hx => hx)
      have fr := filter_range_succ q d i
      cases hq : q i with
      | false =>
        rw [if_neg (by simp)]
        refine ⟨n - (i + 1), by omega, i + 1, c₇, rfl, h, ?_, g₇.trans (hno i h hq).symm, T.step _ _ _ _ _ j₅ (r₆.trans (e₇.rl F₆'.ok))⟩
        rw [fr, hq, hacc]; simpa using back F₇
      | true =>
        rw [if_pos rfl]
        refine wpAny_mono ((helt _ _ i h hq).run c s c₇ s₇ F₇ g₇) (fun y s₈ ⟨c₈, e₈, r₈, g₈⟩ => ?_) fun _ _ x => x
        have F₈ := F₇.step e₈
        obtain ⟨m₈, ol₈, B₈⟩ := F₈.body
        obtain ⟨hat, hcf, hnh, hnew, vs, kk, hl, rr⟩ := B₈.own hid acc rfl
        have hol : ol₈ hid = s₂.heap.objs.size := by
          rcases hat with ⟨_, z⟩ | ⟨z, _⟩
          · rw [hCz] at z; exact Nat.succ.inj z
          · exact (z rfl).elim
        have hlen := rr.length
        have hal : acc.length ≤ i := by rw [← hacc]; simp; exact Nat.le_trans (List.length_filter_le _ _) (by simp)
        rw [← hol]
        refine wpAny_list_append_plain ⟨kk, hl⟩ (fun h' hp hs' => ?_) (by simp [sizeLine]; omega)
        rw [push_list] at hp
        obtain ⟨n', hp⟩ := hp
        obtain ⟨F₉, k₉⟩ := F₈.change B₈ (ds := acc) rfl (tk := s₈.toks) hp (rr.append (.cons r₈ .nil)) hs'
        refine ⟨n - (i + 1), by omega, i + 1, c₈, rfl, h, ?_, g₈, T.step _ _ _ _ _ j₅ ((r₆.trans (e₇.rl F₆'.ok)).trans ((e₈.rl F₇.ok).trans k₉))⟩
        rw [fr, hq, hacc]
        have := back F₉
        simpa [Oset] using this
    · have : i = n := by omega
      subst this
      refine wpAny_mono (T.done c' s' F'.ok j') (fun r s₄ ⟨e, mv⟩ => ?_) fun _ _ x => x
      subst e
      exact fin s₄ ⟨c', F'.moved mv (T.itrs _ c' s' j') hw, g'⟩
  exact codeAny_compStart_list (loop j₃) (T.self _ _ _ _ _ e₃.ok j₃ (loop j₃))
end

/-! text Fw10 -/
section
open PySem.Calls PySem.SeqAt

variable {X : Sys} {A : Around} {env : Env} {G : Gam} {O : Oms} {σ σ₁ σ₂ σ₃ σ₄ : Gh}

noncomputable abbrev fenv (r : DefRec) (pm code doc : Value) (L a : Addr) : Env := callEnvC (docDef r.name r.params r.body r.scope pm code doc) L a

theorem bindL_not {kindOf : Str → Option NameKind} : ∀ {bs : List (Str × Value)} {m : Str → Option Value} {x : Str}, x ∉ bs.map (·.1) → bindL kindOf bs m x = m x
  | [], m, x, _ => rfl
  | (n, v) :: r, m, x, h => by
    simp only [List.map_cons, List.mem_cons, not_or] at h
    rw [bindL, bindL_not h.2]
    split
    · exact if_neg h.1
    · rfl
theorem bindC_not {kindOf : Str → Option NameKind} : ∀ {bs : List (Str × Value)} {m : Str → Option Value} {x : Str}, x ∉ bs.map (·.1) → bindC kindOf bs m x = m x
  | [], m, x, _ => rfl
  | (n, v) :: r, m, x, h => by
    simp only [List.map_cons, List.mem_cons, not_or] at h
    rw [bindC, bindC_not h.2]
    split
    · rfl
    · exact if_neg h.1
theorem bindL_get {kindOf : Str → Option NameKind} {x : Str} {v : Value} (hk : kindOf x = some .local) : ∀ {bs : List (Str × Value)} {m : Str → Option Value}, (bs.map (·.1)).Nodup → bs.lookup x = some v → bindL kindOf bs m x = some v
  | (n, w) :: r, m, hn, h => by
    simp only [List.map_cons, List.nodup_cons] at hn
    rw [List.lookup_cons, beq_str] at h
    by_cases q : x = n
    · subst q; simp at h; subst h
      rw [bindL, bindL_not hn.1, if_pos hk, if_pos rfl]
    · simp [q] at h; rw [bindL]; exact bindL_get hk hn.2 h
theorem bindC_get {kindOf : Str → Option NameKind} {x : Str} {v : Value} (hk : kindOf x ≠ some .local) : ∀ {bs : List (Str × Value)} {m : Str → Option Value}, (bs.map (·.1)).Nodup → bs.lookup x = some v → bindC kindOf bs m x = some v
  | (n, w) :: r, m, hn, h => by
    simp only [List.map_cons, List.nodup_cons] at hn
    rw [List.lookup_cons, beq_str] at h
    by_cases q : x = n
    · subst q; simp at h; subst h
      rw [bindC, bindC_not hn.1, if_neg hk, if_pos rfl]
    · simp [q] at h; rw [bindC]; exact bindC_get hk hn.2 h

theorem zip_lookup {c : Wd} : ∀ {ns : List Str} {vs : List Value} {ds : List D} {x : Str} {d : D}, Reps c vs ds → (ns.zip ds).lookup x = some d → ∃ v, (ns.zip vs).lookup x = some v ∧ Rep c v d
  | [], _, _, _, _, _, h => by simp at h
  | n :: ns, _, _, x, d, .nil, h => by simp at h
  | n :: ns, _, _, x, d, .cons r rs, h => by
    rw [List.zip_cons_cons, List.lookup_cons, beq_str] at h
    rw [List.zip_cons_cons, List.lookup_cons, beq_str]
    by_cases q : x = n
    · simp [q] at h ⊢; subst h; exact r
    · simp [q] at h ⊢; exact zip_lookup rs h

/-- what a body hands back -/
noncomputable def Out.is (out : Out) (d : D) (σ : Gh) : Prop := out = .ret d σ ∨ (d = .none ∧ ∃ S : St, out = .nx S ∧ S.σ = σ)

theorem CT.intro {r : DefRec} {ns : List Str} {ds : List D} {d : D} {σ σ' : Gh} {k : Nat} {out : Out} (Y : X.Good) (hr : r ∈ recsOf X.prog)
    (hbind : ∀ pm code doc vs, vs.length = ns.length → bindArgs (docDef r.name r.params r.body r.scope pm code doc) ⟨vs, []⟩ = pure (ns.zip vs))
    (hlen : ds.length = ns.length) (hnd : ns.Nodup)
    (hkind : ∀ L, ∀ x ∈ ns, r.scope.names.lookup x = some .local ∨ (r.scope.names.lookup x = some .cell ∧ ((cellsFrom (L + 1) r.scope.names []).lookup x).isSome = true))
    (h : ∀ A' pm code doc L a, Rm k A' → TR X A' (fenv r pm code doc L a) ⟨ns.zip ds, [], σ⟩ r.body out) (ho : out.is d σ')
    (hco : r.scope.isCoroutine = false := by rfl) (hgen : r.scope.isGenerator = false := by rfl) (hk : r.scope.kind = .function := by rfl) : CT X (k + 1) r.name σ ds d σ' := by
  obtain ⟨a, o, pm, code, doc, h1, h2, h3, h4⟩ := Y.fn r hr
  refine ⟨⟨a, o, _, h1, h2, h3⟩, fun A c s vs a' hA K ha rs hg => ?_⟩
  rw [h1] at ha; cases ha
  have hl := rs.length
  have hz : (ns.zip vs).map (·.1) = ns := by rw [List.map_fst_zip]; omega
  refine wpAny_call (codeAny_call_cells (fd := docDef r.name r.params r.body r.scope pm code doc) (binds := ns.zip vs) (by have := hA.2.1; unfold recursionLimit; omega) (K.base _ _ h2) h3 (Y.nolimit.keeps K.base) (h4.keeps K.base) rfl
    (hbind pm code doc vs (by omega)) rfl (fun x hx => ?_) (fun s₁ I => ?_) hco hgen hk)
  · have : x.1 ∈ ns := by have := List.mem_map_of_mem (f := (·.1)) hx; rw [hz] at this; exact this
    exact hkind _ _ this
  · obtain ⟨h', tk, e, hkeep⟩ := I.done
    have E := Ext.same K (s' := s₁) ⟨h', tk, e, fun b o e' => hkeep b o e'⟩
    have F : FS X c s (fenv r pm code doc s.heap.objs.size a) (ns.zip ds) [] c s₁ := by
      refine ⟨E, hk, rfl, rfl, K.base, get_size_none _, fun x ca hx => ⟨fun _ => ?_, _, I.cell x ca hx⟩, fun x y ca hx hy => name_of_addr I.apart (mem_of_lookup hx) (mem_of_lookup hy), _, fun _ => 0, I.toInCall.ns, fun x e hx => ?_, fun y es hy => by simp at hy, fun y es y' es' hy => by simp at hy⟩
      · exact Heap.get?_none_of_le (Nat.le_of_lt (I.above x ca (mem_of_lookup hx)))
      · obtain ⟨v, hv, rv⟩ := zip_lookup rs hx
        refine ⟨v, ?_, rv⟩
        have hm : x ∈ ns := by
          have := List.mem_map_of_mem (f := (·.1)) (mem_of_lookup hv)
          rw [hz] at this; exact this
        rcases hkind s.heap.objs.size x hm with q | ⟨q, q'⟩
        · exact .inl ⟨q, bindL_get q (by rw [hz]; exact hnd) hv⟩
        · obtain ⟨ca, hca⟩ := Option.isSome_iff_exists.mp q'
          refine .inr ⟨.inl q, ca, hca, ?_⟩
          have := I.cell x ca hca
          rw [bindC_get (by show r.scope.names.lookup x ≠ _; rw [q]; simp) (by rw [hz]; exact hnd) hv] at this
          exact this
    refine wpAny_mono (h (A.deeper (fenv r pm code doc s.heap.objs.size a)) pm code doc s.heap.objs.size a ⟨hA.1, by have := hA.2.1; show A.depth + 1 + k ≤ 900; omega, by have := hA.2.2; show A.units + 3 + 10 * k + 100 ≤ 9000; omega⟩ |>.run c s c s₁ F hg) (fun fl s' p => ?_) fun _ _ x => x.elim
    rcases ho with rfl | ⟨rfl, S, rfl, rfl⟩
    · obtain ⟨v, rfl, c', e', r', g'⟩ := p
      exact ⟨c', e', r', g'⟩
    · obtain ⟨rfl, c', F', g', _⟩ := p
      exact ⟨c', F'.ext, .none, g'⟩
end

/-! text Rec -/
section

noncomputable abbrev pw : Program := PySem.Challenge.pw_xm0131_01
noncomputable def dumSc : Scope := ⟨.function, [], false, false, []⟩
noncomputable def dumAr : Arguments := ⟨[], [], none, [], [], none, []⟩
noncomputable def stAt : Nat → List Stmt → Option Stmt
  | _, [] => none
  | 0, s :: _ => some s
  | n + 1, _ :: r => stAt n r
/-- the def that stands at a place of the text -/
noncomputable def recOf (n : Nat) : DefRec := match stAt n pw.main.body with
  | some (.FunctionDef name a b _ _ _ sc _ _ pos) => ⟨name, a, b, sc, pos⟩
  | _ => ⟨"", dumAr, [], dumSc, ⟨0, 0, 0, 0⟩⟩
noncomputable def recs : List DefRec := [recOf 3, recOf 7, recOf 8, recOf 9, recOf 10, recOf 11, recOf 12, recOf 14, recOf 15, recOf 16, recOf 17, recOf 18, recOf 19, recOf 20, recOf 21, recOf 22, recOf 23, recOf 25, recOf 26, recOf 27, recOf 29, recOf 30, recOf 31, recOf 32, recOf 33, recOf 34, recOf 36, recOf 37, recOf 38, recOf 39, recOf 40, recOf 41]
theorem recs_eq : recsOf pw = recs := rfl
theorem mem_gcd : recOf 3 ∈ recsOf pw := recs_eq ▸ List.mem_of_getElem? (l := recs) (i := 0) rfl
theorem mem_rat : recOf 7 ∈ recsOf pw := recs_eq ▸ List.mem_of_getElem? (l := recs) (i := 1) rfl
theorem mem_radd : recOf 8 ∈ recsOf pw := recs_eq ▸ List.mem_of_getElem? (l := recs) (i := 2) rfl
theorem mem_rmul : recOf 9 ∈ recsOf pw := recs_eq ▸ List.mem_of_getElem? (l := recs) (i := 3) rfl
theorem mem_rdiv : recOf 10 ∈ recsOf pw := recs_eq ▸ List.mem_of_getElem? (l := recs) (i := 4) rfl
theorem mem_rneg : recOf 11 ∈ recsOf pw := recs_eq ▸ List.mem_of_getElem? (l := recs) (i := 5) rfl
theorem mem_rinv : recOf 12 ∈ recsOf pw := recs_eq ▸ List.mem_of_getElem? (l := recs) (i := 6) rfl
theorem mem_qtrim : recOf 14 ∈ recsOf pw := recs_eq ▸ List.mem_of_getElem? (l := recs) (i := 7) rfl
theorem mem_qadd : recOf 15 ∈ recsOf pw := recs_eq ▸ List.mem_of_getElem? (l := recs) (i := 8) rfl
theorem mem_qneg : recOf 16 ∈ recsOf pw := recs_eq ▸ List.mem_of_getElem? (l := recs) (i := 9) rfl
theorem mem_qsub : recOf 17 ∈ recsOf pw := recs_eq ▸ List.mem_of_getElem? (l := recs) (i := 10) rfl
theorem mem_qscale : recOf 18 ∈ recsOf pw := recs_eq ▸ List.mem_of_getElem? (l := recs) (i := 11) rfl
theorem mem_qraise : recOf 19 ∈ recsOf pw := recs_eq ▸ List.mem_of_getElem? (l := recs) (i := 12) rfl
theorem mem_qmul : recOf 20 ∈ recsOf pw := recs_eq ▸ List.mem_of_getElem? (l := recs) (i := 13) rfl
theorem mem_qdivmod : recOf 21 ∈ recsOf pw := recs_eq ▸ List.mem_of_getElem? (l := recs) (i := 14) rfl
theorem mem_qextended : recOf 22 ∈ recsOf pw := recs_eq ▸ List.mem_of_getElem? (l := recs) (i := 15) rfl
theorem mem_from_z : recOf 23 ∈ recsOf pw := recs_eq ▸ List.mem_of_getElem? (l := recs) (i := 16) rfl
theorem mem_pivot_row : recOf 25 ∈ recsOf pw := recs_eq ▸ List.mem_of_getElem? (l := recs) (i := 17) rfl
theorem mem_bareiss_step : recOf 26 ∈ recsOf pw := recs_eq ▸ List.mem_of_getElem? (l := recs) (i := 18) rfl
theorem mem_determinant : recOf 27 ∈ recsOf pw := recs_eq ▸ List.mem_of_getElem? (l := recs) (i := 19) rfl
theorem mem_ztrim : recOf 29 ∈ recsOf pw := recs_eq ▸ List.mem_of_getElem? (l := recs) (i := 20) rfl
theorem mem_zadd : recOf 30 ∈ recsOf pw := recs_eq ▸ List.mem_of_getElem? (l := recs) (i := 21) rfl
theorem mem_zscale : recOf 31 ∈ recsOf pw := recs_eq ▸ List.mem_of_getElem? (l := recs) (i := 22) rfl
theorem mem_zmul : recOf 32 ∈ recsOf pw := recs_eq ▸ List.mem_of_getElem? (l := recs) (i := 23) rfl
theorem mem_zpower : recOf 33 ∈ recsOf pw := recs_eq ▸ List.mem_of_getElem? (l := recs) (i := 24) rfl
theorem mem_zshift : recOf 34 ∈ recsOf pw := recs_eq ▸ List.mem_of_getElem? (l := recs) (i := 25) rfl
theorem mem_law_draw : recOf 36 ∈ recsOf pw := recs_eq ▸ List.mem_of_getElem? (l := recs) (i := 26) rfl
theorem mem_law_choose : recOf 37 ∈ recsOf pw := recs_eq ▸ List.mem_of_getElem? (l := recs) (i := 27) rfl
theorem mem_law_at : recOf 38 ∈ recsOf pw := recs_eq ▸ List.mem_of_getElem? (l := recs) (i := 28) rfl
theorem mem_law_put : recOf 39 ∈ recsOf pw := recs_eq ▸ List.mem_of_getElem? (l := recs) (i := 29) rfl
theorem mem_law_steps : recOf 40 ∈ recsOf pw := recs_eq ▸ List.mem_of_getElem? (l := recs) (i := 30) rfl
theorem mem_law : recOf 41 ∈ recsOf pw := recs_eq ▸ List.mem_of_getElem? (l := recs) (i := 31) rfl
end

/-! text Fw11 -/
section
open PySem.Calls PySem.SeqAt
variable {X : Sys} {A : Around} {env : Env} {G : Gam} {O : Oms} {σ σ₁ σ₂ σ₃ σ₄ : Gh}

inductive KS (names : List (Str × NameKind)) : List Str → Prop
  | nil : KS names []
  | l {x : Str} {xs : List Str} : names.lookup x = some .local → KS names xs → KS names (x :: xs)
  | c {x : Str} {xs : List Str} : names.lookup x = some .cell → (∀ L, ((cellsFrom (L + 1) names []).lookup x).isSome = true) → KS names xs → KS names (x :: xs)
theorem KS.get {names : List (Str × NameKind)} : ∀ {xs : List Str}, KS names xs → ∀ L, ∀ x ∈ xs, names.lookup x = some .local ∨ (names.lookup x = some .cell ∧ ((cellsFrom (L + 1) names []).lookup x).isSome = true)
  | _, .l e r, L, y, hy => by
    rcases List.mem_cons.mp hy with rfl | hy
    · exact .inl e
    · exact KS.get r L y hy
  | _, .c e e' r, L, y, hy => by
    rcases List.mem_cons.mp hy with rfl | hy
    · exact .inr ⟨e, e' L⟩
    · exact KS.get r L y hy
theorem CT.mk {r : DefRec} {ns : List Str} {ds : List D} {d : D} {σ σ' : Gh} {k : Nat} {f : Str} (hX : X.prog = pw) (Y : X.Good) (hr : r ∈ recsOf pw) (hf : f = r.name)
    (hbind : ∀ pm code doc vs, vs.length = ns.length → bindArgs (docDef r.name r.params r.body r.scope pm code doc) ⟨vs, []⟩ = pure (ns.zip vs)) (hkind : KS r.scope.names ns)
    (hlen : ds.length = ns.length) (hnd : ns.Nodup)
    (h : ∀ A' pm code doc L a, Rm k A' → TR X A' (fenv r pm code doc L a) ⟨ns.zip ds, [], σ⟩ r.body (.ret d σ'))
    (hco : r.scope.isCoroutine = false := by rfl) (hgen : r.scope.isGenerator = false := by rfl) (hk : r.scope.kind = .function := by rfl) : CT X (k + 1) f σ ds d σ' := by
  subst hf
  exact CT.intro Y (hX ▸ hr) hbind hlen hnd hkind.get h (.inl rfl) hco hgen hk
theorem Rm.le {k n : Nat} {A : Around} (h : Rm n A) (hk : k ≤ n) : Rm k A := ⟨h.1, by have := h.2.1; omega, by have := h.2.2; omega⟩
theorem CT.le {k n : Nat} {f : Str} {ds : List D} {d : D} {σ σ' : Gh} (h : CT X k f σ ds d σ') (hk : k ≤ n) : CT X n f σ ds d σ' := ⟨h.1, fun A c s vs a hA => h.2 A c s vs a (hA.le hk)⟩

theorem EVq.call {f : Str} {p pos : Pos} {e : Expr} {es : List Expr} {ds : List D} {d : D} {k K : Nat} (Y : X.Good) (hA : Rm K A) (hk : env.kindOf f = some .globalImplicit)
    (he : starEach (e :: es) env = (false, eval e env) :: starEach es env) (hd : (f == ("__debug__" : Str)) = false) (hs : ES X A env G O σ (e :: es) ds σ₁) (hc : CT X k f σ₁ ds d σ₂) (hkK : k ≤ K) : EV X A env G O σ (.Call (.Name f p) (e :: es) [] pos) d σ₂ :=
  EV.call Y hk (hA.le hkK) hs hc he hd
theorem EVq.len {p pos : Pos} {e : Expr} {ds : List D} (Y : X.Good) (hk : env.kindOf "len" = some .globalImplicit) (he : starEach [e] env = (false, eval e env) :: starEach [] env) (h : EV X A env G O σ e (.list ds) σ₁) (hb : ds.length ≤ 100000) :
    EV X A env G O σ (.Call (.Name "len" p) [e] [] pos) (.int ds.length) σ₁ :=
  EV.bcall (id := "len") Y hk (ES.cons h .nil he) (BC.len hb) (Y.free _ (by simp)) rfl (by decide) he
theorem EVq.abs {p pos : Pos} {e : Expr} {i : Int} (Y : X.Good) (hk : env.kindOf "abs" = some .globalImplicit) (he : starEach [e] env = (false, eval e env) :: starEach [] env) (h : EV X A env G O σ e (.int i) σ₁) :
    EV X A env G O σ (.Call (.Name "abs" p) [e] [] pos) (.int i.natAbs) σ₁ :=
  EV.bcall (id := "abs") Y hk (ES.cons h .nil he) BC.abs (Y.free _ (by simp)) rfl (by decide) he
theorem EVq.max {p pos : Pos} {e e' : Expr} {i j : Int} {K : Nat} (Y : X.Good) (hA : Rm K A) (hk : env.kindOf "max" = some .globalImplicit)
    (he : starEach [e, e'] env = (false, eval e env) :: starEach [e'] env) (he' : starEach [e'] env = (false, eval e' env) :: starEach [] env) (h : EV X A env G O σ e (.int i) σ₁) (h' : EV X A env G O σ₁ e' (.int j) σ₂) :
    EV X A env G O σ (.Call (.Name "max" p) [e, e'] [] pos) (.int (Max.max i j)) σ₂ :=
  EV.bcall (id := "max") Y hk (ES.cons h (ES.cons h' .nil he') he) (BC.max hA.1) (Y.free _ (by simp)) rfl (by decide) he (fun pos => by rw [he']; rfl)
theorem EVq.sum {p pos : Pos} {e : Expr} {is : List Int} {K : Nat} (Y : X.Good) (hA : Rm K A) (hk : env.kindOf "sum" = some .globalImplicit) (he : starEach [e] env = (false, eval e env) :: starEach [] env) (h : EV X A env G O σ e (il is) σ₁)
    (hb : ∀ j, j < is.length → InLong (is.getD j 0) ∧ InLong ((is.take (j + 1)).sum)) :
    EV X A env G O σ (.Call (.Name "sum" p) [e] [] pos) (.int is.sum) σ₁ :=
  EV.bcall (id := "sum") Y hk (ES.cons h .nil he) (BC.sum hA.1 hb) (Y.free _ (by simp)) rfl (by decide) he
theorem EVq.intc {p pos : Pos} {e : Expr} {i : Int} (Y : X.Good) (hk : env.kindOf "int" = some .globalImplicit) (he : starEach [e] env = (false, eval e env) :: starEach [] env) (h : EV X A env G O σ e (.int i) σ₁) :
    EV X A env G O σ (.Call (.Name "int" p) [e] [] pos) (.int i) σ₁ :=
  EV.tcall (id := "int") Y hk (ES.cons h .nil he) BC.int (Y.free _ (by simp)) rfl (by decide) he
theorem EFq.listc {p pos : Pos} {e : Expr} {ds : List D} (Y : X.Good) (hk : env.kindOf "list" = some .globalImplicit) (he : starEach [e] env = (false, eval e env) :: starEach [] env) (h : EV X A env G O σ e (.list ds) σ₁) (hb : ds.length ≤ 100000) :
    EF X A env G O σ (.Call (.Name "list" p) [e] [] pos) ds σ₁ :=
  EF.tcall (id := "list") Y hk (ES.cons h .nil he) (BCF.list hb) (Y.free _ (by simp)) rfl (by decide) he
theorem ITq.rng1 {x : Str} {p q pos : Pos} {e : Expr} {b : Int} {K : Nat} (Y : X.Good) (hA : Rm K A) (hk : env.kindOf "range" = some .globalImplicit)
    (he : starEach [e] env = (false, eval e env) :: starEach [] env) (h : EV X A env G O σ e (.int b) σ₁) (hb : -(2 ^ 60) ≤ b) (hb' : b ≤ 2 ^ 60) : IT X A env G O σ (.Name x p) (.Call (.Name "range" q) [e] [] pos) b.toNat (fun i => .one (.int i)) σ₁ :=
  IT.range1 Y hA.1 hk h hb hb' (Y.free _ (by simp)) rfl (by decide) he
theorem ITq.rng2 {x : Str} {p q pos : Pos} {e e' : Expr} {a b : Int} {K : Nat} (Y : X.Good) (hA : Rm K A) (hk : env.kindOf "range" = some .globalImplicit)
    (he : starEach [e, e'] env = (false, eval e env) :: starEach [e'] env) (he' : starEach [e'] env = (false, eval e' env) :: starEach [] env) (h : EV X A env G O σ e (.int a) σ₁) (h' : EV X A env G O σ₁ e' (.int b) σ₂)
    (ha : -(2 ^ 60) ≤ a) (ha' : a ≤ 2 ^ 60) (hb : -(2 ^ 60) ≤ b) (hb' : b ≤ 2 ^ 60) :
    IT X A env G O σ (.Name x p) (.Call (.Name "range" q) [e, e'] [] pos) (b - a).toNat (fun i => .one (.int (a + i))) σ₂ :=
  IT.range2 Y hA.1 hk h h' ha ha' hb hb' (Y.free _ (by simp)) rfl (by decide) he he'
theorem ITq.rng3 {x : Str} {p q pos : Pos} {e e' e'' : Expr} {a b : Int} {K : Nat} (Y : X.Good) (hA : Rm K A) (hk : env.kindOf "range" = some .globalImplicit)
    (he : starEach [e, e', e''] env = (false, eval e env) :: starEach [e', e''] env) (he' : starEach [e', e''] env = (false, eval e' env) :: starEach [e''] env) (he'' : starEach [e''] env = (false, eval e'' env) :: starEach [] env)
    (h : EV X A env G O σ e (.int a) σ₁) (h' : EV X A env G O σ₁ e' (.int b) σ₂) (h'' : EV X A env G O σ₂ e'' (.int (-1)) σ₃)
    (ha : -(2 ^ 60) ≤ a) (ha' : a ≤ 2 ^ 60) (hb : -(2 ^ 60) ≤ b) (hb' : b ≤ 2 ^ 60) :
    IT X A env G O σ (.Name x p) (.Call (.Name "range" q) [e, e', e''] [] pos) (a - b).toNat (fun i => .one (.int (a - i))) σ₃ :=
  IT.range3 Y hA.1 hk h h' h'' ha ha' hb hb' (Y.free _ (by simp)) rfl (by decide) he he' he''
theorem ITq.enm {elts : List Expr} {kk : Nat} {pp q pos : Pos} {e : Expr} {ds : List D} {K : Nat} (Y : X.Good) (hA : Rm K A) (hk : env.kindOf "enumerate" = some .globalImplicit)
    (he : starEach [e] env = (false, eval e env) :: starEach [] env) (h : EV X A env G O σ e (.list ds) σ₁) : IT X A env G O σ (.Tuple elts kk pp) (.Call (.Name "enumerate" q) [e] [] pos) ds.length (fun i => .pair i (ds.getD i .none)) σ₁ :=
  IT.enum Y hA.1 hk h (Y.free _ (by simp)) rfl (by decide) he
theorem ITq.lst {x : Str} {p : Pos} {iter : Expr} {ds : List D} {K : Nat} (hA : Rm K A) (h : EV X A env G O σ iter (.list ds) σ₁) : IT X A env G O σ (.Name x p) iter ds.length (fun i => .one (ds.getD i .none)) σ₁ := IT.list hA.1 h

section
variable {l r : Expr} {pos : Pos} {i j : Int} {a b : List D}
theorem EVq.add (h₁ : EV X A env G O σ l (.int i) σ₁) (h₂ : EV X A env G O σ₁ r (.int j) σ₂) : EV X A env G O σ (.BinOp l .Add r pos) (.int (i + j)) σ₂ := EV.bin h₁ h₂ BO.add
theorem EVq.sub (h₁ : EV X A env G O σ l (.int i) σ₁) (h₂ : EV X A env G O σ₁ r (.int j) σ₂) : EV X A env G O σ (.BinOp l .Sub r pos) (.int (i - j)) σ₂ := EV.bin h₁ h₂ BO.sub
theorem EVq.mul (h₁ : EV X A env G O σ l (.int i) σ₁) (h₂ : EV X A env G O σ₁ r (.int j) σ₂) (hm : IntMulOk i j) : EV X A env G O σ (.BinOp l .Mult r pos) (.int (i * j)) σ₂ := EV.bin h₁ h₂ (BO.mul hm)
theorem EVq.mod (h₁ : EV X A env G O σ l (.int i) σ₁) (h₂ : EV X A env G O σ₁ r (.int j) σ₂) (hj : j ≠ 0) : EV X A env G O σ (.BinOp l .Mod r pos) (.int (i.fmod j)) σ₂ := EV.bin h₁ h₂ (BO.mod hj)
theorem EVq.div (h₁ : EV X A env G O σ l (.int i) σ₁) (h₂ : EV X A env G O σ₁ r (.int j) σ₂) (hj : j ≠ 0) (hs : j.natAbs.log2 < 9000) : EV X A env G O σ (.BinOp l .FloorDiv r pos) (.int (i.fdiv j)) σ₂ := EV.bin h₁ h₂ (BO.div hj hs)
theorem EVq.pow (h₁ : EV X A env G O σ l (.int i) σ₁) (h₂ : EV X A env G O σ₁ r (.int j) σ₂) (hn : 0 ≤ j) (hs : (Builtin.Int.intBits i : Int) * j ≤ 2 ^ 27) : EV X A env G O σ (.BinOp l .Pow r pos) (.int (i ^ j.toNat)) σ₂ := EV.bin h₁ h₂ (BO.pow hn hs)
theorem EFq.cat (h₁ : EV X A env G O σ l (.list a) σ₁) (h₂ : EV X A env G O σ₁ r (.list b) σ₂) (hsz : a.length + b.length ≤ 100000) : EF X A env G O σ (.BinOp l .Add r pos) (a ++ b) σ₂ := EF.bin h₁ h₂ (BF.cat hsz)
theorem EFq.rep (h₁ : EV X A env G O σ l (.list a) σ₁) (h₂ : EV X A env G O σ₁ r (.int j) σ₂) (hx : j ≤ 1000) (hx0 : -1000 ≤ j) (hsz : a.length ≤ 1000) : EF X A env G O σ (.BinOp l .Mult r pos) (List.replicate j.toNat a).flatten σ₂ := EF.bin h₁ h₂ (BF.rep hx hx0 hsz)
end
theorem EVq.itemO {x : Str} {p : Pos} {idx : Expr} {pos : Pos} {ds : List D} {i : Int} {d : D} (ho : O.lookup x = some ds) (hd : (x == ("__debug__" : Str)) = false) (hne : x ≠ hid) (hi : EV X A env G O σ idx (.int i) σ₁) (hx : D.item ds i = some d) (hb : ds.length ≤ 100000) :
    EV X A env G O σ (.Subscript (.Name x p) idx pos) d σ₁ := EV.itemO ho hi hx hb hd hne
theorem ESq.cons {e : Expr} {es : List Expr} {d : D} {ds : List D} (he : starEach (e :: es) env = (false, eval e env) :: starEach es env) (h₁ : EV X A env G O σ e d σ₁) (h₂ : ES X A env G O σ₁ es ds σ₂) : ES X A env G O σ (e :: es) (d :: ds) σ₂ := ES.cons h₁ h₂ he
theorem EBq.g {e : Expr} {es : List Expr} {d : D} {bs : List Bd} (he : starEach (e :: es) env = (false, eval e env) :: starEach es env) (h₁ : EV X A env G O σ e d σ₁) (h₂ : EB X A env G O σ₁ es bs σ₂) : EB X A env G O σ (e :: es) (.g d :: bs) σ₂ := EB.g h₁ h₂ he
theorem EBq.o {e : Expr} {es : List Expr} {ds : List D} {bs : List Bd} (he : starEach (e :: es) env = (false, eval e env) :: starEach es env) (h₁ : EF X A env G O σ e ds σ₁) (h₂ : EB X A env G O σ₁ es bs σ₂) : EB X A env G O σ (e :: es) (.o ds :: bs) σ₂ := EB.o h₁ h₂ he
theorem TVq.cmp {l r : Expr} {op : CmpOp} {pos : Pos} {d₁ d₂ : D} {b : Bool} (hm : behindInMarks op r = false) (h₁ : EV X A env G O σ l d₁ σ) (h₂ : EV X A env G O σ r d₂ σ) (hb : CO X A op d₁ d₂ b) : TV X A env G O σ (.Compare l [op] [r] pos) b := TV.cmp h₁ h₂ hb hm
theorem EVq.cmp {l r : Expr} {op : CmpOp} {pos : Pos} {d₁ d₂ : D} {b : Bool} (hm : behindInMarks op r = false) (h₁ : EV X A env G O σ l d₁ σ₁) (h₂ : EV X A env G O σ₁ r d₂ σ₂) (hb : CO X A op d₁ d₂ b) : EV X A env G O σ (.Compare l [op] [r] pos) (.bool b) σ₂ := EV.cmp h₁ h₂ hb hm

theorem TRq.set {S : St} {x : Str} {p pos : Pos} {value : Expr} {d : D} {ss : List Stmt} {out : Out} (hs : swapsWith value (some (.Name x p)) pos.line env = pure false) (hx : Slot' env x) (h : EV X A env S.G S.O S.σ value d σ₁)
    (k : TR X A env ⟨Gset S.G x d, Odel S.O x, σ₁⟩ ss out) : TR X A env S (.Assign [.Name x p] value pos :: ss) out := TR.cons (TS.set hx h hs) k
theorem TRq.setO {S : St} {x : Str} {p pos : Pos} {value : Expr} {ds : List D} {ss : List Stmt} {out : Out} (hs : swapsWith value (some (.Name x p)) pos.line env = pure false) (hx : Slot' env x) (h : EF X A env S.G S.O S.σ value ds σ₁)
    (k : TR X A env ⟨Gdel S.G x, Oset S.O x ds, σ₁⟩ ss out) : TR X A env S (.Assign [.Name x p] value pos :: ss) out := TR.cons (TS.setO hx h hs) k
theorem TRq.sub {S : St} {x : Str} {p pos : Pos} {value : Expr} {i j : Int} {ss : List Stmt} {out : Out} (hx : Slot' env x) (hi : S.G.lookup x = some (.int i)) (h : EV X A env S.G S.O S.σ value (.int j) σ₁)
    (k : TR X A env ⟨Gset S.G x (.int (i - j)), Odel S.O x, σ₁⟩ ss out) : TR X A env S (.AugAssign (.Name x p) .Sub value pos :: ss) out := TR.cons (TS.augSub hx hi h) k
theorem TRq.swap {S : St} {elts es : List Expr} {kk k' K : Nat} {tpos vpos pos : Pos} {names : List Str} {bs : List Bd} {ss : List Stmt} {out : Out} (hA : Rm K A)
    (hs : swapsWithSole [.Tuple elts kk tpos] (.Tuple es k' vpos) pos.line env = pure false) (hw : swappedStores [.Tuple elts kk tpos] (.Tuple es k' vpos) env = pure (some names)) (hx : ∀ x ∈ names, Slot' env x)
    (h : EB X A env S.G S.O S.σ es bs σ₁) (hb : bs.length = names.length) (hb' : bs.length ≤ 1000) (k : TR X A env (St.bindAll ⟨S.G, S.O, σ₁⟩ (names.reverse.zip bs.reverse)) ss out) :
    TR X A env S (.Assign [.Tuple elts kk tpos] (.Tuple es k' vpos) pos :: ss) out := TR.cons (TS.swap hA.1 h hx hb hb' hs hw) k
theorem TRq.tupB {S : St} {elts es : List Expr} {kk k' K : Nat} {tpos vpos pos : Pos} {nps : List (Str × Pos)} {bs : List Bd} {ss : List Stmt} {out : Out} (hA : Rm K A)
    (hs : swapsWithSole [.Tuple elts kk tpos] (.Tuple es k' vpos) pos.line env = pure false) (hw : swappedStores [.Tuple elts kk tpos] (.Tuple es k' vpos) env = pure none)
    (ha : assignEach elts env = nps.map (fun np => (false, PySem.assign (.Name np.1 np.2) env))) (hx : ∀ x ∈ nps.map (·.1), Slot' env x)
    (h : EB X A env S.G S.O S.σ es bs σ₁) (hb : bs.length = nps.length) (hb' : bs.length ≤ 1000) (k : TR X A env (St.bindAll ⟨S.G, S.O, σ₁⟩ ((nps.map (·.1)).zip bs)) ss out) :
    TR X A env S (.Assign [.Tuple elts kk tpos] (.Tuple es k' vpos) pos :: ss) out := TR.cons (TS.tupB hA.1 h ha hx hb hb' hs hw) k
theorem TRq.tupE {S : St} {elts : List Expr} {value : Expr} {kk K : Nat} {tpos pos : Pos} {nps : List (Str × Pos)} {ds : List D} {ss : List Stmt} {out : Out} (hA : Rm K A)
    (hs : swapsWithSole [.Tuple elts kk tpos] value pos.line env = pure false) (hw : swappedStores [.Tuple elts kk tpos] value env = pure none)
    (ha : assignEach elts env = nps.map (fun np => (false, PySem.assign (.Name np.1 np.2) env))) (hx : ∀ x ∈ nps.map (·.1), Slot' env x)
    (h : EV X A env S.G S.O S.σ value (.tup ds) σ₁) (hb : ds.length = nps.length) (k : TR X A env (St.bindAll ⟨S.G, S.O, σ₁⟩ ((nps.map (·.1)).zip (ds.map .g))) ss out) :
    TR X A env S (.Assign [.Tuple elts kk tpos] value pos :: ss) out := TR.cons (TS.tupE hA.1 h ha hx hb hs hw) k
theorem TRq.ret {S : St} {e : Expr} {pos : Pos} {d : D} {ss : List Stmt} (h : EV X A env S.G S.O S.σ e d σ₁) : TR X A env S (.Return (some e) pos :: ss) (.ret d σ₁) := TR.cons_ret (TS.ret h)
theorem TRq.retO {S : St} {x : Str} {p pos : Pos} {ds : List D} {ss : List Stmt} (h : S.O.lookup x = some ds) (hd : (x == ("__debug__" : Str)) = false) (hne : x ≠ hid) : TR X A env S (.Return (some (.Name x p)) pos :: ss) (.ret (.list ds) S.σ) := TR.cons_ret (TS.retO h hd hne)
theorem TRq.putItem {S : St} {x : Str} {px p pos : Pos} {idx value : Expr} {ds : List D} {i : Int} {d : D} {ss : List Stmt} {out : Out} (ho : S.O.lookup x = some ds) (hs : swapsWith value (some (.Subscript (.Name x px) idx p)) pos.line env = pure false)
    (hd : (x == ("__debug__" : Str)) = false) (hne : x ≠ hid) (hv : EV X A env S.G S.O S.σ value d σ₁) (hi : EV X A env S.G S.O σ₁ idx (.int i) σ₂) (h0 : 0 ≤ i) (hn : i < ds.length) (hb : ds.length ≤ 100000)
    (k : TR X A env ⟨S.G, Oset S.O x (ds.set i.toNat d), σ₂⟩ ss out) : TR X A env S (.Assign [.Subscript (.Name x px) idx p] value pos :: ss) out := TR.cons (TS.putItem ho hv hi h0 hn hb hs hd hne) k
theorem TRq.augItem {S : St} {x : Str} {px p pos : Pos} {idx value : Expr} {ds : List D} {i a b : Int} {ss : List Stmt} {out : Out} (ho : S.O.lookup x = some ds)
    (hs : ∀ ov iv new, augStore idx ov iv new = (do holding [new, ov, iv] (setItem ov iv new); release [new, ov, iv] []; pure .next)) (hd : (x == ("__debug__" : Str)) = false) (hne : x ≠ hid)
    (hi : EV X A env S.G S.O S.σ idx (.int i) σ₁) (hv : EV X A env S.G S.O σ₁ value (.int b) σ₂) (h0 : 0 ≤ i) (hx : ds[i.toNat]? = some (.int a)) (hb : ds.length ≤ 100000)
    (k : TR X A env ⟨S.G, Oset S.O x (ds.set i.toNat (.int (a + b))), σ₂⟩ ss out) : TR X A env S (.AugAssign (.Subscript (.Name x px) idx p) .Add value pos :: ss) out := TR.cons (TS.augItem ho hi hv h0 hx hb hs hd hne) k
theorem TRq.append {S : St} {x name : Str} {px pa pc pos : Pos} {value : Expr} {ds : List D} {d : D} {pl : Sem Bool} {ss : List Stmt} {out : Out} (ho : S.O.lookup x = some ds) (hname : name = "append")
    (he' : eval (.Call (.Attribute (.Name x px) name pa) [value] [] pc) env = (do
      let ov ← eval (.Name x px) env
      standAt pa.atName
      let (f, first) ← holding [ov] (getMethod ov name pl)
      callWith pc f first (backTo pc (starEach [value] env)) []))
    (he : starEach [value] env = (false, eval value env) :: starEach [] env) (hd : (x == ("__debug__" : Str)) = false) (hne : x ≠ hid)
    (hin : interactive env = false) (hs : swapsWith (.Call (.Attribute (.Name x px) name pa) [value] [] pc) none pos.line env = pure false) (hv : EV X A env S.G S.O S.σ value d σ₁) (hb : ds.length ≤ 100000)
    (k : TR X A env ⟨S.G, Oset S.O x (ds ++ [d]), σ₁⟩ ss out) :
    TR X A env S (.Expr (.Call (.Attribute (.Name x px) name pa) [value] [] pc) pos :: ss) out := TR.cons (TS.append ho hv hname hb he' he hd hne hin hs) k

theorem sl1 {a : Str} (h : Slot' env a) : ∀ x ∈ [a], Slot' env x := fun x hx => by simp at hx; subst hx; exact h
theorem sl2 {a b : Str} (h : Slot' env a) (h' : Slot' env b) : ∀ x ∈ [a, b], Slot' env x := fun x hx => by simp at hx; rcases hx with rfl | rfl <;> assumption
theorem sl3 {a b c : Str} (h : Slot' env a) (h' : Slot' env b) (h'' : Slot' env c) : ∀ x ∈ [a, b, c], Slot' env x := fun x hx => by simp at hx; rcases hx with rfl | rfl | rfl <;> assumption
theorem slL {a : Str} (h : env.kindOf a = some .local) (hn : a ≠ hid) : Slot' env a := ⟨hn, .inl h⟩
theorem slC {a : Str} {c : Addr} (h : env.kindOf a = some .cell) (hf : env.func ≠ none) (hc : env.cells.lookup a = some c) (hn : a ≠ hid) : Slot' env a := ⟨hn, .inr ⟨h, hf, c, hc⟩⟩
theorem EV.to {e : Expr} {d d' : D} (h : EV X A env G O σ e d σ₁) (q : d = d') : EV X A env G O σ e d' σ₁ := q ▸ h
theorem TV.to {e : Expr} {b b' : Bool} (h : TV X A env G O σ e b) (q : b = b') : TV X A env G O σ e b' := q ▸ h
theorem TR.to {S : St} {ss : List Stmt} {d d' : D} {σ' : Gh} (h : TR X A env S ss (.ret d σ')) (q : d = d') : TR X A env S ss (.ret d' σ') := q ▸ h

/-- the same names with the same trees -/
inductive Sub1 (f : Str → Option D) : Gam → Prop
  | nil : Sub1 f []
  | cons {x : Str} {d : D} {r : Gam} : f x = some d → Sub1 f r → Sub1 f ((x, d) :: r)
inductive SubO (f : Str → Option (List D)) : Oms → Prop
  | nil : SubO f []
  | cons {x : Str} {d : List D} {r : Oms} : f x = some d → SubO f r → SubO f ((x, d) :: r)
theorem Sub1.get {f : Str → Option D} : ∀ {G : Gam}, Sub1 f G → ∀ x d, G.lookup x = some d → f x = some d
  | _, .cons (x := y) (d := e) h r, x, d, hx => by
    rw [List.lookup_cons, beq_str] at hx
    by_cases q : x = y
    · subst q; simp at hx; subst hx; exact h
    · simp [q] at hx; exact Sub1.get r x d hx
theorem SubO.get {f : Str → Option (List D)} : ∀ {G : Oms}, SubO f G → ∀ x d, G.lookup x = some d → f x = some d
  | _, .cons (x := y) (d := e) h r, x, d, hx => by
    rw [List.lookup_cons, beq_str] at hx
    by_cases q : x = y
    · subst q; simp at hx; subst hx; exact h
    · simp [q] at hx; exact SubO.get r x d hx
theorem St.sub.mk' {S T : St} (hG : Sub1 (fun x => S.G.lookup x) T.G) (hO : SubO (fun x => S.O.lookup x) T.O) (hσ : S.σ = T.σ) : S.sub T := ⟨hG.get, hO.get, hσ⟩
end

/-! text Fw12 -/
section
variable {X : Sys}
section
variable {A : Around} {env : Env} {G : Gam} {O : Oms} {σ σ₁ σ₂ : Gh}
inductive KF (env : Env) : List (Str × NameKind) → Prop
  | nil : KF env []
  | skip {x : Str} {k : NameKind} {r : List (Str × NameKind)} : (k == .free) = false → KF env r → KF env ((x, k) :: r)
  | hit {x : Str} {k : NameKind} {r : List (Str × NameKind)} : (env.cells.lookup x).isSome = true → KF env r → KF env ((x, k) :: r)
theorem KF.get {env : Env} : ∀ {l : List (Str × NameKind)}, KF env l → ∀ p ∈ l, p.2 = .free → (env.cells.lookup p.1).isSome = true
  | _, .skip h r, p, hp, hf => by
    rcases List.mem_cons.mp hp with rfl | hp
    · simp only at hf; subst hf; cases h
    · exact KF.get r p hp hf
  | _, .hit h r, p, hp, hf => by
    rcases List.mem_cons.mp hp with rfl | hp
    · exact h
    · exact KF.get r p hp hf
inductive CapL (G : Gam) (env ie : Env) : Gam → Prop
  | nil : CapL G env ie []
  | cons {x : Str} {e : D} {r : Gam} : G.lookup x = some e → Cap env ie x → CapL G env ie r → CapL G env ie ((x, e) :: r)
theorem CapL.get {G : Gam} {env ie : Env} : ∀ {G' : Gam}, CapL G env ie G' → ∀ x e, G'.lookup x = some e → G.lookup x = some e ∧ Cap env ie x
  | _, .cons (x := y) (e := d) h c r, x, e, hx => by
    rw [List.lookup_cons, beq_str] at hx
    by_cases q : x = y
    · subst q; simp at hx; subst hx; exact ⟨h, c⟩
    · simp [q] at hx; exact CapL.get r x e hx
theorem EF.comp1 (G' : Gam) {elt iter : Expr} {x : Str} {px : Pos} {scope : Scope} {pos : Pos} {n : Nat} {f : Nat → D} {d : Nat → D}
    (hfree : KF env scope.names) (hcell : ∀ y ∈ scope.names, y.2 ≠ .cell) (hkind : scope.kind = .function) (hnames : ∀ y ∈ scope.names, y.2 = .local → scope.names.lookup y.1 = some .local)
    (hcap : ∀ C, CapL G env (ienv scope env C) G') (hx : x ≠ hid) (hx' : G'.lookup x = none) (hl : ∀ C, (ienv scope env C).kindOf x = some .local) (hs : ∀ x, foldedSetIterable iter env x = pure x)
    (hi : IT X A env G O σ (.Name x px) iter n (fun i => .one (f i)) σ) (hn : n ≤ 100000)
    (helt : ∀ C O i, i < n → EV X A (ienv scope env C) (Gset G' x (f i)) O σ elt (d i) σ) :
    EF X A env G O σ (.ListComp elt [⟨.Name x px, iter, [], 0⟩] scope pos) ((List.range n).map d) σ := by
  have := EF.comp (X := X) (A := A) (env := env) (G := G) (O := O) (σ := σ) (G' := G') (elt := elt) (target := .Name x px) (iter := iter) (ifs := []) (scope := scope) (pos := pos) (n := n) (iv := fun i => .one (f i)) (bds := fun i => [(x, .g (f i))])
    (σs := fun _ => σ) (q := fun _ => true) (d := d) hi hn hfree.get hcell hkind hnames (fun C => (hcap C).get) (fun i _ p hp => by rw [List.mem_singleton.mp hp]; exact ⟨hx, hx'⟩)
    (fun C i _ => Tg.one (slL (hl C) hx)) (fun C O i _ => TF.nil) (fun C O i h _ => helt C O i h) (fun i _ h => by cases h) hs
  have e : (List.range n).filter (fun _ => true) = List.range n := List.filter_eq_self.mpr fun _ _ => rfl
  simp only [e] at this
  exact this
end
section
variable {A : Around} {env : Env} {σ₁ σ₂ σ₃ : Gh}
theorem TRq.forN {S₀ : St} (S : Nat → St) {target iter : Expr} {body : List Stmt} {pos : Pos} {n : Nat} {iv : Nat → ID} (bds : Nat → List (Str × Bd)) {ss : List Stmt} {out : Out} (hs : ∀ x, foldedSetIterable iter env x = pure x) (hi : IT X A env S₀.G S₀.O S₀.σ target iter n iv σ₁)
    (h0 : St.sub ⟨S₀.G, S₀.O, σ₁⟩ (S 0)) (ht : ∀ i, i < n → Tg X A env target (iv i) (bds i)) (hb : ∀ i, i < n → TR X A env ((S i).bindAll (bds i)) body (.nx (S (i + 1)))) (k : TR X A env (S n) ss out) :
    TR X A env S₀ (.For target iter body [] pos :: ss) out := TR.cons (TS.forN hi h0 ht hb hs) k
theorem TRq.forEnm {S₀ : St} (S : Nat → St) (ds : List D) {x y : Str} {px py pp qq pc pos : Pos} {kk K : Nat} {e : Expr} {body ss : List Stmt} {out : Out} (Y : X.Good) (hA : Rm K A)
    (hk : env.kindOf "enumerate" = some .globalImplicit) (he : starEach [e] env = (false, eval e env) :: starEach [] env) (hs : ∀ x, foldedSetIterable (.Call (.Name "enumerate" qq) [e] [] pc) env x = pure x) (hx : Slot' env x) (hy : Slot' env y)
    (h : EV X A env S₀.G S₀.O S₀.σ e (.list ds) σ₁) (h0 : St.sub ⟨S₀.G, S₀.O, σ₁⟩ (S 0))
    (hb : ∀ i, i < ds.length → TR X A env ((S i).bindAll [(x, .g (.int i)), (y, .g (ds.getD i .none))]) body (.nx (S (i + 1)))) (k : TR X A env (S ds.length) ss out) :
    TR X A env S₀ (.For (.Tuple [.Name x px, .Name y py] kk pp) (.Call (.Name "enumerate" qq) [e] [] pc) body [] pos :: ss) out :=
  TRq.forN S (fun i => [(x, .g (.int i)), (y, .g (ds.getD i .none))]) hs (ITq.enm Y hA hk he h) h0 (fun i _ => Tg.pair hA.1 hx hy) hb k
theorem TRq.forRng1 {S₀ : St} (S : Nat → St) (n : Nat) {b : Int} {x : Str} {px qq pc pos : Pos} {K : Nat} {e : Expr} {body ss : List Stmt} {out : Out} (Y : X.Good) (hA : Rm K A)
    (hk : env.kindOf "range" = some .globalImplicit) (he : starEach [e] env = (false, eval e env) :: starEach [] env) (hs : ∀ x, foldedSetIterable (.Call (.Name "range" qq) [e] [] pc) env x = pure x) (hx : Slot' env x)
    (h : EV X A env S₀.G S₀.O S₀.σ e (.int b) σ₁) (hn : b.toNat = n) (hb0 : -(2 ^ 60) ≤ b) (hb1 : b ≤ 2 ^ 60) (h0 : St.sub ⟨S₀.G, S₀.O, σ₁⟩ (S 0))
    (hb : ∀ i, i < n → TR X A env ((S i).bindAll [(x, .g (.int i))]) body (.nx (S (i + 1)))) (k : TR X A env (S n) ss out) :
    TR X A env S₀ (.For (.Name x px) (.Call (.Name "range" qq) [e] [] pc) body [] pos :: ss) out := by
  subst hn
  exact TRq.forN S (fun i => [(x, .g (.int i))]) hs (ITq.rng1 Y hA hk he h hb0 hb1) h0 (fun i _ => Tg.one hx) hb k
theorem TRq.forRng2 {S₀ : St} (S : Nat → St) (n : Nat) {a b : Int} {x : Str} {px qq pc pos : Pos} {K : Nat} {e e' : Expr} {body ss : List Stmt} {out : Out} (Y : X.Good) (hA : Rm K A)
    (hk : env.kindOf "range" = some .globalImplicit) (he : starEach [e, e'] env = (false, eval e env) :: starEach [e'] env) (he' : starEach [e'] env = (false, eval e' env) :: starEach [] env)
    (hs : ∀ x, foldedSetIterable (.Call (.Name "range" qq) [e, e'] [] pc) env x = pure x) (hx : Slot' env x)
    (h : EV X A env S₀.G S₀.O S₀.σ e (.int a) σ₁) (h' : EV X A env S₀.G S₀.O σ₁ e' (.int b) σ₂) (hn : (b - a).toNat = n) (ha0 : -(2 ^ 60) ≤ a) (ha1 : a ≤ 2 ^ 60) (hb0 : -(2 ^ 60) ≤ b) (hb1 : b ≤ 2 ^ 60) (h0 : St.sub ⟨S₀.G, S₀.O, σ₂⟩ (S 0))
    (hb : ∀ i, i < n → TR X A env ((S i).bindAll [(x, .g (.int (a + i)))]) body (.nx (S (i + 1)))) (k : TR X A env (S n) ss out) :
    TR X A env S₀ (.For (.Name x px) (.Call (.Name "range" qq) [e, e'] [] pc) body [] pos :: ss) out := by
  subst hn
  exact TRq.forN S (fun i => [(x, .g (.int (a + i)))]) hs (ITq.rng2 Y hA hk he he' h h' ha0 ha1 hb0 hb1) h0 (fun i _ => Tg.one hx) hb k
theorem TRq.forRng3 {S₀ : St} (S : Nat → St) (n : Nat) {a b : Int} {x : Str} {px qq pc pos : Pos} {K : Nat} {e e' e'' : Expr} {body ss : List Stmt} {out : Out} (Y : X.Good) (hA : Rm K A)
    (hk : env.kindOf "range" = some .globalImplicit) (he : starEach [e, e', e''] env = (false, eval e env) :: starEach [e', e''] env) (he' : starEach [e', e''] env = (false, eval e' env) :: starEach [e''] env) (he'' : starEach [e''] env = (false, eval e'' env) :: starEach [] env)
    (hs : ∀ x, foldedSetIterable (.Call (.Name "range" qq) [e, e', e''] [] pc) env x = pure x) (hx : Slot' env x)
    (h : EV X A env S₀.G S₀.O S₀.σ e (.int a) σ₁) (h' : EV X A env S₀.G S₀.O σ₁ e' (.int b) σ₂) (h'' : EV X A env S₀.G S₀.O σ₂ e'' (.int (-1)) σ₃) (hn : (a - b).toNat = n) (ha0 : -(2 ^ 60) ≤ a) (ha1 : a ≤ 2 ^ 60) (hb0 : -(2 ^ 60) ≤ b) (hb1 : b ≤ 2 ^ 60) (h0 : St.sub ⟨S₀.G, S₀.O, σ₃⟩ (S 0))
    (hb : ∀ i, i < n → TR X A env ((S i).bindAll [(x, .g (.int (a - i)))]) body (.nx (S (i + 1)))) (k : TR X A env (S n) ss out) :
    TR X A env S₀ (.For (.Name x px) (.Call (.Name "range" qq) [e, e', e''] [] pc) body [] pos :: ss) out := by
  subst hn
  exact TRq.forN S (fun i => [(x, .g (.int (a - i)))]) hs (ITq.rng3 Y hA hk he he' he'' h h' h'' ha0 ha1 hb0 hb1) h0 (fun i _ => Tg.one hx) hb k
theorem TRq.ifF {S : St} {t : Expr} {body : List Stmt} {pos : Pos} {ss : List Stmt} {out : Out} {b : Bool} (ht : TV X A env S.G S.O S.σ t b) (hb : b = false) (k : TR X A env S ss out) : TR X A env S (.If t body [] pos :: ss) out :=
  TR.cons (TS.ifT ht (fun h => by rw [hb] at h; cases h) fun _ => TR.nil) k
theorem TRq.ifT {S S' : St} {t : Expr} {body orelse : List Stmt} {pos : Pos} {ss : List Stmt} {out : Out} {b : Bool} (ht : TV X A env S.G S.O S.σ t b) (hb : b = true) (h : TR X A env S body (.nx S')) (k : TR X A env S' ss out) : TR X A env S (.If t body orelse pos :: ss) out :=
  TR.cons (TS.ifT ht (fun _ => h) fun h => by rw [hb] at h; cases h) k
theorem TRq.ifR {S : St} {t : Expr} {body orelse : List Stmt} {pos : Pos} {ss : List Stmt} {d : D} {σ : Gh} {b : Bool} (ht : TV X A env S.G S.O S.σ t b) (hb : b = true) (h : TR X A env S body (.ret d σ)) : TR X A env S (.If t body orelse pos :: ss) (.ret d σ) :=
  TR.cons_ret (TS.ifT ht (fun _ => h) fun h => by rw [hb] at h; cases h)
end
end

/-! text Fw13 -/
section
open PySem.Calls
variable {X : Sys} {A : Around} {env : Env} {G : Gam} {O : Oms} {σ σ₁ σ₂ σ₃ : Gh}

/-- a hole's list is changed -/
theorem FS.hole {b : Addr} {c₀ c c' : Wd} {s₀ s : Shared} (F : FS X c₀ s₀ env G O c s) (hb : c.hole b) {h' : Heap} {tk : Nat} {vs' : Array Value} {n' : Nat} (hn : h'.get? b = some (listO vs' n')) (hs : Heap.SameBut b s.heap h')
    (hf : c'.f = c.f) (hle : Wd.le c c') (hpool : ∀ a v, c'.pool = some (a, v) → ∃ t n, h'.get? a = some (listO #[v, .int c'.g.1 t] n))
    (hmat : ∀ a rs, c'.mat = some (a, rs) → (∃ n, h'.get? a = some (listO (rs.map Value.ref).toArray n)) ∧ rs.Nodup ∧ a ∉ rs ∧ RowsAt h' rs c'.g.2)
    (hap : ∀ a v m rs, c'.pool = some (a, v) → c'.mat = some (m, rs) → a ≠ m ∧ a ∉ rs) (hm0 : c'.g.2 = [] → c'.mat = none) :
    FS X c₀ s₀ env G O c' { s with heap := h', toks := tk } ∧ Rl c s c' { s with heap := h', toks := tk } := by
  have K := F.ok
  obtain ⟨hc, vs, n, hl⟩ := K.hole hb
  obtain ⟨m, ol, B⟩ := F.body
  have keep : ∀ b' o, b' ≠ b → s.heap.get? b' = some o → h'.get? b' = some o := fun b' o q e => (hs.2 b' q).trans e
  have nsne : env.locals ≠ b := by
    intro e; obtain ⟨o', es, ep, h3, h4, _⟩ := B.ns
    rw [e, hl] at h3; cases h3; cases h4
  have cellne : ∀ a v, s.heap.IsCell a v → a ≠ b := by
    intro a v ⟨o, h1, h2⟩ e; rw [e, hl] at h1; cases h1; cases h2
  have atk : ∀ y w, At m env s.heap y w → At m env h' y w := fun y w q => by
    rcases q with q | ⟨k, a, e, n⟩
    · exact .inl q
    · exact .inr ⟨k, a, e, n.sameBut hs (cellne _ _ n)⟩
  have fne : ∀ b' o, c.f b' = some o → b' ≠ b := fun b' o e q => by rw [q, hc] at e; cases e
  have hn' : ∀ b', c'.hole b' → c'.f b' = none := fun b' h => by rw [hf]; exact (K.hole ((hle.hole b').mp h)).1
  refine ⟨⟨⟨?_, F.ext.le.trans hle, fun b' o e => F.ext.fresh b' o (hf ▸ e), ?_⟩, F.kind, F.glo, F.blt, F.base₀, F.new, fun y a ha => ?_, F.cellsApart, m, ol, B.ns.sameBut hs nsne, fun y d h => ?_, fun y es h => ?_, B.apart⟩, ⟨fun b' o e => by rw [hf]; exact e, fun _ _ r => r.mono hle, fun b' o e i => ?_⟩⟩
  · obtain ⟨⟨h1, t1, e1⟩, a1, l1⟩ := F.ext.keeps
    refine ⟨⟨h', tk, by rw [e1]⟩, fun b' o nh e => keep b' o (fun q => nh ((F.ext.le.hole b').mp (q ▸ hb))) (a1 b' o nh e), fun b' e => ?_⟩
    by_cases q : b' = b
    · subst q; have : h'.get? b' = none := e; rw [hn] at this; cases this
    · exact l1 b' (by rw [← hs.2 b' q]; exact e)
  · refine ⟨fun b' o e => keep b' o (fun q => ?_) (K.base b' o e), fun b' o e => by rw [hf]; exact K.c0 b' o e, fun b' o e => ?_, fun a v e => ?_, fun a rs e => ?_, hap, fun b' h => K.hb b' ((hle.hole b').mp h), hm0⟩
    · have := K.hb b hb; rw [← q, e] at this; cases this
    · rw [hf] at e; exact ⟨keep b' o (fne b' o e) (K.wd b' o e).1, (K.wd b' o e).2⟩
    · have e' := hle.pool ▸ e
      exact ⟨hn' a (.inl ⟨v, e⟩), (K.pool a v e').2.1.mono hle, hpool a v e⟩
    · obtain ⟨p, q, r, t⟩ := hmat a rs e
      exact ⟨hn' a (.inr (.inl ⟨rs, e⟩)), p, q, r, fun r' hr' => hn' r' (.inr (.inr ⟨a, rs, e, hr'⟩)), t⟩
  · obtain ⟨v, o, h1, h2⟩ := (F.cells y a ha).2
    exact ⟨(F.cells y a ha).1, v, o, keep _ _ (cellne a v ⟨o, h1, h2⟩) h1, h2⟩
  · obtain ⟨v, l, r⟩ := B.names y d h; exact ⟨v, atk _ _ l, r.mono hle⟩
  · obtain ⟨a, p, t, u, vs₁, k, z, r₁⟩ := B.own y es h
    exact ⟨a.map (atk _ _), by rw [hf]; exact p, fun h => t ((hle.hole _).mp h), u, vs₁, k, keep _ _ (fun e => t (e ▸ hb)) z, r₁.mono hle⟩
  · refine keep b' o (fun q => ?_) e
    rw [q, hl] at e; cases e; exact i

theorem Rep.pool_inv {c : Wd} {v : Value} (h : Rep c v .pool) : ∃ a w, v = .ref a ∧ c.pool = some (a, w) := by cases h; exact ⟨_, _, rfl, by assumption⟩
theorem Rep.mat_inv {c : Wd} {v : Value} (h : Rep c v .mat) : ∃ a rs, v = .ref a ∧ c.mat = some (a, rs) := by cases h; exact ⟨_, _, rfl, by assumption⟩

theorem EVq.pool1 {x : Str} {p pos : Pos} {idx : Expr} (hx : G.lookup x = some .pool) (hd : (x == ("__debug__" : Str)) = false) (hi : EV X A env G O σ idx (.int 1) σ) : EV X A env G O σ (.Subscript (.Name x p) idx pos) (.int σ.1) σ := .mk fun c₀ s₀ c s F hg => by
  obtain ⟨m, ol, B⟩ := F.body
  obtain ⟨v, l, r⟩ := B.names x _ hx
  obtain ⟨a, w, rfl, ep⟩ := r.pool_inv
  refine Subscript_ (wpAny_name_at F.kind B.ns l ?_ hd)
  refine wpAny_mono (hi.run c₀ s₀ c s F hg) (fun v₂ s₂ ⟨c₂, e₂, r₂, g₂⟩ => ?_) fun _ _ x => x
  obtain ⟨t, rfl⟩ := r₂.int_inv
  obtain ⟨_, _, u, n, hl⟩ := e₂.ok.pool a w (e₂.le.pool.trans ep)
  refine tail_get ⟨_, hl, rfl⟩ slot_list_getitem.lookup (wpAny_getItem_list ⟨_, hl, rfl, _, rfl⟩ (by decide) (by decide) (x := .int c₂.g.1 u) rfl ⟨c₂, e₂, ?_, g₂⟩)
  rw [g₂]; exact .int _ _
theorem EVq.pool0 {x : Str} {p pos : Pos} {idx : Expr} (hx : G.lookup x = some .pool) (hd : (x == ("__debug__" : Str)) = false) (hi : EV X A env G O σ idx (.int 0) σ) : EV X A env G O σ (.Subscript (.Name x p) idx pos) (.list (X.scr.map D.int)) σ := .mk fun c₀ s₀ c s F hg => by
  obtain ⟨m, ol, B⟩ := F.body
  obtain ⟨v, l, r⟩ := B.names x _ hx
  obtain ⟨a, w, rfl, ep⟩ := r.pool_inv
  refine Subscript_ (wpAny_name_at F.kind B.ns l ?_ hd)
  refine wpAny_mono (hi.run c₀ s₀ c s F hg) (fun v₂ s₂ ⟨c₂, e₂, r₂, g₂⟩ => ?_) fun _ _ x => x
  obtain ⟨t, rfl⟩ := r₂.int_inv
  obtain ⟨_, hw, u, n, hl⟩ := e₂.ok.pool a w (e₂.le.pool.trans ep)
  exact tail_get ⟨_, hl, rfl⟩ slot_list_getitem.lookup (wpAny_getItem_list ⟨_, hl, rfl, _, rfl⟩ (by decide) (by decide) (x := w) rfl ⟨c₂, e₂, hw, g₂⟩)
/-- pool[1] = value -/
theorem TS.poolPut {S : St} {x : Str} {px p pos : Pos} {idx value : Expr} (hx : S.G.lookup x = some .pool) (hv : EV X A env S.G S.O S.σ value (.int (S.σ.1 + 1)) S.σ) (hi : EV X A env S.G S.O S.σ idx (.int 1) S.σ)
    (hs : swapsWith value (some (.Subscript (.Name x px) idx p)) pos.line env = pure false) (hd : (x == ("__debug__" : Str)) = false) :
    TS X A env S (.Assign [.Subscript (.Name x px) idx p] value pos) (.nx ⟨S.G, S.O, (S.σ.1 + 1, S.σ.2)⟩) := .mk fun c₀ s₀ c s F hg => by
  refine wpAny_Assign_Subscript (wpAny_mono (hv.run c₀ s₀ c s F hg) (fun v s₁ ⟨c₁, e₁, r₁, g₁⟩ => ?_) fun _ _ x => x) hs
  have F₁ := F.step e₁
  obtain ⟨m, ol, B⟩ := F₁.body
  obtain ⟨v', l, r⟩ := B.names x _ hx
  obtain ⟨a, w, rfl, ep⟩ := r.pool_inv
  refine wpAny_name_at F.kind B.ns l ?_ hd
  refine wpAny_mono (hi.run c₀ s₀ c₁ s₁ F₁ g₁) (fun iv s₂ ⟨c₂, e₂, r₂, g₂⟩ => ?_) fun _ _ x => x
  obtain ⟨t, rfl⟩ := r₂.int_inv
  obtain ⟨t', rfl⟩ := r₁.int_inv
  have F₂ := F₁.step e₂
  have ep₂ := e₂.le.pool.trans ep
  have K := F₂.ok
  obtain ⟨_, hw, u, n, hl⟩ := K.pool a w ep₂
  have hole : c₂.hole a := .inl ⟨w, ep₂⟩
  refine setItem_exact hl (by decide) (by decide) (by simp) fun h' hl' hs' => ?_
  have hle : Wd.le c₂ { c₂ with g := (c₂.g.1 + 1, c₂.g.2) } := ⟨fun _ _ e => e, rfl, rfl, fun _ => Iff.rfl⟩
  have hp : ∀ a' v', c₂.pool = some (a', v') → ∃ t n, h'.get? a' = some (listO #[v', .int ((c₂.g.1 + 1 : Nat) : Int) t] n) := fun a' v' e => by
    have : (a, w) = (a', v') := Option.some.inj (ep₂.symm.trans e)
    cases this
    refine ⟨t', n, ?_⟩
    rw [hl']
    have e1 : ((S.σ.1 : Nat) : Int) + 1 = ((c₂.g.1 + 1 : Nat) : Int) := by rw [g₂]; omega
    rw [← e1]; rfl
  have hm : ∀ a' rs, c₂.mat = some (a', rs) → (∃ n, h'.get? a' = some (listO (rs.map Value.ref).toArray n)) ∧ rs.Nodup ∧ a' ∉ rs ∧ RowsAt h' rs c₂.g.2 := fun a' rs e => by
    obtain ⟨_, ⟨n', q⟩, t1, u1, _, z⟩ := K.mat a' rs e
    obtain ⟨h1, h2⟩ := K.apart a w a' rs ep₂ e
    exact ⟨⟨n', (hs'.2 a' h1.symm).trans q⟩, t1, u1, z.keeps fun b hb o e => (hs'.2 b (fun q => h2 (q ▸ hb))).trans e⟩
  obtain ⟨F', k⟩ := F₂.hole (c' := { c₂ with g := (c₂.g.1 + 1, c₂.g.2) }) hole (tk := s₂.toks) hl' hs' rfl hle hp hm K.apart K.m0
  refine Post.nx F' ?_ (((e₁.rl F.ok).trans (e₂.rl e₁.ok)).trans k)
  show (c₂.g.1 + 1, c₂.g.2) = _
  rw [g₂]
end

/-! text Fw14 -/
section
open PySem.Calls
variable {X : Sys} {A : Around} {env : Env} {G : Gam} {O : Oms} {σ σ₁ σ₂ σ₃ : Gh}

noncomputable def get2 (M : List (List Int)) (r c : Nat) : Int := (M.getD r []).getD c 0
noncomputable def put2 (M : List (List Int)) (r c : Nat) (v : Int) : List (List Int) := M.set r ((M.getD r []).set c v)

theorem RowsAt.length {h : Heap} : ∀ {rs : List Addr} {M : List (List Int)}, RowsAt h rs M → rs.length = M.length
  | _, _, .nil => rfl
  | _, _, .cons _ _ r => congrArg (· + 1) (RowsAt.length r)
theorem RowsAt.at {h : Heap} : ∀ {rs : List Addr} {M : List (List Int)}, RowsAt h rs M → ∀ {i : Nat}, i < M.length → ∃ r vs n, rs[i]? = some r ∧ h.get? r = some (listO vs.toArray n) ∧ IntsAre vs (M.getD i [])
  | _, _, .cons e a r, 0, _ => ⟨_, _, _, rfl, e, by simpa using a⟩
  | _, _, .cons e a r, i + 1, hi => by
    obtain ⟨r', vs, n, h1, h2, h3⟩ := RowsAt.at r (i := i) (by simpa using hi)
    exact ⟨r', vs, n, by simpa using h1, h2, by simpa using h3⟩
theorem IntsAre.getI : ∀ {vs : List Value} {is : List Int}, IntsAre vs is → ∀ {j : Nat}, j < is.length → ∃ t, vs[j]? = some (.int (is.getD j 0) t)
  | _, _, h, j, hj => by
    induction h generalizing j with
    | nil => simp at hj
    | cons n t r ih =>
      cases j with
      | zero => exact ⟨_, by simp; rfl⟩
      | succ j => simpa using ih j (by simpa using hj)
theorem IntsAre.setI : ∀ {vs : List Value} {is : List Int}, IntsAre vs is → ∀ (j : Nat) (x : Int) (t : Tok), IntsAre (vs.set j (.int x t)) (is.set j x) := by
  intro vs is h
  induction h with
  | nil => intro j x t; simpa using IntsAre.nil
  | cons n t' r ih =>
    intro j x t
    cases j with
    | zero => exact .cons x t r
    | succ j => exact .cons n t' (ih j x t)
theorem IntsAre.lenI {vs : List Value} {is : List Int} (h : IntsAre vs is) : vs.length = is.length := by
  induction h with
  | nil => rfl
  | cons n t r ih => simp [ih]
/-- one row's object is changed -/
theorem RowsAt.set {h h' : Heap} : ∀ {rs : List Addr} {M : List (List Int)}, RowsAt h rs M → rs.Nodup → ∀ {i : Nat} {r : Addr} {vs : List Value} {is : List Int} {n : Nat}, rs[i]? = some r → h'.get? r = some (listO vs.toArray n) → IntsAre vs is →
    (∀ b, b ≠ r → ∀ o, h.get? b = some o → h'.get? b = some o) → RowsAt h' rs (M.set i is)
  | _, _, .nil, _, i, r, vs, is, n, e, _, _, _ => by simp at e
  | _, _, .cons (r := r₀) e₀ a₀ rest, hn, 0, r, vs, is, n, e, hr, ha, hk => by
    simp at e; subst e
    have hn' := List.nodup_cons.mp hn
    exact .cons hr ha (rest.keeps fun b hb o eo => hk b (fun q => hn'.1 (q ▸ hb)) o eo)
  | _, _, .cons (r := r₀) e₀ a₀ rest, hn, i + 1, r, vs, is, n, e, hr, ha, hk => by
    have hn' := List.nodup_cons.mp hn
    rw [List.getElem?_cons_succ] at e
    refine .cons (hk r₀ (fun q => ?_) _ e₀) a₀ (RowsAt.set rest hn'.2 e hr ha hk)
    subst q
    exact hn'.1 (List.mem_of_getElem? e)

theorem EVq.mat2 {x : Str} {p pi po : Pos} {r cix : Expr} {i j : Nat} (hx : G.lookup x = some .mat) (hd : (x == ("__debug__" : Str)) = false) (hr : EV X A env G O σ r (.int i) σ) (hc : EV X A env G O σ cix (.int j) σ)
    (hi : i < σ.2.length) (hj : j < (σ.2.getD i []).length) (hb : σ.2.length ≤ 1000) (hb' : (σ.2.getD i []).length ≤ 1000) :
    EV X A env G O σ (.Subscript (.Subscript (.Name x p) r pi) cix po) (.int (get2 σ.2 i j)) σ := .mk fun c₀ s₀ c s F hg => by
  obtain ⟨m, ol, B⟩ := F.body
  obtain ⟨v, l, rv⟩ := B.names x _ hx
  obtain ⟨a, rs, rfl, em⟩ := rv.mat_inv
  refine Subscript_ (Subscript_ (wpAny_name_at F.kind B.ns l ?_ hd))
  refine wpAny_mono (hr.run c₀ s₀ c s F hg) (fun v₂ s₂ ⟨c₂, e₂, r₂, g₂⟩ => ?_) fun _ _ x => x
  obtain ⟨t, rfl⟩ := r₂.int_inv
  have em₂ := e₂.le.mat.trans em
  obtain ⟨_, ⟨n, hl⟩, _, _, _, R⟩ := e₂.ok.mat a rs em₂
  rw [g₂] at R
  have hlen := R.length
  obtain ⟨ra, vs, nn, h1, h2, h3⟩ := R.at hi
  refine tail_get ⟨_, hl, rfl⟩ slot_list_getitem.lookup (wpAny_getItem_list ⟨_, hl, rfl, _, rfl⟩ (by omega) (by omega) (x := .ref ra) (by simp [h1]) ?_)
  refine wpAny_mono (hc.run c₀ s₀ c₂ s₂ (F.step e₂) g₂) (fun v₃ s₃ ⟨c₃, e₃, r₃, g₃⟩ => ?_) fun _ _ x => x
  obtain ⟨u, rfl⟩ := r₃.int_inv
  have em₃ := e₃.le.mat.trans em₂
  obtain ⟨_, _, _, _, _, R₃⟩ := e₃.ok.mat a rs em₃
  rw [g₃] at R₃
  obtain ⟨ra', vs', nn', h1', h2', h3'⟩ := R₃.at hi
  rw [h1] at h1'; cases h1'
  obtain ⟨t', e'⟩ := IntsAre.getI h3' hj
  exact tail_get ⟨_, h2', rfl⟩ slot_list_getitem.lookup (wpAny_getItem_list ⟨_, h2', rfl, _, rfl⟩ (by omega) (by omega) (x := .int (get2 σ.2 i j) t') (by simpa [get2] using e') ⟨c₃, e₂.trans e₃, .int _ _, g₃⟩)
theorem EVq.matLen {x : Str} {p pp pos : Pos} (Y : X.Good) (hx : G.lookup x = some .mat) (hd : (x == ("__debug__" : Str)) = false) (hk : env.kindOf "len" = some .globalImplicit) (he : starEach [.Name x pp] env = (false, eval (.Name x pp) env) :: starEach [] env) (hb : σ.2.length ≤ 1000) :
    EV X A env G O σ (.Call (.Name "len" p) [.Name x pp] [] pos) (.int σ.2.length) σ := .mk fun c₀ s₀ c s F hg => by
  refine Call_ (builtinName Y F hk (Y.free _ (by simp)) rfl (by decide) ?_)
  obtain ⟨m, ol, B⟩ := F.body
  obtain ⟨v, l, rv⟩ := B.names x _ hx
  obtain ⟨a, rs, rfl, em⟩ := rv.mat_inv
  refine callWith_builtin1 (args_cons (wpAny_name_at F.kind B.ns l (args_nil ?_) hd) he) he
  obtain ⟨_, ⟨n, hl⟩, _, _, _, R⟩ := F.ok.mat a rs em
  rw [hg] at R
  have hlen := R.length
  refine call_len_list ⟨_, hl, rfl, _, rfl⟩ (by simp; omega) ⟨c, .same F.ok (Keeps.tok' _ _), ?_, hg⟩
  have := Rep.int (c := c) (σ.2.length : Int) (s.toks + 1)
  simpa [hlen] using this
/-- a[r][c] = value -/
theorem TS.matPut {S : St} {x : Str} {p pi po pos : Pos} {r cix value : Expr} {i j : Nat} {w : Int} (hx : S.G.lookup x = some .mat) (hd : (x == ("__debug__" : Str)) = false) (hv : EV X A env S.G S.O S.σ value (.int w) S.σ) (hr : EV X A env S.G S.O S.σ r (.int i) S.σ) (hc : EV X A env S.G S.O S.σ cix (.int j) S.σ)
    (hi : i < S.σ.2.length) (hj : j < (S.σ.2.getD i []).length) (hb : S.σ.2.length ≤ 1000) (hb' : (S.σ.2.getD i []).length ≤ 1000)
    (hs : swapsWith value (some (.Subscript (.Subscript (.Name x p) r pi) cix po)) pos.line env = pure false) :
    TS X A env S (.Assign [.Subscript (.Subscript (.Name x p) r pi) cix po] value pos) (.nx ⟨S.G, S.O, (S.σ.1, put2 S.σ.2 i j w)⟩) := .mk fun c₀ s₀ c s F hg => by
  refine wpAny_Assign_Subscript (wpAny_mono (hv.run c₀ s₀ c s F hg) (fun v s₁ ⟨c₁, e₁, r₁, g₁⟩ => ?_) fun _ _ x => x) hs
  obtain ⟨tw, rfl⟩ := r₁.int_inv
  have F₁ := F.step e₁
  obtain ⟨m, ol, B⟩ := F₁.body
  obtain ⟨v, l, rv⟩ := B.names x _ hx
  obtain ⟨a, rs, rfl, em⟩ := rv.mat_inv
  refine Subscript_ (wpAny_name_at F.kind B.ns l ?_ hd)
  refine wpAny_mono (hr.run c₀ s₀ c₁ s₁ F₁ g₁) (fun v₂ s₂ ⟨c₂, e₂, r₂, g₂⟩ => ?_) fun _ _ x => x
  obtain ⟨t, rfl⟩ := r₂.int_inv
  have em₂ := e₂.le.mat.trans em
  obtain ⟨_, ⟨n, hl⟩, _, _, _, R⟩ := e₂.ok.mat a rs em₂
  rw [g₂] at R
  have hlen := R.length
  obtain ⟨ra, vs, nn, h1, h2, h3⟩ := R.at hi
  refine tail_get ⟨_, hl, rfl⟩ slot_list_getitem.lookup (wpAny_getItem_list ⟨_, hl, rfl, _, rfl⟩ (by omega) (by omega) (x := .ref ra) (by simp [h1]) ?_)
  refine wpAny_mono (hc.run c₀ s₀ c₂ s₂ (F₁.step e₂) g₂) (fun v₃ s₃ ⟨c₃, e₃, r₃, g₃⟩ => ?_) fun _ _ x => x
  obtain ⟨u, rfl⟩ := r₃.int_inv
  have F₃ := (F₁.step e₂).step e₃
  have em₃ := e₃.le.mat.trans em₂
  have K := F₃.ok
  obtain ⟨hcf, ⟨n₃, hl₃⟩, nd, na, nf, R₃⟩ := K.mat a rs em₃
  rw [g₃] at R₃
  obtain ⟨ra', vs', nn', h1', h2', h3'⟩ := R₃.at hi
  rw [h1] at h1'; cases h1'
  have hl' := IntsAre.lenI h3'
  have hmem : ra ∈ rs := List.mem_of_getElem? h1
  refine setItem_exact (k := (j : Int)) h2' (Int.natCast_nonneg j) (by omega) (by rw [List.size_toArray]; omega) fun h' hl'' hs' => ?_
  rw [set_list, Int.toNat_natCast] at hl''
  have hne : put2 S.σ.2 i j w ≠ [] := by
    unfold put2; intro e
    have := congrArg List.length e
    rw [List.length_set, List.length_nil] at this; omega
  have hle : Wd.le c₃ { c₃ with g := (c₃.g.1, put2 S.σ.2 i j w) } := ⟨fun _ _ e => e, rfl, rfl, fun _ => Iff.rfl⟩
  have hp : ∀ a' v', c₃.pool = some (a', v') → ∃ t n, h'.get? a' = some (listO #[v', .int c₃.g.1 t] n) := fun a' v' e => by
    obtain ⟨_, _, t, n, z⟩ := K.pool a' v' e
    have := (K.apart a' v' a rs e em₃).2
    exact ⟨t, n, (hs'.2 a' (fun q => this (q ▸ hmem))).trans z⟩
  have hm : ∀ a' rs', c₃.mat = some (a', rs') → (∃ n, h'.get? a' = some (listO (rs'.map Value.ref).toArray n)) ∧ rs'.Nodup ∧ a' ∉ rs' ∧ RowsAt h' rs' (put2 S.σ.2 i j w) := fun a' rs' e => by
    rw [em₃] at e; cases e
    exact ⟨⟨n₃, (hs'.2 a (fun q => na (q ▸ hmem))).trans hl₃⟩, nd, na, R₃.set nd h1 hl'' (IntsAre.setI h3' j w tw) (fun b hb o e => (hs'.2 b hb).trans e)⟩
  obtain ⟨F', k⟩ := F₃.hole (c' := { c₃ with g := (c₃.g.1, put2 S.σ.2 i j w) }) (.inr (.inr ⟨a, rs, em₃, hmem⟩)) (tk := s₃.toks) hl'' hs' rfl hle hp hm K.apart (fun e => (hne e).elim)
  refine Post.nx F' ?_ ((((e₁.rl F.ok).trans (e₂.rl e₁.ok)).trans (e₃.rl e₂.ok)).trans k)
  show (c₃.g.1, put2 S.σ.2 i j w) = _
  rw [g₃]
end

/-! text Fw15 -/
section
open PySem.Calls PySem.SeqAt

variable {X : Sys} {A : Around} {env : Env} {G : Gam} {O : Oms} {σ σ₁ σ₂ σ₃ σ₄ : Gh}

/-- the comprehension with a bare name as its target, without tests; K: what else is kept -/
theorem comp_core {G' : Gam} {elt iter : Expr} {x : Str} {px : Pos} {scope : Scope} {pos pq : Pos} {n : Nat} {f : Nat → D} {use : Option (Value → Sem Unit)} {Q : Value → Shared → Prop}
    {c₀ c : Wd} {s₀ s : Shared} (F : FS X c₀ s₀ env G O c s) (hg : c.g = σ) (K : Addr → Nat → List D → Wd → Shared → Prop)
    (hi : IT X A env G O σ (.Name x px) iter n (fun i => .one (f i)) σ₁) (hn : n ≤ 100000)
    (hfree : ∀ p ∈ scope.names, p.2 = .free → (env.cells.lookup p.1).isSome = true) (hcell : ∀ y ∈ scope.names, y.2 ≠ .cell) (hkind : scope.kind = .function)
    (hnames : ∀ y ∈ scope.names, y.2 = .local → scope.names.lookup y.1 = some .local)
    (hcap : ∀ C x e, G'.lookup x = some e → G.lookup x = some e ∧ Cap env (ienv scope env C) x)
    (hx : x ≠ hid) (hx' : G'.lookup x = none) (hl : ∀ C, (ienv scope env C).kindOf x = some .local)
    (h0 : ∀ D c' s', Ext X c s c' s' → c'.g = σ₁ → s.heap.get? D = none → K D 0 [] c' s')
    (hmv : ∀ D i acc c' s' s'' wr, K D i acc c' s' → Mv wr s' s'' → (∀ b ∈ wr, ∃ o, s'.heap.get? b = some o ∧ Itr o) → K D i acc c' s'')
    (hwr : ∀ D i acc c' s' s'', K D i acc c' s' → Wrote s' s'' → K D i acc c' s'')
    (hlen : ∀ D i acc c' s', K D i acc c' s' → acc.length = i)
    (helt : ∀ D C i acc c' s', i < n → K D i acc c' s' → FS X c s (ienv scope env C) (Gset G' x (f i)) [(hid, acc)] c' s' → s'.heap.get? D ≠ none →
      wpAny (model X.prog X.w) A (eval elt (ienv scope env C)) (fun v s'' => ∃ c'' d, Ext X c' s' c'' s'' ∧ Rep c'' v d ∧
        ∀ h' tk, Heap.SameBut D s''.heap h' → K D (i + 1) (acc ++ [d]) c'' { s'' with heap := h', toks := tk }) (fun _ _ => False) s')
    (fin : ∀ D C s' c' acc, s.heap.get? D = none → s.heap.get? C = none → D ≠ C → FS X c s (ienv scope env C) G' [(hid, acc)] c' s' → D + 1 = C → K D n acc c' s' → compPost (model X.prog X.w) A (fun _ _ => False) use Q (.ref D) C (.ok .next) s')
    (hs : ∀ x, foldedSetIterable iter env x = pure x) :
    wpAny (model X.prog X.w) A (comprehension (.ListComp elt [⟨.Name x px, iter, [], 0⟩] scope pos) scope env pq (newList []) false (eval iter env) use) Q (fun _ _ => False) s := by
  refine wpAny_comprehension_free (use := use) rfl hs (closure_of hfree) hkind hnames (wpAny_mono (hi.run c₀ s₀ c s F hg) (fun xv s₁ h₁ => wpAny_mono h₁ (fun it s₂ h₂ => ?_) fun _ _ e => e) fun _ _ e => e)
  obtain ⟨I, c₂, wr, J, rfl, e₂, g₂, T, j₂, hw⟩ := h₂
  refine wpAny_newObj_type (wpAny_newFunctionEnv hcell (by intro y hy; simp at hy) (fun h₁ hns₁ hsb₁ => ?_) hkind)
  dsimp only at hns₁ hsb₁ ⊢
  generalize hH2 : s₂.heap.push { cls := .type "list", dict := none, data := .seq ([] : List Value).toArray } = H2 at hns₁ hsb₁ ⊢
  have hC : H2.objs.size = s₂.heap.objs.size + 1 := by rw [← hH2, Heap.size_push]
  have hDC : s₂.heap.objs.size ≠ H2.objs.size := by rw [hC]; exact Nat.ne_of_lt (Nat.lt_succ_self _)
  have old : ∀ b o, s₂.heap.get? b = some o → h₁.get? b = some o := fun b o e => hsb₁.extBut b o (Nat.ne_of_lt (Nat.lt_trans (Heap.lt_size e) (by rw [hC]; exact Nat.lt_succ_self _))) (Heap.get?_push_of_some _ (hH2 ▸ Heap.get?_push_of_some _ e))
  have hD : h₁.get? s₂.heap.objs.size = some (listO ([] : List Value).toArray 0) := hsb₁.extBut _ _ hDC (Heap.get?_push_of_some _ (hH2 ▸ Heap.get?_push_size _ rfl))
  have fresh2 : ∀ a, s₂.heap.objs.size ≤ a → s₂.heap.get? a = none := fun a ha => Heap.get?_none_of_le ha
  have fresh : ∀ a, s₂.heap.objs.size ≤ a → s.heap.get? a = none := fun a ha => e₂.keeps.live a (fresh2 a ha)
  have k₃ : Keeps s₂ { s₂ with heap := h₁, toks := s₂.toks + ([] : List (Str × Value)).length } := ⟨h₁, _, rfl, old⟩
  generalize hs3 : ({ s₂ with heap := h₁, toks := s₂.toks + ([] : List (Str × Value)).length } : Shared) = s₃ at k₃ ⊢
  have e₃ := Ext.same e₂.ok k₃
  have hh₁ : s₃.heap = h₁ := by rw [← hs3]
  rw [← hh₁] at hD hns₁
  have FO := F.step (e₂.trans e₃)
  obtain ⟨mO, olO, BO⟩ := FO.body
  have hCz : (ienv scope env H2.objs.size).locals = s₂.heap.objs.size + 1 := hC
  have FI : FS X c s (ienv scope env H2.objs.size) G' [(hid, [])] c₂ s₃ := by
    refine ⟨e₂.trans e₃, hkind, F.glo, F.blt, F.ok.base, fresh _ (by show s₂.heap.objs.size ≤ H2.objs.size; omega), fun x a h => ⟨fun hf => (hf rfl).elim, ?_⟩, fun x y a hx hy => F.cellsApart x y a (clOf_lookup hfree _ _ hx) (clOf_lookup hfree _ _ hy),
      _, fun _ => s₂.heap.objs.size, hns₁, fun x e h => ?_, fun y es h => ?_, fun y es y' es' h h' _ => ?_⟩
    · exact (FO.cells x a (clOf_lookup hfree _ _ h)).2
    · obtain ⟨hG, k1, k2, k3⟩ := hcap H2.objs.size x e h
      obtain ⟨v, l, r⟩ := BO.names x e hG
      refine ⟨v, .inr ⟨k2, ?_⟩, r⟩
      rcases l with ⟨k, _⟩ | ⟨_, a, ea, n⟩
      · rcases k1 with k1 | ⟨k1, _⟩ <;> rw [k] at k1 <;> cases k1
      · exact ⟨a, k3.trans ea, n⟩
    · rw [List.lookup_cons, beq_str] at h
      by_cases z : y = hid
      · simp [z] at h; subst h
        exact ⟨.inl ⟨z, hCz.symm⟩, e₂.ok.fnone (fresh2 _ (Nat.le_refl _)), e₂.ok.nhole (fresh2 _ (Nat.le_refl _)), fresh _ (Nat.le_refl _), [], 0, hD, .nil⟩
      · simp [z] at h
    · rw [List.lookup_cons, beq_str] at h h'
      by_cases z : y = hid
      · by_cases z' : y' = hid
        · rw [z, z']
        · simp [z'] at h'
      · simp [z] at h
  have j₃ : J 0 c₂ s₃ := T.step _ _ _ _ _ j₂ (e₃.rl e₂.ok)
  have k₀ : K s₂.heap.objs.size 0 [] c₂ s₃ := h0 _ _ _ (e₂.trans e₃) g₂ (fresh _ (Nat.le_refl _))
  have loop : ∀ j₃ : J 0 c₂ s₃, codeAny (model X.prog X.w) A (.compLoop (.ListComp elt [⟨.Name x px, iter, [], 0⟩] scope pos) 0 (.ref I) (.ref s₂.heap.objs.size) (ienv scope env H2.objs.size))
      (compPost (model X.prog X.w) A (fun _ _ => False) use Q (.ref s₂.heap.objs.size) H2.objs.size) s₃ := by
    intro j₃
    refine compLoop_any (fun k s' => ∃ i c' acc, k = n - i ∧ i ≤ n ∧ FS X c s (ienv scope env H2.objs.size) G' [(hid, acc)] c' s' ∧ K s₂.heap.objs.size i acc c' s' ∧ J i c' s') ?_ n
      ⟨0, c₂, [], rfl, Nat.zero_le _, FI, k₀, j₃⟩
    rintro k s' ⟨i, c', acc, rfl, hin, F', g', j'⟩
    rcases Nat.lt_or_ge i n with h | h
    · refine wpAny_mono (T.next i c' s' h F'.ok j') (fun r s₄ ⟨v, e, h₄⟩ => ?_) fun _ _ x => x
      subst e
      refine wpAny_mono h₄ (fun _ s₅ ⟨mv, j₅, iv₅⟩ => ?_) fun _ _ x => x
      have F₅ := F'.moved mv (T.itrs i c' s' j') hw
      have g₅ := hmv _ _ _ _ _ _ _ g' mv (T.itrs i c' s' j')
      obtain ⟨m₅, ol₅, B₅⟩ := F₅.body
      refine wpAny_assign_Name (store_any (b := .g (f i)) (σ := σ) F₅ B₅ (slL (hl _) hx) iv₅ fun s₆ m₆ ol₆ w₆ F₆ _ _ _ => ?_)
      have g₆ := hwr _ _ _ _ _ _ g₅ w₆
      have F₆' : FS X c s (ienv scope env H2.objs.size) (Gset G' x (f i)) [(hid, acc)] c' s₆ := F₆.sub (fun y e hy => hy) (fun y e hy => by
        rw [List.lookup_cons, beq_str] at hy
        by_cases z : y = hid
        · simp [z] at hy; subst hy
          show (Odel [(hid, acc)] x).lookup y = _
          rw [Odel_lookup, z, if_neg (Ne.symm hx)]; simp
        · simp [z] at hy)
      refine wpAny_tests_nil ?_
      rw [if_pos rfl]
      have hol : ∀ {c' s'} {G'' : Gam} {m ol}, FB (ienv scope env H2.objs.size) G'' [(hid, acc)] s c' s' m ol → ol hid = s₂.heap.objs.size := fun B => by
        rcases (B.own hid acc rfl).1 with ⟨_, z⟩ | ⟨z, _⟩
        · rw [hCz] at z; exact Nat.succ.inj z
        · exact (z rfl).elim
      have hDs : s₆.heap.get? s₂.heap.objs.size ≠ none := by
        obtain ⟨m, ol, B⟩ := F₆'.body
        obtain ⟨_, _, _, _, vs, kk, hl, _⟩ := B.own hid acc rfl
        rw [hol B] at hl; rw [hl]; simp
      refine wpAny_mono (helt _ _ i acc c' s₆ h g₆ F₆' hDs) (fun y s₈ ⟨c₈, dd, e₈, r₈, k₈⟩ => ?_) fun _ _ x => x
      have F₈ := F₆'.step e₈
      obtain ⟨m₈, ol₈, B₈⟩ := F₈.body
      obtain ⟨hat, hcf, hnh, hnew, vs, kk, hl', rr⟩ := B₈.own hid acc rfl
      have hol₈ := hol B₈
      have hlen' := rr.length
      have hal := hlen _ _ _ _ _ g₆
      rw [← hol₈]
      refine wpAny_list_append_plain ⟨kk, hl'⟩ (fun h' hp hs' => ?_) (by simp [sizeLine]; omega)
      rw [push_list] at hp
      obtain ⟨n', hp⟩ := hp
      obtain ⟨F₉, k₉⟩ := F₈.change B₈ (ds := acc) rfl (tk := s₈.toks) hp (rr.append (.cons r₈ .nil)) hs'
      rw [hol₈] at hs'
      refine ⟨n - (i + 1), by omega, i + 1, c₈, acc ++ [dd], rfl, h, ?_, by rw [hol₈]; exact k₈ h' s₈.toks hs', T.step _ _ _ _ _ j₅ (w₆.rl.trans ((e₈.rl F₆'.ok).trans k₉))⟩
      have := F₉.sub (G' := G') (O' := [(hid, acc ++ [dd])]) (fun y e hy => by
        rw [Gset_lookup, if_neg (fun z => by rw [z, hx'] at hy; cases hy)]; exact hy) (fun _ _ hy => by simpa [Oset] using hy)
      exact this
    · have : i = n := by omega
      subst this
      refine wpAny_mono (T.done c' s' F'.ok j') (fun r s₄ ⟨e, mv⟩ => ?_) fun _ _ x => x
      subst e
      exact fin _ _ s₄ c' acc (fresh _ (Nat.le_refl _)) (fresh _ (by omega)) hDC (F'.moved mv (T.itrs _ c' s' j') hw) hC.symm (hmv _ _ _ _ _ _ _ g' mv (T.itrs _ c' s' j'))
  exact codeAny_compStart_list (loop j₃) (T.self _ _ _ _ _ e₃.ok j₃ (loop j₃))
end

/-! text Fw16 -/
section
open PySem.Calls PySem.SeqAt

variable {X : Sys} {A : Around} {env : Env} {G : Gam} {O : Oms} {σ σ₁ σ₂ σ₃ σ₄ : Gh}

/-- an expression that gives None, as a statement -/
theorem TS.exprN {S : St} {e : Expr} {pos : Pos} (h : EV X A env S.G S.O S.σ e .none σ₁) (hin : interactive env = false) (hs : swapsWith e none pos.line env = pure false) : TS X A env S (.Expr e pos) (.nx ⟨S.G, S.O, σ₁⟩) := .mk fun c₀ s₀ c s F hg =>
  wpAny_Expr (wpAny_mono (h.run c₀ s₀ c s F hg) (fun v s₁ ⟨c₁, e₁, r₁, g₁⟩ => by
    rw [r₁.none_inv]; exact Post.nx (F.step e₁) g₁ (e₁.rl F.ok)) fun _ _ x => x) hin hs

/-- an object that the frame has nothing to do with is changed -/
theorem FS.other {c₀ c : Wd} {s₀ s : Shared} {C : Addr} {h' : Heap} {m : Str → Option Value} (F : FS X c₀ s₀ env G O c s) (hC : s.heap.Ns C m) (hL : env.locals ≠ C) (hn : s₀.heap.get? C = none) (hs : Heap.SameBut C s.heap h') :
    FS X c₀ s₀ env G O c { s with heap := h' } := by
  obtain ⟨oC, es, ep, hC1, hC2, _⟩ := hC
  have keep : ∀ b o, b ≠ C → s.heap.get? b = some o → h'.get? b = some o := fun b o q e => (hs.2 b q).trans e
  have nseq : ∀ b o, s.heap.get? b = some o → (∃ xs n, o.data = .seq xs n) → h'.get? b = some o := fun b o e ⟨xs, n, h⟩ => keep b o (fun z => by rw [z, hC1] at e; cases e; rw [hC2] at h; cases h) e
  have ncell : ∀ a v, s.heap.IsCell a v → a ≠ C := fun a v ⟨o, e, h⟩ z => by rw [z, hC1] at e; cases e; rw [hC2] at h; cases h
  have atk : ∀ (m : Str → Option Value) y w, At m env s.heap y w → At m env h' y w := fun m y w q => by
    rcases q with q | ⟨k, a, e, n⟩
    · exact .inl q
    · exact .inr ⟨k, a, e, n.sameBut hs (ncell _ _ n)⟩
  have K := F.ok
  obtain ⟨m, ol, B⟩ := F.body
  refine ⟨⟨?_, F.ext.le, F.ext.fresh, ?_⟩, F.kind, F.glo, F.blt, F.base₀, F.new, fun y a ha => ?_, F.cellsApart, m, ol, B.ns.sameBut hs hL, fun y d h => ?_, fun y es h => ?_, B.apart⟩
  · obtain ⟨⟨h1, t1, e1⟩, a1, l1⟩ := F.ext.keeps
    refine ⟨⟨h', s.toks, by rw [e1]⟩, fun b o nh e => keep b o (fun z => by rw [z, hn] at e; cases e) (a1 b o nh e), fun b e => ?_⟩
    by_cases z : b = C
    · rw [z]; exact hn
    · exact l1 b (by rw [← hs.2 b z]; exact e)
  · refine ⟨fun b o e => keep b o (fun z => ?_) (K.base b o e), K.c0, fun b o e => ⟨nseq b o (K.wd b o e).1 (K.wd b o e).2, (K.wd b o e).2⟩, fun a v e => ?_, fun a rs e => ?_, K.apart, K.hb, K.m0⟩
    · have := F.base₀ b o e; rw [z, hn] at this; cases this
    · obtain ⟨p, q, t, k, z⟩ := K.pool a v e
      exact ⟨p, q, t, k, nseq _ _ z ⟨_, _, rfl⟩⟩
    · obtain ⟨p, ⟨k, q⟩, t, u, v, z⟩ := K.mat a rs e
      exact ⟨p, ⟨k, nseq _ _ q ⟨_, _, rfl⟩⟩, t, u, v, z.keeps fun b hb o e => by obtain ⟨vs, k', z'⟩ := z.get b hb; rw [z'] at e; cases e; exact nseq _ _ z' ⟨_, _, rfl⟩⟩
  · obtain ⟨v, h⟩ := (F.cells y a ha).2
    exact ⟨(F.cells y a ha).1, v, h.sameBut hs (ncell _ _ h)⟩
  · obtain ⟨v, l, r⟩ := B.names y d h; exact ⟨v, atk _ _ _ l, r⟩
  · obtain ⟨a, p, t, u, vs₁, k, z, r₁⟩ := B.own y es h
    exact ⟨a.map (atk _ _ _), p, t, u, vs₁, k, nseq _ _ z ⟨_, _, rfl⟩, r₁⟩

/-- y = [elt for x in iter], in one sweep with the comprehension -/
theorem TS.setUsed {S : St} {G' : Gam} {elt iter : Expr} {x y : Str} {px py : Pos} {scope : Scope} {pos spos : Pos} {n : Nat} {f d : Nat → D} {σs : Nat → Gh}
    (hsw : swapsWith (.ListComp elt [⟨.Name x px, iter, [], 0⟩] scope pos) (some (.Name y py)) spos.line env = pure true) (hy : Slot' env y)
    (hfree : KF env scope.names) (hcell : ∀ y ∈ scope.names, y.2 ≠ .cell) (hkind : scope.kind = .function) (hnames : ∀ y ∈ scope.names, y.2 = .local → scope.names.lookup y.1 = some .local)
    (hcap : ∀ C, CapL S.G env (ienv scope env C) G') (hx : x ≠ hid) (hx' : G'.lookup x = none) (hl : ∀ C, (ienv scope env C).kindOf x = some .local) (hs : ∀ x, foldedSetIterable iter env x = pure x)
    (hi : IT X A env S.G S.O S.σ (.Name x px) iter n (fun i => .one (f i)) (σs 0)) (hn : n ≤ 100000)
    (helt : ∀ C O i, i < n → EV X A (ienv scope env C) (Gset G' x (f i)) O (σs i) elt (d i) (σs (i + 1))) :
    TS X A env S (.Assign [.Name y py] (.ListComp elt [⟨.Name x px, iter, [], 0⟩] scope pos) spos) (.nx ⟨Gdel S.G y, Oset S.O y ((List.range n).map d), σs n⟩) := .mk fun c₀ s₀ c s F hg => by
  rw [exec_Assign_Name_used _ _ _ _ hsw]
  refine wpAny_bind (wpAny_standAt (wpAny_bind ?_))
  show wpAny _ A (do let _ ← comprehension (.ListComp elt [⟨.Name x px, iter, [], 0⟩] scope pos) scope env _ (newList []) false (eval iter env) (some (assign (.Name y py) env))) _ _ s
  have key : ∀ pq, wpAny (model X.prog X.w) A (comprehension (.ListComp elt [⟨.Name x px, iter, [], 0⟩] scope pos) scope env pq (newList []) false (eval iter env) (some (assign (.Name y py) env)))
      (fun _ s' => Post X c₀ s₀ env c s (.nx ⟨Gdel S.G y, Oset S.O y ((List.range n).map d), σs n⟩) .next s') (fun _ _ => False) s := by
    intro pq
    refine comp_core (X := X) (A := A) (env := env) (G := S.G) (O := S.O) (σ := S.σ) (G' := G') (f := f) (n := n) F hg
      (fun D i acc c' s' => acc = (List.range i).map d ∧ c'.g = σs i) hi hn hfree.get hcell hkind hnames (fun C => (hcap C).get) hx hx' hl
      (fun D c' s' e g _ => ⟨rfl, g⟩) (fun D i acc c' s' s'' wr k _ _ => k) (fun D i acc c' s' s'' k _ => k) (fun D i acc c' s' k => by rw [k.1]; simp) ?_ ?_ hs
    · rintro D C i acc c' s' hi' ⟨rfl, g⟩ F' _
      refine wpAny_mono ((helt C _ i hi').run c s c' s' F' g) (fun v s'' ⟨c'', e, r, g''⟩ => ⟨c'', d i, e, r, fun h' tk _ => ⟨?_, g''⟩⟩) fun _ _ x => x
      rw [List.range_succ, List.map_append]; rfl
    · rintro D C s' c' acc hD hC hDC F' hDC' ⟨rfl, g⟩
      obtain ⟨m', ol', B'⟩ := F'.body
      obtain ⟨hat, hcf, hnh, hnew, hat'⟩ := B'.own hid _ rfl
      have hol : ol' hid = D := by
        rcases hat with ⟨_, z⟩ | ⟨z, _⟩
        · exact Nat.succ.inj (z.trans hDC'.symm)
        · exact (z rfl).elim
      rw [hol] at hcf hnh hnew hat'
      obtain ⟨m, ol, B⟩ := F.body
      have F₁ := F.step F'.ext
      have B₁ := B.step F.ok F'.ext
      have Lne : env.locals ≠ C := by
        rintro q; obtain ⟨o, _, _, h1, _⟩ := B.ns; rw [q, hC] at h1; cases h1
      have own : OwnAt s₀ c' s' D ((List.range n).map d) := ⟨hcf, hnh, F.ext.keeps.live _ hD, hat'⟩
      show wpAny _ A (assign (.Name y py) env (.ref D)) _ _ _
      refine wpAny_assign_Name (store_any2 (b := .o _) (σ := σs n) F₁ B₁ hy ⟨D, rfl, own, fun y es hy _ q => ?_⟩ fun s'' m'' ol'' w F'' B'' _ _ ⟨a, hsb, ha⟩ => ?_)
      · obtain ⟨_, _, _, _, vs, k, z, _⟩ := B.own y es hy
        rw [q, hD] at z; cases z
      have hCa : C ≠ a := by
        rintro rfl
        rcases ha with ha | ⟨z, ha⟩
        · exact Lne ha.symm
        · obtain ⟨v, o, h1, _⟩ := (F.cells z C ha).2
          rw [hC] at h1; cases h1
      have nsC := B'.ns.sameBut hsb hCa
      refine ⟨m', nsC, fun h' hs' => ?_⟩
      have F₃ := F''.other nsC Lne (F.ext.keeps.live _ hC) hs'
      refine Post.nx F₃ g ⟨fun b o e => F'.ext.le.f b o e, fun v d r => r.mono F'.ext.le, fun b o e i => ?_⟩
      have h1 := ((F'.ext.rl F.ok).trans w.rl).itr b o e i
      exact (hs'.2 b (fun z => by rw [z, hC] at e; cases e)).trans h1
  exact wpAny_bind (wpAny_mono (key _) (fun _ s' hq => wpAny_pure (wpAny_pure hq)) fun _ _ e => e)

mutual
theorem Rep.gen {c c' : Wd} (hf : ∀ b o, c.f b = some o → c'.f b = some o) (hp : ∀ x, c.pool = some x → c'.pool = some x) (hm : ∀ x, c.mat = some x → c'.mat = some x) : ∀ {v d}, Rep c v d → Rep c' v d
  | _, _, .none => .none
  | _, _, .bool b => .bool b
  | _, _, .int i t => .int i t
  | _, _, .tup e r => .tup (hf _ _ e) (Reps.gen hf hp hm r)
  | _, _, .list e r => .list (hf _ _ e) (Reps.gen hf hp hm r)
  | _, _, .pool e => .pool (hp _ e)
  | _, _, .mat e => .mat (hm _ e)
  | _, _, .raw a => .raw a
theorem Reps.gen {c c' : Wd} (hf : ∀ b o, c.f b = some o → c'.f b = some o) (hp : ∀ x, c.pool = some x → c'.pool = some x) (hm : ∀ x, c.mat = some x → c'.mat = some x) : ∀ {vs ds}, Reps c vs ds → Reps c' vs ds
  | _, _, .nil => .nil
  | _, _, .cons r rs => .cons (Rep.gen hf hp hm r) (Reps.gen hf hp hm rs)
end

/-- the world with other resources -/
noncomputable abbrev Wd.res (c : Wd) (g : Gh) (p : Option (Addr × Value)) (m : Option (Addr × List Addr)) : Wd := { c with g := g, pool := p, mat := m }
theorem FS.switch {c₀ c : Wd} {s₀ s : Shared} {m : Str → Option Value} {ol : Str → Addr} {g : Gh} {p : Option (Addr × Value)} {mt : Option (Addr × List Addr)} (F : FS X c₀ s₀ env G O c s) (B : FB env G O s₀ c s m ol)
    (hp : ∀ x, c.pool = some x → p = some x) (hm : ∀ x, c.mat = some x → mt = some x) (hh : ∀ b, c₀.hole b → (c₀.res g p mt).hole b) (hown : ∀ y ds, O.lookup y = some ds → ¬ (c.res g p mt).hole (ol y)) (K : Ok X (c.res g p mt) s) :
    FS X (c₀.res g p mt) s₀ env G O (c.res g p mt) s ∧ FB env G O s₀ (c.res g p mt) s m ol := by
  have B' : FB env G O s₀ (c.res g p mt) s m ol := ⟨B.ns, fun x d h => let ⟨v, l, r⟩ := B.names x d h; ⟨v, l, Rep.gen (c := c) (c' := c.res g p mt) (fun _ _ e => e) hp hm r⟩, fun y ds h => by
    obtain ⟨a, b, bh, b', vs, n, q, r⟩ := B.own y ds h
    exact ⟨a, b, hown y ds h, b', vs, n, q, Reps.gen (c := c) (c' := c.res g p mt) (fun _ _ e => e) hp hm r⟩, B.apart⟩
  refine ⟨⟨⟨⟨F.ext.keeps.same, fun b o nh e => F.ext.keeps.all b o (fun z => nh (hh b z)) e, F.ext.keeps.live⟩, ⟨F.ext.le.f, rfl, rfl, fun b => Iff.rfl⟩, F.ext.fresh, K⟩, F.kind, F.glo, F.blt, F.base₀, F.new, F.cells, F.cellsApart, m, ol, B'⟩, B'⟩

/-- a matrix that nobody else holds -/
structure MatAt (s₀ : Shared) (c : Wd) (s : Shared) (D : Addr) (rs : List Addr) (M : List (List Int)) : Prop where
  cf : c.f D = none
  cr : ∀ r ∈ rs, c.f r = none
  new : s₀.heap.get? D = none
  newr : ∀ r ∈ rs, s₀.heap.get? r = none
  nh : ¬ c.hole D
  nhr : ∀ r ∈ rs, ¬ c.hole r
  at' : ∃ n, s.heap.get? D = some (listO (rs.map Value.ref).toArray n)
  nd : rs.Nodup
  ni : D ∉ rs
  rows : RowsAt s.heap rs M
theorem MatAt.step {s₀ s s' : Shared} {c c' : Wd} {D : Addr} {rs : List Addr} {M : List (List Int)} (w : MatAt s₀ c s D rs M) (e : Ext X c s c' s') : MatAt s₀ c' s' D rs M := by
  have fr : ∀ b o, c.f b = none → s.heap.get? b = some o → c'.f b = none := fun b o h1 h2 => by
    cases z : c'.f b with
    | none => rfl
    | some o' =>
      rcases e.fresh _ o' z with t | t
      · rw [h1] at t; cases t
      · rw [h2] at t; cases t
  obtain ⟨n, hD⟩ := w.at'
  refine ⟨fr _ _ w.cf hD, fun r hr => ?_, w.new, w.newr, fun z => w.nh ((e.le.hole _).mp z), fun r hr z => w.nhr r hr ((e.le.hole _).mp z), ⟨n, e.keeps.all _ _ w.nh hD⟩, w.nd, w.ni, w.rows.keeps fun b hb o => e.keeps.all b o (w.nhr b hb)⟩
  obtain ⟨vs, k, z⟩ := w.rows.get r hr
  exact fr _ _ (w.cr r hr) z

structure EM (X : Sys) (A : Around) (env : Env) (G : Gam) (O : Oms) (σ : Gh) (e : Expr) (M : List (List Int)) : Prop where
  run : ∀ c₀ s₀ c s, FS X c₀ s₀ env G O c s → c.g = σ → wpAny (model X.prog X.w) A (eval e env) (fun v s' => ∃ c' D rs, v = .ref D ∧ Ext X c s c' s' ∧ c'.g = σ ∧ MatAt s c' s' D rs M) (fun _ _ => False) s

theorem RowsAt.snoc {h : Heap} {r : Addr} {vs : List Value} {is : List Int} {n : Nat} (e : h.get? r = some (listO vs.toArray n)) (i : IntsAre vs is) : ∀ {rs : List Addr} {M : List (List Int)}, RowsAt h rs M → RowsAt h (rs ++ [r]) (M ++ [is])
  | _, _, .nil => .cons e i .nil
  | _, _, .cons e' i' q => .cons e' i' (RowsAt.snoc e i q)
theorem Reps.ints {c : Wd} : ∀ {vs : List Value} {is : List Int}, Reps c vs (is.map D.int) → IntsAre vs is
  | _, [], .nil => .nil
  | _, i :: is, .cons r rs => by obtain ⟨t, rfl⟩ := r.int_inv; exact .cons i t (Reps.ints rs)
theorem raws_inv {c : Wd} : ∀ {vs : List Value} {rs : List Addr}, Reps c vs (rs.map D.raw) → vs = rs.map Value.ref
  | _, [], .nil => rfl
  | _, r :: rs, .cons q qs => by cases q; rw [raws_inv qs]; rfl

/-- [list(row) for row in a] -/
theorem EM.comp {G' : Gam} {elt iter : Expr} {x : Str} {px : Pos} {scope : Scope} {pos : Pos} {M : List (List Int)}
    (hfree : KF env scope.names) (hcell : ∀ y ∈ scope.names, y.2 ≠ .cell) (hkind : scope.kind = .function) (hnames : ∀ y ∈ scope.names, y.2 = .local → scope.names.lookup y.1 = some .local)
    (hcap : ∀ C, CapL G env (ienv scope env C) G') (hx : x ≠ hid) (hx' : G'.lookup x = none) (hl : ∀ C, (ienv scope env C).kindOf x = some .local) (hs : ∀ x, foldedSetIterable iter env x = pure x)
    (hi : IT X A env G O σ (.Name x px) iter M.length (fun i => .one (il (M.getD i []))) σ) (hn : M.length ≤ 100000)
    (helt : ∀ C O i, i < M.length → EF X A (ienv scope env C) (Gset G' x (il (M.getD i []))) O σ elt ((M.getD i []).map D.int) σ) :
    EM X A env G O σ (.ListComp elt [⟨.Name x px, iter, [], 0⟩] scope pos) M := .mk fun c₀ s₀ c s F hg => by
  rw [eval_ListComp]
  refine comp_core (X := X) (A := A) (env := env) (G := G) (O := O) (σ := σ) (G' := G') (f := fun i => il (M.getD i [])) (n := M.length) (use := none) F hg (fun D i acc c' s' => s.heap.get? D = none ∧ c'.g = σ ∧ i ≤ M.length ∧ ∃ rs, acc = rs.map Mine.D.raw ∧ rs.length = i ∧ rs.Nodup ∧ D ∉ rs ∧ (∀ r ∈ rs, c'.f r = none ∧ s.heap.get? r = none ∧ ¬ c'.hole r) ∧ RowsAt s'.heap rs (M.take i))
    hi hn hfree.get hcell hkind hnames (fun C => (hcap C).get) hx hx' hl
    (fun D c' s' e g hD => ⟨hD, g, Nat.zero_le _, [], rfl, rfl, .nil, List.not_mem_nil, (fun r h => nomatch h), by simpa using RowsAt.nil⟩) ?_ ?_ (fun D i acc c' s' ⟨_, _, _, rs, e, h, _⟩ => by rw [e, List.length_map, h]) ?_ ?_ hs
  · rintro D i acc c' s' s'' wr ⟨h1, h2, h3, rs, h4, h5, h6, h7, h8, h9⟩ mv hw
    refine ⟨h1, h2, h3, rs, h4, h5, h6, h7, h8, h9.keeps fun b hb o e => mv.all b o (fun hb' => ?_) e⟩
    obtain ⟨vs, k, z⟩ := h9.get b hb
    obtain ⟨o', z', i'⟩ := hw b hb'
    rw [z] at z'; cases z'; exact i'
  · rintro D i acc c' s' s'' ⟨h1, h2, h3, rs, h4, h5, h6, h7, h8, h9⟩ w
    refine ⟨h1, h2, h3, rs, h4, h5, h6, h7, h8, h9.keeps fun b hb o e => ?_⟩
    obtain ⟨vs, k, z⟩ := h9.get b hb
    rw [z] at e; cases e
    exact w.nd _ _ z (.seq ⟨_, _, rfl⟩)
  · rintro D C i acc c' s' hi' ⟨h1, h2, h3, rs, rfl, h5, h6, h7, h8, h9⟩ F' hDs
    refine wpAny_mono ((helt C _ i hi').run c s c' s' F' h2) (fun v s'' ⟨c'', fr, g''⟩ => ?_) fun _ _ x => x
    obtain ⟨l, rfl, hl0, e, hcl, vs, k, hat, rr⟩ := fr
    -- the raw reference
    have hne : l ≠ D := fun z => hDs (z ▸ hl0)
    have keepf : ∀ r ∈ rs, c''.f r = none := fun r hr => by
      obtain ⟨vs, k, z⟩ := h9.get r hr
      cases q : c''.f r with
      | none => rfl
      | some o' =>
        rcases e.fresh _ o' q with t | t
        · rw [(h8 r hr).1] at t; cases t
        · rw [z] at t; cases t
    have lni : l ∉ rs := fun hm => by
      obtain ⟨vs, k, z⟩ := h9.get l hm
      rw [hl0] at z; cases z
    refine ⟨c'', .raw l, e, .raw l, fun h' tk hs' => ⟨h1, g'', hi', rs ++ [l], by simp, by simp [h5], ?_, ?_, ?_, ?_⟩⟩
    · refine List.nodup_append.mpr ⟨h6, by simp, fun a ha b hb => ?_⟩
      rw [List.mem_singleton.mp hb]; rintro rfl; exact lni ha
    · intro hm
      rcases List.mem_append.mp hm with hm | hm
      · exact h7 hm
      · exact hne (List.mem_singleton.mp hm).symm
    · intro r hr
      rcases List.mem_append.mp hr with hr | hr
      · exact ⟨keepf r hr, (h8 r hr).2.1, fun z => (h8 r hr).2.2 ((e.le.hole _).mp z)⟩
      · rw [List.mem_singleton.mp hr]; exact ⟨hcl, F'.ext.keeps.live _ hl0, Ext.nhole F'.ok e hl0⟩
    · rw [List.take_add_one, List.getElem?_eq_getElem hi']
      refine RowsAt.snoc (r := l) (vs := vs) (n := k) ((hs'.2 l hne).trans hat) ?_ (h9.keeps fun b hb o eb => (hs'.2 b (fun z => h7 (z ▸ hb))).trans (e.keeps.all b o (h8 b hb).2.2 eb))
      have := Reps.ints rr
      rw [List.getD_eq_getElem?_getD, List.getElem?_eq_getElem hi'] at this
      simpa using this
  · rintro D C s' c' acc hD hC hDC F' hDC' ⟨h1, h2, h3, rs, rfl, h5, h6, h7, h8, h9⟩
    rw [List.take_length] at h9
    obtain ⟨m', ol', B'⟩ := F'.body
    obtain ⟨hat, hcf, hnh, hnew, vs, k, hat', rr⟩ := B'.own hid _ rfl
    have hol : ol' hid = D := by
      rcases hat with ⟨_, z⟩ | ⟨z, _⟩
      · exact Nat.succ.inj (z.trans hDC'.symm)
      · exact (z rfl).elim
    rw [hol] at hcf hnh hnew hat'
    rw [raws_inv rr] at hat'
    refine ⟨m', B'.ns, fun h' hs' => ?_⟩
    have FF := (F.step F'.ext).other B'.ns (fun z => by obtain ⟨m, ol, B⟩ := F.body; obtain ⟨o, _, _, q, _⟩ := B.ns; rw [z, show (ienv scope env C).locals = C from rfl, hC] at q; cases q) (F.ext.keeps.live _ hC) hs'
    have CnR : ∀ r ∈ rs, r ≠ C := fun r hr z => by
      obtain ⟨vs, k, q⟩ := h9.get r hr
      obtain ⟨o, es, ep, q1, q2, _⟩ := B'.ns
      rw [show (ienv scope env C).locals = C from rfl, ← z, q] at q1; cases q1; cases q2
    refine ⟨c', D, rs, rfl, ⟨?_, F'.ext.le, F'.ext.fresh, FF.ok⟩, h2, hcf, fun r hr => (h8 r hr).1, hD, fun r hr => (h8 r hr).2.1, hnh, fun r hr => (h8 r hr).2.2, ⟨k, (hs'.2 D hDC).trans hat'⟩, h6, h7, h9.keeps fun b hb o e => (hs'.2 b (CnR b hb)).trans e⟩
    obtain ⟨⟨h2, t2, e2⟩, a2, l2⟩ := F'.ext.keeps
    refine ⟨⟨h', s'.toks, by rw [e2]⟩, fun b o nh e => (hs'.2 b (fun z => by rw [z, hC] at e; cases e)).trans (a2 b o nh e), fun b e => ?_⟩
    by_cases z : b = C
    · rw [z]; exact hC
    · exact l2 b (by rw [← hs'.2 b z]; exact e)
end

/-! text Fw17 -/
section
open PySem.Calls PySem.SeqAt

variable {X : Sys} {A : Around} {env : Env} {G : Gam} {O : Oms} {σ σ₁ σ₂ σ₃ σ₄ : Gh}

/-- the way back: the matrix is nobody's any more -/
theorem Ext.unmat {c₀ c : Wd} {s₀ s : Shared} {g : Gh} {mt : Option (Addr × List Addr)} (h0 : c₀.mat = none) (hn : ∀ b, (c₀.res g c₀.pool mt).hole b → ¬ c₀.hole b → s₀.heap.get? b = none) (e : Ext X (c₀.res g c₀.pool mt) s₀ c s) :
    Ext X c₀ s₀ (c.res (c.g.1, []) c.pool none) s := by
  have hp : c.pool = c₀.pool := e.le.pool
  have hh : ∀ b, (c.res (c.g.1, []) c.pool none).hole b ↔ c₀.hole b := fun b => by
    constructor
    · rintro (⟨v, q⟩ | ⟨rs, q⟩ | ⟨a, rs, q, _⟩)
      · exact .inl ⟨v, hp ▸ q⟩
      · cases q
      · cases q
    · rintro (⟨v, q⟩ | ⟨rs, q⟩ | ⟨a, rs, q, _⟩)
      · exact .inl ⟨v, hp.trans q⟩
      · rw [h0] at q; cases q
      · rw [h0] at q; cases q
  have hc : ∀ b, (c.res (c.g.1, []) c.pool none).hole b → c.hole b := fun b h => by
    rcases h with ⟨v, q⟩ | ⟨rs, q⟩ | ⟨a, rs, q, _⟩
    · exact .inl ⟨v, q⟩
    · cases q
    · cases q
  have K := e.ok
  refine ⟨⟨e.keeps.same, fun b o nh eb => e.keeps.all b o (fun z => ?_) eb, e.keeps.live⟩, ⟨e.le.f, hp, h0.symm, hh⟩, e.fresh, ⟨K.base, K.c0, K.wd, fun a v q => ?_, fun a rs q => (nomatch q), fun a v m rs _ q => (nomatch q), fun b h => K.hb b (hc b h), fun _ => rfl⟩⟩
  · rw [hn b z nh] at eb; cases eb
  · obtain ⟨p, r, t⟩ := K.pool a v q
    refine ⟨p, ?_, t⟩
    -- no matrix in the script
    have : ∀ (l : List Int) (vs : List Value), Reps c vs (l.map D.int) → Reps (c.res (c.g.1, []) c.pool none) vs (l.map D.int) := by
      intro l
      induction l with
      | nil => intro vs h; cases h; exact .nil
      | cons i l ih =>
        intro vs h
        cases h with
        | cons r rs => obtain ⟨t, rfl⟩ := r.int_inv; exact .cons (.int i t) (ih _ rs)
    unfold il at r ⊢
    obtain ⟨a', vs, n, rfl, q', rs⟩ := r.list_inv
    exact .list q' (this _ _ rs)

/-- found, sign, ahead = ([list(row) for row in a], 1, 1) -/
theorem TRq.mkMat {S : St} {elts : List Expr} {e₁ : Expr} {k1 k2 : Nat} {p1 p2 : Pos} {kk k' K : Nat} {tpos vpos pos : Pos} {x y z : Str} {M M' : List (List Int)} {ss : List Stmt} {r : Int} {kd : Nat} (hA : Rm K A) (hσ : S.σ.2 = []) (hM : M ≠ [])
    (he : starEach [e₁, .Constant (.int 1) k1 p1, .Constant (.int 1) k2 p2] env = (false, eval e₁ env) :: starEach [.Constant (.int 1) k1 p1, .Constant (.int 1) k2 p2] env)
    (hs : swapsWithSole [.Tuple elts kk tpos] (.Tuple [e₁, .Constant (.int 1) k1 p1, .Constant (.int 1) k2 p2] k' vpos) pos.line env = pure false)
    (hw : swappedStores [.Tuple elts kk tpos] (.Tuple [e₁, .Constant (.int 1) k1 p1, .Constant (.int 1) k2 p2] k' vpos) env = pure (some [x, y, z])) (hx : ∀ u ∈ [x, y, z], Slot' env u)
    (h : EM X A env S.G S.O S.σ e₁ M) (k : TR X A env (St.bindAll ⟨S.G, S.O, (S.σ.1, M)⟩ [(z, .g (.int 1)), (y, .g (.int 1)), (x, .g .mat)]) ss (.ret (.int r) (kd, M'))) :
    TR X A env S (.Assign [.Tuple elts kk tpos] (.Tuple [e₁, .Constant (.int 1) k1 p1, .Constant (.int 1) k2 p2] k' vpos) pos :: ss) (.ret (.int r) (kd, [])) := .mk fun c₀ s₀ c s F hg => by
  obtain ⟨m, ol, B⟩ := F.body
  have hm0 : c.mat = none := F.ok.m0 (by rw [hg]; exact hσ)
  have hm00 : c₀.mat = none := by rw [← F.ext.le.mat]; exact hm0
  refine wpAny_execs_cons (Assign_Tuple_swapped (wpAny_Tuple ?_) hs hw)
  refine args_cons (wpAny_mono (h.run c₀ s₀ c s F hg) (fun v s₁ ⟨c₁, Da, rs, ev, e₁, g₁, w₁⟩ => ?_) fun _ _ x => x) he
  subst ev
  refine args_cons (wpAny_Constant_int ?_) rfl
  refine args_cons (wpAny_Constant_int ?_) rfl
  refine args_nil ?_
  refine ⟨by simp [sizeLine], ?_⟩
  have e₂ := e₁.trans ((Ext.same e₁.ok (Keeps.tok' s₁ (s₁.toks + 1))))
  have e₃ := e₂.trans (Ext.same e₂.ok (Keeps.tok' _ (s₁.toks + 1 + 1)))
  have w₃ := w₁.step ((Ext.same e₁.ok (Keeps.tok' s₁ (s₁.toks + 1)))) |>.step (Ext.same e₂.ok (Keeps.tok' _ (s₁.toks + 1 + 1)))
  have k₄ := Ext.same e₃.ok (Keeps.push' _ (tupO [Value.ref Da, .int 1 s₁.toks, .int 1 (s₁.toks + 1)].toArray 0) (s₁.toks + 1 + 1))
  refine unpackItems_tuple (items := [Value.ref Da, .int 1 s₁.toks, .int 1 (s₁.toks + 1)].toArray) hA.1 (isTup_of (Heap.get?_push_size _ rfl)) fun h' he' => ?_
  have e₄ := e₃.trans k₄
  have k₅ := Ext.same e₄.ok (ExtBut.keeps he')
  have e₅ := e₄.trans k₅
  have w₅ := (w₃.step k₄).step k₅
  generalize hs5 : ({ ({ s₁ with heap := _, toks := _ } : Shared) with heap := h' } : Shared) = s₅ at *
  have F₅ := F.step e₅
  have B₅ := B.step F.ok e₅
  have hm1 : c₁.mat = none := e₅.le.mat.trans hm0
  have newD : s₀.heap.get? Da = none := F.ext.keeps.live _ w₅.new
  have newR : ∀ r ∈ rs, s₀.heap.get? r = none := fun r hr => F.ext.keeps.live _ (w₅.newr r hr)
  have K := e₅.ok
  -- the switch
  have holeN : ∀ {cc : Wd} b, (cc.res (c₁.g.1, M) cc.pool (some (Da, rs))).hole b → cc.hole b ∨ b = Da ∨ b ∈ rs := fun b hb => by
    rcases hb with ⟨v, q⟩ | ⟨rs', q⟩ | ⟨a, rs', q, hb⟩
    · exact .inl (.inl ⟨v, q⟩)
    · cases q; exact .inr (.inl rfl)
    · cases q; exact .inr (.inr hb)
  have hp₀ : c₀.pool = c₁.pool := (F₅.ext.le.pool).symm
  have K' : Ok X (c₁.res (c₁.g.1, M) c₁.pool (some (Da, rs))) s₅ := by
    refine ⟨K.base, K.c0, K.wd, fun a v q => ?_, fun a rs' q => ?_, fun a v m rs' q q' => ?_, fun b hb => ?_, fun q => (hM q).elim⟩
    · obtain ⟨p, r, t⟩ := K.pool a v q
      exact ⟨p, Rep.gen (c := c₁) (c' := c₁.res (c₁.g.1, M) c₁.pool (some (Da, rs))) (fun _ _ e => e) (fun _ e => e) (fun _ e => by rw [hm1] at e; cases e) r, t⟩
    · cases q; exact ⟨w₅.cf, w₅.at', w₅.nd, w₅.ni, w₅.cr, w₅.rows⟩
    · cases q'
      exact ⟨fun z => w₅.nh (z ▸ .inl ⟨v, q⟩), fun z => w₅.nhr a z (.inl ⟨v, q⟩)⟩
    · rcases holeN b hb with hb | hb | hb
      · exact K.hb b hb
      · rw [hb]
        cases q : X.B.get? Da with
        | none => rfl
        | some o => have := F.base₀ _ _ q; rw [newD] at this; cases this
      · cases q : X.B.get? b with
        | none => rfl
        | some o => have := F.base₀ _ _ q; rw [newR b hb] at this; cases this
  obtain ⟨F₆, B₆⟩ := F₅.switch (g := (c₁.g.1, M)) (p := c₁.pool) (mt := some (Da, rs)) B₅ (fun _ e => e) (fun _ e => by rw [hm1] at e; cases e)
    (fun b hb => by
      rcases hb with ⟨v, q⟩ | ⟨rs', q⟩ | ⟨a, rs', q, hb⟩
      · exact .inl ⟨v, hp₀ ▸ q⟩
      · rw [hm00] at q; cases q
      · rw [hm00] at q; cases q)
    (fun u ds hu hb => by
      obtain ⟨_, _, bh, _, vs, n, z, _⟩ := B.own u ds hu
      rcases holeN _ hb with hb | hb | hb
      · exact (B₅.own u ds hu).2.2.1 hb
      · rw [hb, w₅.new] at z; cases z
      · rw [w₅.newr _ hb] at z; cases z) K'
  have hg1 : c₁.g.1 = S.σ.1 := by rw [g₁]
  refine storeAll (S := ⟨S.G, S.O, (S.σ.1, M)⟩) (c₁ := c₁.res (c₁.g.1, M) c₁.pool (some (Da, rs))) (s₁ := s₅) (σ := (S.σ.1, M)) (vs := [.int 1 (s₁.toks + 1), .int 1 s₁.toks, .ref Da]) (xs := [z, y, x]) (bs := [.g (.int 1), .g (.int 1), .g .mat]) (ls := [])
    (Stos.names (xs := [z, y, x]) fun u hu => hx u (by simp at hu ⊢; rcases hu with rfl | rfl | rfl <;> simp)) F₆ B₆ (.g (.int _ _) (.g (.int _ _) (.g (.mat rfl) .nil))) rfl (fun l hl => nomatch hl) (.refl _ _) (by show (c₁.g.1, M) = _; rw [hg1]) fun s₇ p => ?_
  obtain ⟨_, c₇, F₇, g₇, _⟩ := p
  refine wpAny_mono (k.run _ s₀ c₇ s₇ F₇ g₇) (fun fl s₈ ⟨v, ef, c₈, e₈, r₈, g₈⟩ => ?_) fun _ _ x => x
  rw [← hp₀] at e₈
  refine ⟨v, ef, c₈.res (c₈.g.1, []) c₈.pool none, Ext.unmat hm00 (fun b hb nb => ?_) e₈, ?_, by rw [g₈]⟩
  · rcases holeN b hb with hb | hb | hb
    · exact (nb hb).elim
    · rw [hb]; exact newD
    · exact newR b hb
  · obtain ⟨t, rfl⟩ := r₈.int_inv; exact .int _ _

/-- pool = [.., 0] and all that comes behind -/
theorem law_pool {S : St} {x : Str} {p pos : Pos} {value : Expr} {ss : List Stmt} {b : Bool} {σ' : Gh} {c₀ c : Wd} {s₀ s : Shared} (hσ : S.σ = (0, [])) (hs : swapsWith value (some (.Name x p)) pos.line env = pure false) (hx : Slot' env x)
    (h : EF X A env S.G S.O S.σ value [il X.scr, .int 0] S.σ) (k : TR X A env ⟨Gset S.G x .pool, Odel S.O x, S.σ⟩ ss (.ret (.bool b) σ')) (F : FS X c₀ s₀ env S.G S.O c s) (hg : c.g = S.σ) (hp : c₀.pool = none) :
    wpAny (model X.prog X.w) A (execs (.Assign [.Name x p] value pos :: ss) env) (fun fl s' => fl = .ret (.bool b) ∧ (∃ h' tk, s' = { s₀ with heap := h', toks := tk }) ∧ ∀ b o, X.B.get? b = some o → s'.heap.get? b = some o) (fun _ _ => False) s := by
  obtain ⟨m, ol, B⟩ := F.body
  have hm0 : c.mat = none := F.ok.m0 (by rw [hg, hσ])
  have hm00 : c₀.mat = none := by rw [← F.ext.le.mat]; exact hm0
  have hpc : c.pool = none := F.ext.le.pool.trans hp
  refine wpAny_execs_cons (wpAny_Assign_Name (wpAny_mono (h.run c₀ s₀ c s F hg) (fun v s₁ ⟨c₁, fr, g₁⟩ => ?_) fun _ _ x => x) hs)
  obtain ⟨l, rfl, hl, e₁, w₁⟩ := fr.own F.ext
  have F₁ := F.step e₁
  have B₁ := B.step F.ok e₁
  obtain ⟨vs, n, hat, rr⟩ := w₁.at'
  obtain ⟨v, t, rfl, hv⟩ : ∃ v t, vs = [v, .int 0 t] ∧ Rep c₁ v (il X.scr) := by
    cases rr with
    | cons r rs => cases rs with
      | cons r' rs' => cases rs'; obtain ⟨t, rfl⟩ := r'.int_inv; exact ⟨_, t, rfl, r⟩
  have hm1 : c₁.mat = none := e₁.le.mat.trans hm0
  have hp1 : c₁.pool = none := e₁.le.pool.trans hpc
  have K := e₁.ok
  have holeN : ∀ {cc : Wd} b, cc.mat = none → (cc.res c₁.g (some (l, v)) cc.mat).hole b → b = l := fun b hm hb => by
    rcases hb with ⟨v, q⟩ | ⟨rs', q⟩ | ⟨a, rs', q, hb⟩
    · cases q; rfl
    · rw [show Wd.mat (Wd.res _ _ _ _) = none from hm] at q; cases q
    · rw [show Wd.mat (Wd.res _ _ _ _) = none from hm] at q; cases q
  have K' : Ok X (c₁.res c₁.g (some (l, v)) c₁.mat) s₁ := by
    refine ⟨K.base, K.c0, K.wd, fun a v' q => ?_, fun a rs q => ?_, fun a v' m' rs q q' => ?_, fun b hb => ?_, fun _ => hm1⟩
    · cases q
      refine ⟨w₁.cf, Rep.gen (c := c₁) (c' := c₁.res c₁.g (some (l, v)) c₁.mat) (fun _ _ e => e) (fun _ e => by rw [hp1] at e; cases e) (fun _ e => e) hv, t, n, ?_⟩
      rw [show ((c₁.res c₁.g (some (l, v)) c₁.mat).g.1 : Nat) = 0 by show c₁.g.1 = 0; rw [g₁, hσ]]
      exact hat
    · rw [show Wd.mat (Wd.res _ _ _ _) = none from hm1] at q; cases q
    · rw [show Wd.mat (Wd.res _ _ _ _) = none from hm1] at q'; cases q'
    · rw [holeN b hm1 hb]
      cases q : X.B.get? l with
      | none => rfl
      | some o => have := F.base₀ _ _ q; rw [w₁.new] at this; cases this
  obtain ⟨F₂, B₂⟩ := F₁.switch (g := c₁.g) (p := some (l, v)) (mt := c₁.mat) B₁ (fun _ e => by rw [hp1] at e; cases e) (fun _ e => e)
    (fun b hb => by
      rcases hb with ⟨v, q⟩ | ⟨rs', q⟩ | ⟨a, rs', q, hb⟩
      · rw [hp] at q; cases q
      · rw [hm00] at q; cases q
      · rw [hm00] at q; cases q)
    (fun u ds hu hb => by
      obtain ⟨_, _, bh, _, vs, n, z, _⟩ := B.own u ds hu
      rw [holeN _ hm1 hb, hl] at z; cases z) K'
  refine store_any (b := .g .pool) (σ := S.σ) F₂ B₂ hx (.pool rfl) fun s₃ m₃ ol₃ w₃ F₃ B₃ _ _ => ?_
  refine wpAny_mono (k.run _ s₀ _ s₃ F₃ g₁) (fun fl s₄ ⟨v, ef, c₄, e₄, r₄, g₄⟩ => ?_) fun _ _ x => x
  rw [r₄.bool_inv] at ef
  exact ⟨ef, e₄.keeps.same, e₄.ok.base⟩
end

section
set_option compiler.extract_closed false
variable {X : Sys}
local macro_rules | `(tactic| walk_at "sl") => `(tactic| first
  | exact slL rfl (by decide)
  | exact slC rfl (fun h => nomatch h) rfl (by decide)
  | (refine sl1 ?_; walk_at "sl")
  | (refine sl2 ?_ ?_ <;> walk_at "sl")
  | (refine sl3 ?_ ?_ ?_ <;> walk_at "sl"))
local macro_rules | `(tactic| walk_at "sub") => `(tactic| (refine St.sub.mk' ?_ ?_ rfl <;> repeat' first | exact Sub1.nil | exact SubO.nil | refine Sub1.cons rfl ?_ | refine SubO.cons rfl ?_))
local macro_rules | `(tactic| walk_at "es") => `(tactic| first
  | with_reducible exact ES.nil
  | ((with_reducible apply ESq.cons); exact rfl; (walk_at "ev"); (walk_at "es")))
local macro_rules | `(tactic| walk_at "eb") => `(tactic| first
  | with_reducible exact EB.nil
  | ((with_reducible apply EBq.o); exact rfl; (walk_at "ef"); (walk_at "eb"))
  | ((with_reducible apply EBq.g); exact rfl; (walk_at "ev"); (walk_at "eb")))
local macro_rules | `(tactic| walk_at "ebg") => `(tactic| first
  | with_reducible exact EB.nil
  | ((with_reducible apply EBq.g); exact rfl; (walk_at "ev"); (walk_at "ebg")))
local macro_rules | `(tactic| walk_at "sz") => `(tactic| first | assumption | decide | focus (simp; done) | omega | focus (simp; omega))
local macro_rules | `(tactic| walk_at "ef") => `(tactic| first
  | ((with_reducible apply EFq.listc); assumption; exact rfl; exact rfl; (walk_at "ev"); try (walk_at "sz"))
  | ((with_reducible apply EF.list); (walk_at "es"); try (walk_at "sz"))
  | ((with_reducible apply EF.slice); (walk_at "ev"); (walk_at "ev"); try (walk_at "sz"))
  | ((with_reducible apply EFq.cat); (walk_at "ev"); (walk_at "ev"); try (walk_at "sz"))
  | focus ((with_reducible apply EFq.rep); (walk_at "ev"); (walk_at "ev"); all_goals try (walk_at "sz")))
local macro_rules | `(tactic| walk_at "ev") => `(tactic| first
  | with_reducible exact EV.int
  | with_reducible exact EV.none
  | ((with_reducible apply EV.name); exact rfl; decide)
  | ((with_reducible apply EV.glob); assumption; exact rfl; exact Sys.Good.r0 (by assumption); decide)
  | ((with_reducible apply EV.glob); assumption; exact rfl; exact Sys.Good.r1 (by assumption); decide)
  | ((with_reducible apply EV.neg); (walk_at "ev"))
  | ((with_reducible apply EVq.add); (walk_at "ev"); (walk_at "ev"))
  | ((with_reducible apply EVq.sub); (walk_at "ev"); (walk_at "ev"))
  | ((with_reducible apply EVq.mul); (walk_at "ev"); (walk_at "ev"); try (walk_at "sz"))
  | ((with_reducible apply EVq.mod); (walk_at "ev"); (walk_at "ev"); try (walk_at "sz"))
  | focus ((with_reducible apply EVq.div); (walk_at "ev"); (walk_at "ev"); all_goals try (walk_at "sz"))
  | focus ((with_reducible apply EVq.pow); (walk_at "ev"); (walk_at "ev"); all_goals try (walk_at "sz"))
  | ((with_reducible apply EVq.len); assumption; exact rfl; exact rfl; (walk_at "ev"); try (walk_at "sz"))
  | ((with_reducible apply EVq.abs); assumption; exact rfl; exact rfl; (walk_at "ev"))
  | ((with_reducible apply EVq.max); assumption; assumption; exact rfl; exact rfl; exact rfl; (walk_at "ev"); (walk_at "ev"))
  | ((with_reducible apply EVq.intc); assumption; exact rfl; exact rfl; (walk_at "ev"))
  | focus ((with_reducible apply EVq.itemO); exact rfl; exact rfl; decide; (walk_at "ev"); all_goals try (first | exact rfl | walk_at "sz"))
  | focus ((with_reducible apply EV.itemT); (walk_at "ev"); (walk_at "ev"); all_goals try (first | exact rfl | walk_at "sz"))
  | focus ((with_reducible apply EV.item); (walk_at "ev"); (walk_at "ev"); all_goals try (first | assumption | walk_at "sz"))
  | ((with_reducible apply EV.tup); (walk_at "es"); try (walk_at "sz"))
  | ((with_reducible apply EV.ofF); (walk_at "ef"))
  | ((with_reducible apply EVq.call); assumption; assumption; exact rfl; exact rfl; exact rfl; (walk_at "es")))
local macro_rules | `(tactic| walk_at "co") => `(tactic| first | with_reducible exact CO.eq | with_reducible exact CO.ne | with_reducible exact CO.lt | with_reducible exact CO.le | with_reducible exact CO.gt | with_reducible exact CO.ge | with_reducible exact CO.is_int | with_reducible exact CO.is_none')
local macro_rules | `(tactic| walk_at "tv") => `(tactic| first
  | ((with_reducible apply TVq.cmp); (with_unfolding_all exact rfl); (walk_at "ev"); (walk_at "ev"); try (walk_at "co"))
  | with_reducible exact TV.and_nil
  | with_reducible exact TV.or_nil)
local macro_rules | `(tactic| walk_at "rng1") => `(tactic| focus (apply ITq.rng1; assumption; assumption; exact rfl; exact rfl; (walk_at "ev"); all_goals try (walk_at "sz")))
local macro_rules | `(tactic| walk_at "rng2") => `(tactic| focus (apply ITq.rng2; assumption; assumption; exact rfl; exact rfl; exact rfl; (walk_at "ev"); (walk_at "ev"); all_goals try (walk_at "sz")))
local macro_rules | `(tactic| walk_at "rng3") => `(tactic| focus (apply ITq.rng3; assumption; assumption; exact rfl; exact rfl; exact rfl; exact rfl; (walk_at "ev"); (walk_at "ev"); (walk_at "ev"); all_goals try (walk_at "sz")))
local macro_rules | `(tactic| walk_at "enm") => `(tactic| focus (apply ITq.enm; assumption; assumption; exact rfl; exact rfl; (walk_at "ev")))
local macro_rules | `(tactic| walk_at "lst") => `(tactic| focus (apply ITq.lst; assumption; (walk_at "ev")))
local macro_rules | `(tactic| walk_at "set") => `(tactic| (apply TRq.set; exact rfl; (walk_at "sl"); (walk_at "ev")))
local macro_rules | `(tactic| walk_at "setO") => `(tactic| (apply TRq.setO; exact rfl; (walk_at "sl"); (walk_at "ef")))
local macro_rules | `(tactic| walk_at "swap") => `(tactic| (apply TRq.swap; assumption; exact rfl; exact rfl; (walk_at "sl"); (walk_at "ebg"); exact rfl; exact (by simp)))
local macro_rules | `(tactic| walk_at "swapO") => `(tactic| (apply TRq.swap; assumption; exact rfl; exact rfl; (walk_at "sl"); (walk_at "eb"); exact rfl; exact (by simp)))
local macro_rules | `(tactic| walk_at "ret") => `(tactic| (apply TRq.ret; (walk_at "ev")))
local macro_rules | `(tactic| walk_at "retO") => `(tactic| (apply TRq.retO; exact rfl; exact rfl; decide))
local macro_rules | `(tactic| walk_at "kf") => `(tactic| repeat' first | exact KF.nil | refine KF.skip rfl ?_ | refine KF.hit rfl ?_)
local macro_rules | `(tactic| walk_at "cap") => `(tactic| (intro C; repeat' first | exact CapL.nil | refine CapL.cons rfl ⟨.inl rfl, .inl rfl, rfl⟩ ?_))
local macro_rules | `(tactic| walk_at "call") => `(tactic| (apply EVq.call; assumption; assumption; exact rfl; exact rfl; exact rfl))
local macro_rules | `(tactic| walk_at "retcall") => `(tactic| (apply TRq.ret; apply EVq.call; assumption; assumption; exact rfl; exact rfl; exact rfl))

/-! text Ct1 -/
noncomputable def eu : Nat → Nat × Nat → Nat × Nat
  | 0, p => p
  | i + 1, p => ((eu i p).2, (eu i p).1 % (eu i p).2)
theorem eu_end : ∀ (k : Nat) (p : Nat × Nat), p.2 ≤ k → ∃ n, (∀ i, i < n → (eu i p).2 ≠ 0) ∧ (eu n p).2 = 0 ∧ (eu n p).1 = Nat.gcd p.1 p.2
  | 0, p, h => ⟨0, fun i hi => by omega, by simpa [eu] using h, by have : p.2 = 0 := by omega
                                                                   simp [eu, this]⟩
  | k + 1, p, h => by
    by_cases hz : p.2 = 0
    · exact ⟨0, fun i hi => by omega, by simpa [eu] using hz, by simp [eu, hz]⟩
    · have hlt : p.1 % p.2 < p.2 := Nat.mod_lt _ (by omega)
      obtain ⟨n, h1, h2, h3⟩ := eu_end k (p.2, p.1 % p.2) (by show p.1 % p.2 ≤ k; omega)
      have sh : ∀ i, eu (i + 1) p = eu i (p.2, p.1 % p.2) := by
        intro i; induction i with
        | zero => rfl
        | succ i ih => rw [eu, ih]; rfl
      refine ⟨n + 1, fun i hi => ?_, by rw [sh]; exact h2, ?_⟩
      · cases i with
        | zero => exact hz
        | succ i => rw [sh]; exact h1 i (by omega)
      · rw [sh, h3, Nat.gcd_comm p.1 p.2]
        show Nat.gcd p.2 (p.1 % p.2) = _
        rw [Nat.gcd_rec p.2 p.1, Nat.gcd_comm]

theorem fmod_nat (x y : Nat) : (x : Int).fmod (y : Int) = ((x % y : Nat) : Int) := by
  rw [Int.fmod_eq_emod_of_nonneg _ (Int.natCast_nonneg y)]; rfl
theorem fdiv_nat (x y : Nat) : (x : Int).fdiv (y : Int) = ((x / y : Nat) : Int) := by
  rw [Int.fdiv_eq_ediv_of_nonneg _ (Int.natCast_nonneg y)]; rfl
theorem list_two {α : Type} {l : List α} (h : l.length = 2) : ∃ a b, l = [a, b] := by
  cases l with
  | nil => cases h
  | cons a l => obtain ⟨b, rfl⟩ := List.length_eq_one_iff.mp (Nat.succ.inj h); exact ⟨a, b, rfl⟩
theorem list_three {α : Type} {l : List α} (h : l.length = 3) : ∃ a b c, l = [a, b, c] := by
  cases l with
  | nil => cases h
  | cons a l => obtain ⟨b, c, rfl⟩ := list_two (Nat.succ.inj h); exact ⟨a, b, c, rfl⟩
theorem CT.bind2 {r : DefRec} {x y : Str} {d₁ d₂ d : D} {σ σ' : Gh} {k : Nat} {f : Str} (hX : X.prog = pw) (Y : X.Good) (hr : r ∈ recsOf pw) (hf : f = r.name)
    (hbind : ∀ pm code doc a b, bindArgs (Calls.docDef r.name r.params r.body r.scope pm code doc) ⟨[a, b], []⟩ = pure [(x, a), (y, b)]) (hkind : KS r.scope.names [x, y]) (hnd : x ≠ y)
    (h : ∀ A' pm code doc L a, Rm k A' → TR X A' (fenv r pm code doc L a) ⟨[(x, d₁), (y, d₂)], [], σ⟩ r.body (.ret d σ'))
    (hco : r.scope.isCoroutine = false := by rfl) (hgen : r.scope.isGenerator = false := by rfl) (hk : r.scope.kind = .function := by rfl) : CT X (k + 1) f σ [d₁, d₂] d σ' :=
  CT.mk (ns := [x, y]) hX Y hr hf (fun pm code doc vs h => by obtain ⟨a, b, rfl⟩ := list_two h; exact hbind pm code doc a b) hkind rfl (by simp [hnd]) h hco hgen hk
theorem CT.bind1 {r : DefRec} {x : Str} {d₁ d : D} {σ σ' : Gh} {k : Nat} {f : Str} (hX : X.prog = pw) (Y : X.Good) (hr : r ∈ recsOf pw) (hf : f = r.name)
    (hbind : ∀ pm code doc a, bindArgs (Calls.docDef r.name r.params r.body r.scope pm code doc) ⟨[a], []⟩ = pure [(x, a)]) (hkind : KS r.scope.names [x])
    (h : ∀ A' pm code doc L a, Rm k A' → TR X A' (fenv r pm code doc L a) ⟨[(x, d₁)], [], σ⟩ r.body (.ret d σ'))
    (hco : r.scope.isCoroutine = false := by rfl) (hgen : r.scope.isGenerator = false := by rfl) (hk : r.scope.kind = .function := by rfl) : CT X (k + 1) f σ [d₁] d σ' :=
  CT.mk (ns := [x]) hX Y hr hf (fun pm code doc vs h => by obtain ⟨a, rfl⟩ := List.length_eq_one_iff.mp h; exact hbind pm code doc a) hkind rfl (by simp) h hco hgen hk
theorem CT.bind3 {r : DefRec} {x y z : Str} {d₁ d₂ d₃ d : D} {σ σ' : Gh} {k : Nat} {f : Str} (hX : X.prog = pw) (Y : X.Good) (hr : r ∈ recsOf pw) (hf : f = r.name)
    (hbind : ∀ pm code doc a b c, bindArgs (Calls.docDef r.name r.params r.body r.scope pm code doc) ⟨[a, b, c], []⟩ = pure [(x, a), (y, b), (z, c)]) (hkind : KS r.scope.names [x, y, z]) (hnd : [x, y, z].Nodup)
    (h : ∀ A' pm code doc L a, Rm k A' → TR X A' (fenv r pm code doc L a) ⟨[(x, d₁), (y, d₂), (z, d₃)], [], σ⟩ r.body (.ret d σ'))
    (hco : r.scope.isCoroutine = false := by rfl) (hgen : r.scope.isGenerator = false := by rfl) (hk : r.scope.kind = .function := by rfl) : CT X (k + 1) f σ [d₁, d₂, d₃] d σ' :=
  CT.mk (ns := [x, y, z]) hX Y hr hf (fun pm code doc vs h => by obtain ⟨a, b, c, rfl⟩ := list_three h; exact hbind pm code doc a b c) hkind rfl hnd h hco hgen hk

theorem ct_gcd (Y : X.Good) (hX : X.prog = pw) {a b : Int} {σ : Gh} : CT X 1 "gcd" σ [.int a, .int b] (.int (Int.gcd a b)) σ := by
  refine CT.bind2 (r := recOf 3) (x := "a") (y := "b") hX Y mem_gcd rfl (fun _ _ _ _ _ => rfl) (.l rfl (.l rfl .nil)) (by decide) (fun A pm code doc L f hA => ?_)
  obtain ⟨n, h1, h2, h3⟩ := eu_end b.natAbs (a.natAbs, b.natAbs) (Nat.le_refl _)
  walk_at "swap"
  refine TR.pre (S' := ⟨[("a", .int (eu 0 (a.natAbs, b.natAbs)).1), ("b", .int (eu 0 (a.natAbs, b.natAbs)).2)], [], σ⟩) (by walk_at "sub") ?_
  refine TR.cons (TS.while (S := fun i => ⟨[("a", .int (eu i (a.natAbs, b.natAbs)).1), ("b", .int (eu i (a.natAbs, b.natAbs)).2)], [], σ⟩) n (fun i hi => ?_) (fun i hi => ?_) ?_) ?_
  · have := h1 i hi
    refine TV.to (by walk_at "tv") ?_
    simp; omega
  · have := h1 i hi
    have hz : ((eu i (a.natAbs, b.natAbs)).2 : Int) ≠ 0 := by omega
    refine TR.sub (S' := ?_) (by walk_at "swap"; exact TR.nil) ?_
    rw [fmod_nat]
    walk_at "sub"
  · refine TV.to (by walk_at "tv") ?_
    simp [h2]
  · refine TR.to (by walk_at "ret") ?_
    rw [h3]; rfl

/-! text Ct2 -/
noncomputable def q (x : Rat) : D := RatD x.num x.den
noncomputable def ql (l : List Rat) : D := .list (l.map q)
/-- a number that is not too big for the model's lines -/
structure Sm (i : Int) : Prop where
  lt : i.natAbs < 2 ^ 8500
structure Sz (x : Rat) : Prop where
  n : x.num.natAbs < 2 ^ 4000
  d : x.den < 2 ^ 4000
theorem Sm.bits {i : Int} (h : Sm i) : Builtin.Int.intBits i ≤ 8500 := by
  unfold Builtin.Int.intBits
  split
  · exact Nat.zero_le _
  · have : i.natAbs.log2 < 8500 := by
      rcases Nat.eq_zero_or_pos i.natAbs with h0 | hp
      · rw [h0]; decide
      · exact (Nat.log2_lt (Nat.ne_of_gt hp)).mpr h.lt
    omega
theorem mul_ok {i j : Int} (hi : Sm i) (hj : Sm j) : IntMulOk i j := by
  have h1 := hi.bits
  have h2 := hj.bits
  unfold IntMulOk Builtin.Int.intTooBig
  have : decide (((Builtin.Int.intBits i + Builtin.Int.intBits j : Nat) : Int) > bitsLine) = false := by
    have : (bitsLine : Int) = 134217728 := by decide
    simp [this]; omega
  intro hc
  simp only [Bool.and_eq_true] at hc
  have h3 := hc.2
  rw [← Int.natCast_add] at h3
  rw [this] at h3; cases h3
theorem Sm.log {i : Int} (h : Sm i) : i.natAbs.log2 < 9000 := by
  rcases Nat.eq_zero_or_pos i.natAbs with h0 | hp
  · rw [h0]; decide
  · exact Nat.lt_trans ((Nat.log2_lt (Nat.ne_of_gt hp)).mpr h.lt) (by decide)
theorem Sm.le {i j : Int} (h : Sm i) (hj : j.natAbs ≤ i.natAbs) : Sm j := ⟨Nat.lt_of_le_of_lt hj h.lt⟩
theorem pow_lt8 {n : Nat} (h : n < 2 ^ 4000) : n < 2 ^ 8500 := Nat.lt_trans h (Nat.pow_lt_pow_right (by decide) (by decide))
theorem Sz.num {x : Rat} (h : Sz x) : Sm x.num := ⟨pow_lt8 h.n⟩
theorem Sz.den {x : Rat} (h : Sz x) : Sm (x.den : Int) := ⟨pow_lt8 h.d⟩
theorem Sm.of {i : Int} (h : i.natAbs < 2 ^ 4000) : Sm i := ⟨pow_lt8 h⟩
theorem mul_lt8 {a b : Nat} (ha : a < 2 ^ 4000) (hb : b < 2 ^ 4000) : a * b < 2 ^ 8000 := by
  have := Nat.mul_lt_mul'' ha hb
  rwa [← Nat.pow_add] at this
theorem Sz.dd {x y : Rat} (h : Sz x) (h' : Sz y) : Sm ((x.den : Int) * y.den) := by
  have := mul_lt8 h.d h'.d
  refine ⟨Nat.lt_trans (m := 2 ^ 8000) ?_ (Nat.pow_lt_pow_right (by decide) (by decide))⟩
  rw [Int.natAbs_mul]; simpa using this
theorem Sz.dn {x y : Rat} (h : Sz x) (h' : Sz y) : Sm ((x.den : Int) * y.num) := by
  have := mul_lt8 h.d h'.n
  refine ⟨Nat.lt_trans (m := 2 ^ 8000) ?_ (Nat.pow_lt_pow_right (by decide) (by decide))⟩
  rw [Int.natAbs_mul]; simpa using this

theorem rat_pos {t b : Int} (hb : 0 < b) : t.fdiv (Int.gcd t b) = (Rat.divInt t b).num ∧ b.fdiv (Int.gcd t b) = ((Rat.divInt t b).den : Int) := by
  rw [Rat.num_divInt, Rat.den_divInt, if_neg (by omega), Int.fdiv_eq_ediv_of_nonneg _ (Int.natCast_nonneg _), Int.fdiv_eq_ediv_of_nonneg _ (Int.natCast_nonneg _), Int.sign_eq_one_of_pos hb, Int.one_mul, Int.gcd_comm b t]
  refine ⟨rfl, ?_⟩
  rw [Int.natCast_ediv, Int.natAbs_of_nonneg (by omega)]
theorem rat_neg {t b : Int} (hb : b < 0) : t.fdiv (0 - (Int.gcd t b : Int)) = (Rat.divInt t b).num ∧ b.fdiv (0 - (Int.gcd t b : Int)) = ((Rat.divInt t b).den : Int) := by
  have hg : 0 < (Int.gcd t b : Int) := by
    have := Int.gcd_pos_of_ne_zero_right t (show b ≠ 0 by omega); omega
  have hd1 : (Int.gcd t b : Int) ∣ t := Int.gcd_dvd_left ..
  have hd2 : (Int.gcd t b : Int) ∣ b := Int.gcd_dvd_right ..
  have key : ∀ x : Int, (Int.gcd t b : Int) ∣ x → x.fdiv (0 - (Int.gcd t b : Int)) = -(x / (Int.gcd t b : Int)) := by
    intro x hx
    obtain ⟨k, rfl⟩ := hx
    have hg' : (Int.gcd t b : Int) ≠ 0 := by omega
    rw [Int.mul_ediv_cancel_left _ hg', Int.zero_sub, show (Int.gcd t b : Int) * k = -(Int.gcd t b : Int) * -k by rw [Int.neg_mul_neg]]
    exact Int.mul_fdiv_cancel_left _ (by omega)
  rw [Rat.num_divInt, Rat.den_divInt, if_neg (by omega), key t hd1, key b hd2, Int.sign_eq_neg_one_of_neg hb, Int.gcd_comm b t]
  refine ⟨?_, ?_⟩
  · rw [show -1 * t = -t by omega, Int.neg_ediv_of_dvd hd1]
  · rw [Int.natCast_ediv, ← Int.neg_ediv_of_dvd hd2]; congr 1; omega

theorem ct_rat (Y : X.Good) (hX : X.prog = pw) {t b : Int} {σ : Gh} (hb : b ≠ 0) (hs : Sm b) : CT X 2 "rat" σ [.int t, .int b] (q (Rat.divInt t b)) σ := by
  refine CT.bind2 (r := recOf 7) (x := "top") (y := "bottom") hX Y mem_rat rfl (fun _ _ _ _ _ => rfl) (.l rfl (.l rfl .nil)) (by decide) (fun A pm code doc L f hA => ?_)
  refine TRq.ifF (by walk_at "tv") (by simpa using hb) ?_
  have hg0 : (Int.gcd t b : Int) ≠ 0 := by
    have := Int.gcd_pos_of_ne_zero_right t hb; omega
  have hgl : (Int.gcd t b) ≤ b.natAbs := Nat.le_of_dvd (by omega) (Int.gcd_dvd_natAbs_right t b)
  refine TRq.set (σ₁ := σ) (d := .int (if 0 < b then (Int.gcd t b : Int) else 0 - (Int.gcd t b : Int))) rfl (by walk_at "sl") (EV.ite (by walk_at "tv") (fun h => ?_) fun h => ?_) ?_
  · have h' : 0 < b := by simpa using h
    rw [if_pos h']
    walk_at "ev"
    · exact ct_gcd Y hX
    · decide
  · have h' : ¬ 0 < b := by simpa using h
    rw [if_neg h']
    walk_at "ev"
    · exact ct_gcd Y hX
    · decide
  · by_cases h : 0 < b
    · rw [if_pos h]
      obtain ⟨e1, e2⟩ := rat_pos (t := t) h
      have hsm : Sm (Int.gcd t b : Int) := hs.le (by simpa using hgl)
      have hl := hsm.log
      refine TR.to (by walk_at "ret") ?_
      rw [e1, e2]; rfl
    · rw [if_neg h]
      obtain ⟨e1, e2⟩ := rat_neg (t := t) (b := b) (by omega)
      have hsm : Sm (0 - (Int.gcd t b : Int)) := hs.le (by rw [Int.zero_sub, Int.natAbs_neg]; simpa using hgl)
      have hl := hsm.log
      have hg0' : (0 - (Int.gcd t b : Int)) ≠ 0 := by omega
      refine TR.to (by walk_at "ret") ?_
      rw [e1, e2]; rfl

/-! text Ct3 -/
theorem den_ne {x : Rat} : (x.den : Int) ≠ 0 := by have := x.den_nz; omega
theorem ct_radd (Y : X.Good) (hX : X.prog = pw) {a b : Rat} {σ : Gh} (ha : Sz a) (hb : Sz b) : CT X 3 "radd" σ [q a, q b] (q (a + b)) σ := by
  have h1 := mul_ok ha.num hb.den
  have h2 := mul_ok hb.num ha.den
  have h3 := mul_ok ha.den hb.den
  refine CT.bind2 (r := recOf 8) (x := "a") (y := "b") hX Y mem_radd rfl (fun _ _ _ _ _ => rfl) (.l rfl (.l rfl .nil)) (by decide) (fun A pm code doc L f hA => ?_)
  refine TR.to (d := q (Rat.divInt (a.num * b.den + b.num * a.den) (a.den * b.den))) ?_ ?_
  · unfold q RatD
    apply TRq.ret
    walk_at "ev"
    · exact ct_rat Y hX (Int.mul_ne_zero den_ne den_ne) (ha.dd hb)
    · decide
  · rw [← Rat.divInt_add_divInt _ _ den_ne den_ne, Rat.num_divInt_den, Rat.num_divInt_den]
theorem ct_rmul (Y : X.Good) (hX : X.prog = pw) {a b : Rat} {σ : Gh} (ha : Sz a) (hb : Sz b) : CT X 3 "rmul" σ [q a, q b] (q (a * b)) σ := by
  have h1 := mul_ok ha.num hb.num
  have h3 := mul_ok ha.den hb.den
  refine CT.bind2 (r := recOf 9) (x := "a") (y := "b") hX Y mem_rmul rfl (fun _ _ _ _ _ => rfl) (.l rfl (.l rfl .nil)) (by decide) (fun A pm code doc L f hA => ?_)
  refine TR.to (d := q (Rat.divInt (a.num * b.num) (a.den * b.den))) ?_ ?_
  · unfold q RatD
    apply TRq.ret
    walk_at "ev"
    · exact ct_rat Y hX (Int.mul_ne_zero den_ne den_ne) (ha.dd hb)
    · decide
  · rw [← Rat.divInt_mul_divInt, Rat.num_divInt_den, Rat.num_divInt_den]
theorem num_ne {x : Rat} (h : x ≠ 0) : x.num ≠ 0 := fun e => h (Rat.num_eq_zero.mp e)
theorem ct_rdiv (Y : X.Good) (hX : X.prog = pw) {a b : Rat} {σ : Gh} (ha : Sz a) (hb : Sz b) (h0 : b ≠ 0) : CT X 3 "rdiv" σ [q a, q b] (q (a / b)) σ := by
  have h1 := mul_ok ha.num hb.den
  have h3 := mul_ok ha.den hb.num
  refine CT.bind2 (r := recOf 10) (x := "a") (y := "b") hX Y mem_rdiv rfl (fun _ _ _ _ _ => rfl) (.l rfl (.l rfl .nil)) (by decide) (fun A pm code doc L f hA => ?_)
  refine TR.to (d := q (Rat.divInt (a.num * b.den) (a.den * b.num))) ?_ ?_
  · unfold q RatD
    apply TRq.ret
    walk_at "ev"
    · exact ct_rat Y hX (Int.mul_ne_zero den_ne (num_ne h0)) (ha.dn hb)
    · decide
  · rw [← Rat.divInt_mul_divInt, Rat.num_divInt_den, ← Rat.inv_divInt, Rat.num_divInt_den, Rat.div_def]
theorem ct_rneg (Y : X.Good) (hX : X.prog = pw) {a : Rat} {σ : Gh} : CT X 1 "rneg" σ [q a] (q (-a)) σ := by
  refine CT.bind1 (r := recOf 11) (x := "a") hX Y mem_rneg rfl (fun _ _ _ _ => rfl) (.l rfl .nil) (fun A pm code doc L f hA => ?_)
  refine TR.to (d := .tup [.int (0 - a.num), .int a.den]) ?_ ?_
  · unfold q RatD
    apply TRq.ret
    walk_at "ev"
  · unfold q RatD; rw [Int.zero_sub]; rfl
theorem ct_rinv (Y : X.Good) (hX : X.prog = pw) {a : Rat} {σ : Gh} (ha : Sz a) (h0 : a ≠ 0) : CT X 3 "rinv" σ [q a] (q a⁻¹) σ := by
  refine CT.bind1 (r := recOf 12) (x := "a") hX Y mem_rinv rfl (fun _ _ _ _ => rfl) (.l rfl .nil) (fun A pm code doc L f hA => ?_)
  refine TR.to (d := q (Rat.divInt a.den a.num)) ?_ ?_
  · unfold q RatD
    apply TRq.ret
    walk_at "ev"
    · exact ct_rat Y hX (num_ne h0) ha.num
    · decide
  · rw [Rat.inv_def]

/-! text Ct4 -/
/-- the length without what the test calls nothing at the end -/
noncomputable def tlen (p : Nat → Bool) : Nat → Nat
  | 0 => 0
  | n + 1 => if p n then n + 1 else tlen p n
theorem tlen_le (p : Nat → Bool) : ∀ n, tlen p n ≤ n
  | 0 => Nat.le_refl _
  | n + 1 => by unfold tlen; split; exact Nat.le_refl _; exact Nat.le_succ_of_le (tlen_le p n)
theorem tlen_zero (p : Nat → Bool) : ∀ n j, tlen p n ≤ j → j < n → p j = false
  | 0, j, _, h => by omega
  | n + 1, j, h, hj => by
    unfold tlen at h
    split at h
    · omega
    · rename_i hp
      by_cases e : j = n
      · subst e; simpa using hp
      · exact tlen_zero p n j h (by omega)
theorem tlen_last (p : Nat → Bool) : ∀ n, 0 < tlen p n → p (tlen p n - 1) = true
  | 0, h => by simp [tlen] at h
  | n + 1, h => by
    unfold tlen at h ⊢
    split
    · rename_i hp; simpa using hp
    · rename_i hp; rw [if_neg hp] at h; exact tlen_last p n h
noncomputable def ztl (l : List Int) : Nat := tlen (fun i => l.getD i 0 != 0) l.length
noncomputable def ztr (l : List Int) : List Int := l.take (ztl l)
noncomputable def qtl (l : List Rat) : Nat := tlen (fun i => (l.getD i 0).num != 0) l.length
noncomputable def qtr (l : List Rat) : List Rat := l.take (qtl l)

theorem item_il {l : List Int} {i : Int} (h0 : 0 ≤ i) (h : i < l.length) : D.item (l.map D.int) i = some (.int (l.getD i.toNat 0)) := by
  unfold D.item
  have : i.toNat < l.length := by omega
  rw [if_pos h0, List.getElem?_map, List.getElem?_eq_getElem this]; simp [List.getD_eq_getElem?_getD, List.getElem?_eq_getElem this]
theorem item_ql {l : List Rat} {i : Int} (h0 : 0 ≤ i) (h : i < l.length) : D.item (l.map q) i = some (RatD (l.getD i.toNat 0).num (l.getD i.toNat 0).den) := by
  unfold D.item
  have : i.toNat < l.length := by omega
  rw [if_pos h0, List.getElem?_map, List.getElem?_eq_getElem this]; simp [List.getD_eq_getElem?_getD, List.getElem?_eq_getElem this, q]
theorem upTo_nat {n k : Nat} : upTo n (k : Int) = k := by unfold upTo; rw [if_pos (by omega)]; omega

theorem ct_ztrim (Y : X.Good) (hX : X.prog = pw) {l : List Int} {σ : Gh} (hl : l.length ≤ 1000) : CT X 1 "ztrim" σ [il l] (il (ztr l)) σ := by
  refine CT.bind1 (r := recOf 29) (x := "row") hX Y mem_ztrim rfl (fun _ _ _ _ => rfl) (.l rfl .nil) (fun A pm code doc L f hA => ?_)
  unfold il
  have hle : ztl l ≤ l.length := tlen_le _ _
  have hb : (l.map D.int).length ≤ 100000 := by simp; omega
  walk_at "set"
  refine TR.pre (S' := ⟨[("row", .list (l.map .int)), ("size", .int ((l.length : Int) - (0 : Nat)))], [], σ⟩) (St.sub.mk' (.cons rfl (.cons (by rw [Gset_lookup]; simp) .nil)) .nil rfl) ?_
  refine TR.cons (TS.while (S := fun i => ⟨[("row", .list (l.map .int)), ("size", .int ((l.length : Int) - (i : Nat)))], [], σ⟩) (l.length - ztl l) (fun i hi => ?_) (fun i hi => ?_) ?_) ?_
  · have h0 : (0 : Int) ≤ (l.length : Int) - (i : Nat) - 1 := by omega
    have hx := item_il (l := l) h0 (by omega)
    refine TV.to (TV.and (by walk_at "tv") fun _ => TV.and (by walk_at "tv") fun _ => TV.and_nil) ?_
    have hz := tlen_zero (fun i => l.getD i 0 != 0) l.length (l.length - i - 1) (by unfold ztl at hi; omega) (by omega)
    have e : ((l.length : Int) - (i : Nat) - 1).toNat = l.length - i - 1 := by omega
    rw [e]
    simp only [bne_eq_false_iff_eq] at hz
    simp only [hz]
    simp; omega
  · refine TR.sub (TRq.sub (by walk_at "sl") rfl (by walk_at "ev") TR.nil) ?_
    rw [show (l.length : Int) - (i : Nat) - 1 = (l.length : Int) - ((i + 1 : Nat) : Int) by omega]
    walk_at "sub"
  · by_cases h : 0 < ztl l
    · have h0 : (0 : Int) ≤ (l.length : Int) - ((l.length - ztl l : Nat) : Nat) - 1 := by omega
      have hx := item_il (l := l) h0 (by omega)
      refine TV.to (TV.and (by walk_at "tv") fun _ => TV.and (by walk_at "tv") fun _ => TV.and_nil) ?_
      have hz : (l.getD (ztl l - 1) 0 != 0) = true := tlen_last (fun i => l.getD i 0 != 0) l.length h
      have hz' : (l.getD (ztl l - 1) 0 == 0) = false := by unfold bne at hz; simpa only [Bool.not_eq_true'] using hz
      have e : ((l.length : Int) - ((l.length - ztl l : Nat) : Nat) - 1).toNat = ztl l - 1 := by omega
      rw [e, hz', Bool.false_and, Bool.and_false]
    · refine TV.to (q := rfl) (TV.and (p := false) (q := false) (TV.to (by walk_at "tv") ?_) fun h => nomatch h)
      simp; omega
  · rw [show ((l.length : Int) - ((l.length - ztl l : Nat) : Nat)) = (ztl l : Nat) by omega]
    refine TR.to (by walk_at "ret") ?_
    rw [upTo_nat, ← List.map_take]; rfl
theorem ct_qtrim (Y : X.Good) (hX : X.prog = pw) {l : List Rat} {σ : Gh} (hl : l.length ≤ 1000) : CT X 1 "qtrim" σ [ql l] (ql (qtr l)) σ := by
  refine CT.bind1 (r := recOf 14) (x := "row") hX Y mem_qtrim rfl (fun _ _ _ _ => rfl) (.l rfl .nil) (fun A pm code doc L f hA => ?_)
  unfold ql
  have hle : qtl l ≤ l.length := tlen_le _ _
  have hb : (l.map q).length ≤ 100000 := by simp; omega
  walk_at "set"
  refine TR.pre (S' := ⟨[("row", .list (l.map q)), ("size", .int ((l.length : Int) - (0 : Nat)))], [], σ⟩) (St.sub.mk' (.cons rfl (.cons (by rw [Gset_lookup]; simp) .nil)) .nil rfl) ?_
  refine TR.cons (TS.while (S := fun i => ⟨[("row", .list (l.map q)), ("size", .int ((l.length : Int) - (i : Nat)))], [], σ⟩) (l.length - qtl l) (fun i hi => ?_) (fun i hi => ?_) ?_) ?_
  · have h0 : (0 : Int) ≤ (l.length : Int) - (i : Nat) - 1 := by omega
    have hx := item_ql (l := l) h0 (by omega)
    refine TV.to (TV.and (by walk_at "tv") fun _ => TV.and (by walk_at "tv") fun _ => TV.and_nil) ?_
    have hz := tlen_zero (fun i => (l.getD i 0).num != 0) l.length (l.length - i - 1) (by unfold qtl at hi; omega) (by omega)
    have e : ((l.length : Int) - (i : Nat) - 1).toNat = l.length - i - 1 := by omega
    rw [e]
    simp only [bne_eq_false_iff_eq] at hz
    simp only [hz]
    simp; omega
  · refine TR.sub (TRq.sub (by walk_at "sl") rfl (by walk_at "ev") TR.nil) ?_
    rw [show (l.length : Int) - (i : Nat) - 1 = (l.length : Int) - ((i + 1 : Nat) : Int) by omega]
    walk_at "sub"
  · by_cases h : 0 < qtl l
    · have h0 : (0 : Int) ≤ (l.length : Int) - ((l.length - qtl l : Nat) : Nat) - 1 := by omega
      have hx := item_ql (l := l) h0 (by omega)
      refine TV.to (TV.and (by walk_at "tv") fun _ => TV.and (by walk_at "tv") fun _ => TV.and_nil) ?_
      have hz : ((l.getD (qtl l - 1) 0).num != 0) = true := tlen_last (fun i => (l.getD i 0).num != 0) l.length h
      have hz' : ((l.getD (qtl l - 1) 0).num == 0) = false := by unfold bne at hz; simpa only [Bool.not_eq_true'] using hz
      have e : ((l.length : Int) - ((l.length - qtl l : Nat) : Nat) - 1).toNat = qtl l - 1 := by omega
      rw [e, hz', Bool.false_and, Bool.and_false]
    · refine TV.to (q := rfl) (TV.and (p := false) (q := false) (TV.to (by walk_at "tv") ?_) fun h => nomatch h)
      simp; omega
  · rw [show ((l.length : Int) - ((l.length - qtl l : Nat) : Nat)) = (qtl l : Nat) by omega]
    refine TR.to (by walk_at "ret") ?_
    rw [upTo_nat, ← List.map_take]; rfl

/-! text Ct5 -/
noncomputable def zadR (a b : List Int) : List Int := ztr ((List.range (max a.length b.length)).map fun i => a.getD i 0 + b.getD i 0)
theorem il_len (l : List Int) : (l.map D.int).length = l.length := List.length_map ..
theorem ql_len (l : List Rat) : (l.map q).length = l.length := List.length_map ..
theorem ct_zadd (Y : X.Good) (hX : X.prog = pw) {a b : List Int} {σ : Gh} (ha : a.length ≤ 1000) (hb : b.length ≤ 1000) : CT X 2 "zadd" σ [il a, il b] (il (zadR a b)) σ := by
  refine CT.bind2 (r := recOf 30) (x := "a") (y := "b") hX Y mem_zadd rfl (fun _ _ _ _ _ => rfl) (.c rfl (fun _ => rfl) (.c rfl (fun _ => rfl) .nil)) (by decide) (fun A pm code doc L f hA => ?_)
  unfold il
  have hla : (a.map D.int).length ≤ 100000 := by simp; omega
  have hlb : (b.map D.int).length ≤ 100000 := by simp; omega
  walk_at "set"
  refine TR.pre (S' := ⟨[("a", .list (a.map .int)), ("b", .list (b.map .int)), ("size", .int (max ((a.map D.int).length : Int) ((b.map D.int).length : Int)))], [], σ⟩) (by walk_at "sub") ?_
  refine TR.to (d := il (ztr ((List.range (max a.length b.length)).map fun i => a.getD i 0 + b.getD i 0))) ?_ rfl
  walk_at "retcall"
  · refine ESq.cons rfl (EV.to (d' := il ((List.range (max a.length b.length)).map fun i => a.getD i 0 + b.getD i 0)) (EV.ofF (EF.comp1 [("a", .list (a.map .int)), ("b", .list (b.map .int))] (n := (max ((a.map D.int).length : Int) ((b.map D.int).length : Int)).toNat) (f := fun i => .int (i : Int)) (d := fun i => .int (a.getD i 0 + b.getD i 0))
      (by walk_at "kf") (by decide) rfl (by decide) (by walk_at "cap") (by decide) rfl (fun _ => rfl) (fun _ => rfl) ?_ ?_ fun C O i hi => ?_)) ?_) ES.nil
    · walk_at "rng1"
    · omega
    · refine EVq.add (σ₁ := σ) (EV.ite (by walk_at "tv") (fun h => ?_) fun h => ?_) (EV.ite (by walk_at "tv") (fun h => ?_) fun h => ?_)
      · have hi' : i < a.length := by simpa using h
        have hx := item_il (l := a) (i := (i : Int)) (by omega) (by omega)
        walk_at "ev"
      · have hi' : ¬ i < a.length := by simpa using h
        rw [List.getD_eq_getElem?_getD, List.getElem?_eq_none (by omega)]
        exact EV.int
      · have hi' : i < b.length := by simpa using h
        have hx := item_il (l := b) (i := (i : Int)) (by omega) (by omega)
        walk_at "ev"
      · have hi' : ¬ i < b.length := by simpa using h
        rw [List.getD_eq_getElem?_getD, List.getElem?_eq_none (by omega)]
        exact EV.int
    · show D.list _ = il _
      unfold il
      rw [List.map_map, show (max ((a.map D.int).length : Int) ((b.map D.int).length : Int)).toNat = max a.length b.length by simp; omega]
      rfl
  · exact ct_ztrim Y hX (by simp; omega)
  · decide

/-! text Ct6 -/
theorem getD_il {p : List Int} {i : Nat} (h : i < p.length) : (p.map D.int).getD i .none = .int (p.getD i 0) := by
  simp [List.getD_eq_getElem?_getD, List.getElem?_map, List.getElem?_eq_getElem h]
theorem getD_ql {p : List Rat} {i : Nat} (h : i < p.length) : (p.map q).getD i .none = q (p.getD i 0) := by
  simp [List.getD_eq_getElem?_getD, List.getElem?_map, List.getElem?_eq_getElem h]
theorem range_map_int {β : Type} (p : List Int) (g : Int → β) : (List.range p.length).map (fun i => g (p.getD i 0)) = p.map g := by
  apply List.ext_getElem
  · simp
  · intro i h1 h2; simp at h1; simp [List.getD_eq_getElem?_getD, List.getElem?_eq_getElem h1]
theorem range_map_rat {β : Type} (p : List Rat) (g : Rat → β) : (List.range p.length).map (fun i => g (p.getD i 0)) = p.map g := by
  apply List.ext_getElem
  · simp
  · intro i h1 h2; simp at h1; simp [List.getD_eq_getElem?_getD, List.getElem?_eq_getElem h1]
theorem getD_memI {p : List Int} {i : Nat} (h : i < p.length) : p.getD i 0 ∈ p := by
  rw [List.getD_eq_getElem?_getD, List.getElem?_eq_getElem h]; exact List.getElem_mem h
theorem getD_memQ {p : List Rat} {i : Nat} (h : i < p.length) : p.getD i 0 ∈ p := by
  rw [List.getD_eq_getElem?_getD, List.getElem?_eq_getElem h]; exact List.getElem_mem h
theorem item_q {l : List Rat} {i : Int} (h0 : 0 ≤ i) (h : i < l.length) : D.item (l.map q) i = some (q (l.getD i.toNat 0)) := item_ql h0 h

noncomputable def zscR (p : List Int) (k : Int) : List Int := if k = 0 then [] else p.map (· * k)
theorem ct_zscale (Y : X.Good) (hX : X.prog = pw) {p : List Int} {k : Int} {σ : Gh} (hp : p.length ≤ 1000) (hs : ∀ x ∈ p, Sm x) (hk : Sm k) : CT X 1 "zscale" σ [il p, .int k] (il (zscR p k)) σ := by
  refine CT.bind2 (r := recOf 31) (x := "p") (y := "k") hX Y mem_zscale rfl (fun _ _ _ _ _ => rfl) (.l rfl (.c rfl (fun _ => rfl) .nil)) (by decide) (fun A pm code doc L f hA => ?_)
  unfold il
  have hla : (p.map D.int).length ≤ 100000 := by simp; omega
  refine TRq.ret (EV.ite (by walk_at "tv") (fun h => ?_) fun h => ?_)
  · have hk0 : k ≠ 0 := by simpa using h
    refine EV.to (EV.ofF (EF.comp1 [("k", .int k)] (n := (p.map D.int).length) (f := fun i => (p.map D.int).getD i .none) (d := fun i => .int (p.getD i 0 * k))
      (by walk_at "kf") (by decide) rfl (by decide) (by walk_at "cap") (by decide) rfl (fun _ => rfl) (fun _ => rfl) ?_ hla fun C O i hi => ?_)) ?_
    · walk_at "lst"
    · have hi' : i < p.length := by simpa using hi
      have hm := mul_ok (hs _ (getD_memI hi')) hk
      rw [getD_il hi']
      walk_at "ev"
    · rw [il_len, range_map_int p (fun x => D.int (x * k))]; unfold zscR; rw [if_neg hk0, List.map_map]; rfl
  · have hk0 : k = 0 := by simpa using h
    refine EV.to (d := .list []) (by walk_at "ev") ?_
    unfold zscR; rw [if_pos hk0]; rfl
noncomputable def qscR (p : List Rat) (r : Rat) : List Rat := if r = 0 then [] else p.map (· * r)
theorem ct_qscale (Y : X.Good) (hX : X.prog = pw) {p : List Rat} {r : Rat} {σ : Gh} (hp : p.length ≤ 1000) (hs : ∀ x ∈ p, Sz x) (hk : Sz r) : CT X 4 "qscale" σ [ql p, q r] (ql (qscR p r)) σ := by
  refine CT.bind2 (r := recOf 18) (x := "p") (y := "r") hX Y mem_qscale rfl (fun _ _ _ _ _ => rfl) (.l rfl (.c rfl (fun _ => rfl) .nil)) (by decide) (fun A pm code doc L f hA => ?_)
  have hla : (p.map q).length ≤ 100000 := by simp; omega
  refine TRq.ret (EV.ite (q := r.num != 0) ?_ (fun h => ?_) fun h => ?_)
  · unfold q RatD; walk_at "tv"
  · have hk0 : r ≠ 0 := fun e => by simp [e] at h
    refine EV.to (EV.ofF (EF.comp1 [("r", q r)] (n := (p.map q).length) (f := fun i => (p.map q).getD i .none) (d := fun i => q (p.getD i 0 * r))
      (by walk_at "kf") (by decide) rfl (by decide) (by walk_at "cap") (by decide) rfl (fun _ => rfl) (fun _ => rfl) ?_ hla fun C O i hi => ?_)) ?_
    · unfold ql; walk_at "lst"
    · have hi' : i < p.length := by simpa using hi
      rw [getD_ql hi']
      walk_at "call"
      · walk_at "es"
      · exact ct_rmul Y hX (hs _ (getD_memQ hi')) hk
      · decide
    · rw [ql_len, range_map_rat p (fun x => q (x * r))]; unfold qscR ql; rw [if_neg hk0, List.map_map]; rfl
  · have hk0 : r = 0 := by
      have : r.num = 0 := by simpa using h
      exact Rat.num_eq_zero.mp this
    refine EV.to (d := .list []) (by walk_at "ev") ?_
    unfold qscR; rw [if_pos hk0]; rfl
theorem ct_qneg (Y : X.Good) (hX : X.prog = pw) {p : List Rat} {σ : Gh} (hp : p.length ≤ 1000) : CT X 2 "qneg" σ [ql p] (ql (p.map (- ·))) σ := by
  refine CT.bind1 (r := recOf 16) (x := "p") hX Y mem_qneg rfl (fun _ _ _ _ => rfl) (.l rfl .nil) (fun A pm code doc L f hA => ?_)
  have hla : (p.map q).length ≤ 100000 := by simp; omega
  refine TRq.ret (EV.to (EV.ofF (EF.comp1 [] (n := (p.map q).length) (f := fun i => (p.map q).getD i .none) (d := fun i => q (-(p.getD i 0)))
      (by walk_at "kf") (by decide) rfl (by decide) (by walk_at "cap") (by decide) rfl (fun _ => rfl) (fun _ => rfl) ?_ hla fun C O i hi => ?_)) ?_)
  · unfold ql; walk_at "lst"
  · have hi' : i < p.length := by simpa using hi
    rw [getD_ql hi']
    walk_at "call"
    · walk_at "es"
    · exact ct_rneg Y hX
    · decide
  · rw [ql_len, range_map_rat p (fun x => q (-x))]; unfold ql; rw [List.map_map]; rfl
noncomputable def frz (z : List Int) : List Rat := z.map fun n : Int => (Int.cast n : Rat)
theorem ct_from_z (Y : X.Good) (hX : X.prog = pw) {p : List Int} {σ : Gh} (hp : p.length ≤ 1000) : CT X 1 "from_z" σ [il p] (ql (frz p)) σ := by
  refine CT.bind1 (r := recOf 23) (x := "z") hX Y mem_from_z rfl (fun _ _ _ _ => rfl) (.l rfl .nil) (fun A pm code doc L f hA => ?_)
  have hla : (p.map D.int).length ≤ 100000 := by simp; omega
  refine TRq.ret (EV.to (EV.ofF (EF.comp1 [] (n := (p.map D.int).length) (f := fun i => (p.map D.int).getD i .none) (d := fun i => q ((p.getD i 0 : Int) : Rat))
      (by walk_at "kf") (by decide) rfl (by decide) (by walk_at "cap") (by decide) rfl (fun _ => rfl) (fun _ => rfl) ?_ hla fun C O i hi => ?_)) ?_)
  · unfold il; walk_at "lst"
  · have hi' : i < p.length := by simpa using hi
    rw [getD_il hi']
    refine EV.to (d := .tup [.int (p.getD i 0), .int 1]) (by walk_at "ev") rfl
  · rw [il_len, range_map_int p (fun x => q ((x : Int) : Rat))]; unfold ql frz; rw [List.map_map]; rfl
noncomputable def qadR (a b : List Rat) : List Rat := qtr ((List.range (max a.length b.length)).map fun i => a.getD i 0 + b.getD i 0)
theorem Sz.zero : Sz 0 := ⟨Nat.pow_pos (by decide), Nat.one_lt_pow (by decide) (by decide)⟩
theorem Sz.getD {l : List Rat} (h : ∀ x ∈ l, Sz x) (i : Nat) : Sz (l.getD i 0) := by
  by_cases hi : i < l.length
  · exact h _ (getD_memQ hi)
  · rw [List.getD_eq_getElem?_getD, List.getElem?_eq_none (by omega)]; exact Sz.zero
theorem ct_qadd (Y : X.Good) (hX : X.prog = pw) {a b : List Rat} {σ : Gh} (ha : a.length ≤ 1000) (hb : b.length ≤ 1000) (hsa : ∀ x ∈ a, Sz x) (hsb : ∀ x ∈ b, Sz x) : CT X 4 "qadd" σ [ql a, ql b] (ql (qadR a b)) σ := by
  refine CT.bind2 (r := recOf 15) (x := "a") (y := "b") hX Y mem_qadd rfl (fun _ _ _ _ _ => rfl) (.c rfl (fun _ => rfl) (.c rfl (fun _ => rfl) .nil)) (by decide) (fun A pm code doc L f hA => ?_)
  have hla : (a.map q).length ≤ 100000 := by simp; omega
  have hlb : (b.map q).length ≤ 100000 := by simp; omega
  unfold ql
  walk_at "set"
  refine TR.pre (S' := ⟨[("a", .list (a.map q)), ("b", .list (b.map q)), ("size", .int (max ((a.map q).length : Int) ((b.map q).length : Int)))], [], σ⟩) (by walk_at "sub") ?_
  refine TR.to (d := ql (qtr ((List.range (max a.length b.length)).map fun i => a.getD i 0 + b.getD i 0))) ?_ rfl
  walk_at "retcall"
  · refine ESq.cons rfl (EV.to (d' := ql ((List.range (max a.length b.length)).map fun i => a.getD i 0 + b.getD i 0)) (EV.ofF (EF.comp1 [("a", .list (a.map q)), ("b", .list (b.map q))] (n := (max ((a.map q).length : Int) ((b.map q).length : Int)).toNat) (f := fun i => .int (i : Int)) (d := fun i => q (a.getD i 0 + b.getD i 0))
      (by walk_at "kf") (by decide) rfl (by decide) (by walk_at "cap") (by decide) rfl (fun _ => rfl) (fun _ => rfl) ?_ ?_ fun C O i hi => ?_)) ?_) ES.nil
    · walk_at "rng1"
    · omega
    · walk_at "call"
      · refine ESq.cons (d := q (a.getD i 0)) (σ₁ := σ) rfl (EV.ite (by walk_at "tv") (fun h => ?_) fun h => ?_) (ESq.cons (d := q (b.getD i 0)) (σ₁ := σ) rfl (EV.ite (by walk_at "tv") (fun h => ?_) fun h => ?_) ES.nil)
        · have hi' : i < a.length := by simpa using h
          have hx := item_q (l := a) (i := (i : Int)) (by omega) (by omega)
          walk_at "ev"
        · have hi' : ¬ i < a.length := by simpa using h
          rw [List.getD_eq_getElem?_getD, List.getElem?_eq_none (by omega)]
          exact EV.glob Y rfl Y.r0
        · have hi' : i < b.length := by simpa using h
          have hx := item_q (l := b) (i := (i : Int)) (by omega) (by omega)
          walk_at "ev"
        · have hi' : ¬ i < b.length := by simpa using h
          rw [List.getD_eq_getElem?_getD, List.getElem?_eq_none (by omega)]
          exact EV.glob Y rfl Y.r0
      · exact ct_radd Y hX (Sz.getD hsa i) (Sz.getD hsb i)
      · decide
    · unfold ql
      rw [List.map_map, show (max ((a.map q).length : Int) ((b.map q).length : Int)).toNat = max a.length b.length by simp; omega]
      rfl
  · exact ct_qtrim Y hX (by simp; omega)
  · decide
noncomputable def qsbR (a b : List Rat) : List Rat := qadR a (b.map (- ·))
theorem Sz.neg {x : Rat} (h : Sz x) : Sz (-x) := ⟨by rw [Rat.neg_num, Int.natAbs_neg]; exact h.n, h.d⟩
theorem ct_qsub (Y : X.Good) (hX : X.prog = pw) {a b : List Rat} {σ : Gh} (ha : a.length ≤ 1000) (hb : b.length ≤ 1000) (hsa : ∀ x ∈ a, Sz x) (hsb : ∀ x ∈ b, Sz x) : CT X 5 "qsub" σ [ql a, ql b] (ql (qsbR a b)) σ := by
  refine CT.bind2 (r := recOf 17) (x := "a") (y := "b") hX Y mem_qsub rfl (fun _ _ _ _ _ => rfl) (.l rfl (.l rfl .nil)) (by decide) (fun A pm code doc L f hA => ?_)
  walk_at "retcall"
  · apply ESq.cons
    · exact rfl
    · walk_at "ev"
    · apply ESq.cons
      · exact rfl
      · walk_at "call"
        · walk_at "es"
        · exact ct_qneg Y hX hb
        · decide
      · exact ES.nil
  · exact ct_qadd Y hX ha (by simpa using hb) hsa (fun x hx => by obtain ⟨y, hy, rfl⟩ := List.mem_map.mp hx; exact (hsb y hy).neg)
  · decide

/-! text Ct7 -/
noncomputable def qrsR (p : List Rat) (n : Nat) : List Rat := if p = [] then [] else List.replicate n 0 ++ p
theorem flat_one {α : Type} (n : Nat) (x : α) : (List.replicate n [x]).flatten = List.replicate n x := by simp
theorem q_zero : RatD 0 1 = q 0 := rfl
theorem q_one : RatD 1 1 = q 1 := rfl
theorem ct_qraise (Y : X.Good) (hX : X.prog = pw) {p : List Rat} {n : Nat} {σ : Gh} (hp : p.length ≤ 1000) (hn : n ≤ 1000) : CT X 1 "qraise" σ [ql p, .int n] (ql (qrsR p n)) σ := by
  refine CT.bind2 (r := recOf 19) (x := "p") (y := "many") hX Y mem_qraise rfl (fun _ _ _ _ _ => rfl) (.l rfl (.l rfl .nil)) (by decide) (fun A pm code doc L f hA => ?_)
  unfold ql
  have hla : (p.map q).length ≤ 100000 := by simp; omega
  have hn1 : ((n : Nat) : Int) ≤ 1000 := by omega
  refine TRq.ret (EV.ite (by walk_at "tv") (fun h => ?_) fun h => ?_)
  · have hk0 : p ≠ [] := by rintro rfl; simp at h
    refine EV.to (d := .list ((List.replicate n [RatD 0 1]).flatten ++ p.map q)) (EV.ofF (EFq.cat (σ₁ := σ) (EV.ofF (EFq.rep (σ₁ := σ) (by walk_at "ev") (by walk_at "ev") hn1 (by omega) (by simp))) (by walk_at "ev") ?_)) ?_
    · simp; omega
    · rw [flat_one]; unfold qrsR; rw [if_neg hk0, List.map_append, List.map_replicate]; rfl
  · have hk0 : p = [] := by
      cases p with
      | nil => rfl
      | cons x p => simp at h
    refine EV.to (d := .list []) (by walk_at "ev") ?_
    unfold qrsR; rw [if_pos hk0]; rfl

/-- one row of a product -/
noncomputable def qmRow (b : List Rat) (left : Rat) (one : Nat) : Nat → List Rat → List Rat
  | 0, f => f
  | j + 1, f => (qmRow b left one j f).set (one + j) ((qmRow b left one j f).getD (one + j) 0 + left * b.getD j 0)
noncomputable def qmAll (a b : List Rat) : Nat → List Rat
  | 0 => List.replicate (a.length + b.length - 1) 0
  | i + 1 => qmRow b (a.getD i 0) i b.length (qmAll a b i)
noncomputable def qmR (a b : List Rat) : List Rat := if a = [] ∨ b = [] then [] else qmAll a b a.length
theorem qmRow_len (b : List Rat) (l : Rat) (o : Nat) : ∀ j f, (qmRow b l o j f).length = f.length
  | 0, f => rfl
  | j + 1, f => by rw [qmRow, List.length_set, qmRow_len b l o j f]
theorem qmAll_len (a b : List Rat) : ∀ i, (qmAll a b i).length = a.length + b.length - 1
  | 0 => List.length_replicate
  | i + 1 => by rw [qmAll, qmRow_len, qmAll_len a b i]
structure QmOk (a b : List Rat) : Prop where
  ha : ∀ x ∈ a, Sz x
  hb : ∀ x ∈ b, Sz x
  s : ∀ i, i < a.length → ∀ j, j < b.length → Sz ((qmRow b (a.getD i 0) i j (qmAll a b i)).getD (i + j) 0) ∧ Sz (a.getD i 0 * b.getD j 0)
theorem ct_qmul (Y : X.Good) (hX : X.prog = pw) {a b : List Rat} {σ : Gh} (ha : a.length ≤ 400) (hb : b.length ≤ 400) (hs : QmOk a b) : CT X 5 "qmul" σ [ql a, ql b] (ql (qmR a b)) σ := by
  refine CT.bind2 (r := recOf 20) (x := "a") (y := "b") hX Y mem_qmul rfl (fun _ _ _ _ _ => rfl) (.l rfl (.l rfl .nil)) (by decide) (fun A pm code doc L f hA => ?_)
  unfold ql
  have hla : (a.map q).length ≤ 100000 := by simp; omega
  have hlb : (b.map q).length ≤ 100000 := by simp; omega
  by_cases he : a = [] ∨ b = []
  · refine TRq.ifR (b := true) (TV.to (TV.or (by walk_at "tv") fun _ => TV.or (by walk_at "tv") fun _ => TV.or_nil) ?_) rfl ?_
    · rcases he with rfl | rfl <;> simp
    · refine TR.to (by walk_at "ret") ?_
      unfold qmR; rw [if_pos he]; rfl
  · have ha0 : a.length ≠ 0 := fun h => he (.inl (List.length_eq_zero_iff.mp h))
    have hb0 : b.length ≠ 0 := fun h => he (.inr (List.length_eq_zero_iff.mp h))
    refine TRq.ifF (b := false) (TV.to (TV.or (p := false) (q := false) (TV.to (by walk_at "tv") ?_) fun _ => TV.to (TV.or (p := false) (q := false) (TV.to (by walk_at "tv") ?_) fun _ => TV.or_nil) rfl) rfl) rfl ?_
    · simp; intro h; exact ha0 (by simp [h])
    · simp; intro h; exact hb0 (by simp [h])
    have hr : ((a.map q).length : Int) + ((b.map q).length : Int) - 1 ≤ 1000 := by simp; omega
    have hr0 : -1000 ≤ ((a.map q).length : Int) + ((b.map q).length : Int) - 1 := by simp; omega
    walk_at "setO"
    have e0 : (List.replicate (((a.map q).length : Int) + ((b.map q).length : Int) - 1).toNat [RatD 0 1]).flatten = (qmAll a b 0).map q := by
      rw [flat_one, qmAll, List.map_replicate, q_zero, show (((a.map q).length : Int) + ((b.map q).length : Int) - 1).toNat = a.length + b.length - 1 by simp; omega]
    rw [e0]
    refine TRq.forEnm (σ₁ := σ) (fun i => ⟨[("a", .list (a.map q)), ("b", .list (b.map q))], [("found", (qmAll a b i).map q)], σ⟩) (a.map q) Y hA rfl rfl (fun _ => rfl) (by walk_at "sl") (by walk_at "sl") (by walk_at "ev") (by walk_at "sub") (fun i hi => ?_) ?_
    · have hi' : i < a.length := by simpa using hi
      rw [getD_ql hi']
      refine TR.pre (S' := ⟨[("a", .list (a.map q)), ("b", .list (b.map q)), ("one", .int i), ("left", q (a.getD i 0))], [("found", (qmAll a b i).map q)], σ⟩) (by walk_at "sub") ?_
      refine TR.sub (TRq.forEnm (σ₁ := σ) (fun j => ⟨[("a", .list (a.map q)), ("b", .list (b.map q)), ("one", .int i), ("left", q (a.getD i 0))], [("found", (qmRow b (a.getD i 0) i j (qmAll a b i)).map q)], σ⟩) (b.map q) Y hA rfl rfl (fun _ => rfl) (by walk_at "sl") (by walk_at "sl") (by walk_at "ev") ?_ (fun j hj => ?_) TR.nil) ?_
      · walk_at "sub"
      · have hj' : j < b.length := by simpa using hj
        rw [getD_ql hj']
        refine TR.pre (S' := ⟨[("a", .list (a.map q)), ("b", .list (b.map q)), ("one", .int i), ("left", q (a.getD i 0)), ("other", .int j), ("right", q (b.getD j 0))], [("found", (qmRow b (a.getD i 0) i j (qmAll a b i)).map q)], σ⟩) (by walk_at "sub") ?_
        have hlen : (qmRow b (a.getD i 0) i j (qmAll a b i)).length = a.length + b.length - 1 := by rw [qmRow_len, qmAll_len]
        have hx := item_q (l := qmRow b (a.getD i 0) i j (qmAll a b i)) (i := (i : Int) + (j : Int)) (by omega) (by rw [hlen]; omega)
        have et : ((i : Int) + (j : Int)).toNat = i + j := by omega
        rw [et] at hx
        have hlf : ((qmRow b (a.getD i 0) i j (qmAll a b i)).map q).length ≤ 100000 := by rw [List.length_map, hlen]; omega
        refine TR.sub (TRq.putItem (σ₁ := σ) (σ₂ := σ) (i := (i : Int) + (j : Int)) (d := q ((qmRow b (a.getD i 0) i j (qmAll a b i)).getD (i + j) 0 + a.getD i 0 * b.getD j 0)) rfl rfl rfl (by decide) ?_ (by walk_at "ev") (by omega) (by rw [List.length_map, hlen]; omega) hlf TR.nil) ?_
        · walk_at "call"
          · apply ESq.cons
            · exact rfl
            · walk_at "ev"
            · apply ESq.cons
              · exact rfl
              · walk_at "call"
                · walk_at "es"
                · exact ct_rmul Y hX (Sz.getD hs.ha i) (Sz.getD hs.hb j)
                · decide
              · exact ES.nil
          · exact ct_radd Y hX (hs.s i hi' j hj').1 (hs.s i hi' j hj').2
          · decide
        · refine St.sub.mk' (.cons rfl (.cons rfl (.cons rfl (.cons rfl .nil)))) (.cons ?_ .nil) rfl
          show some _ = some _
          rw [et, qmRow, List.map_set]
      · refine St.sub.mk' (.cons rfl (.cons rfl .nil)) (.cons ?_ .nil) rfl
        show some _ = some _
        rw [qmAll, ql_len]
    · refine TR.to (by walk_at "retO") ?_
      unfold qmR; rw [if_neg he, ql_len]

/-! text Ct8 -/
noncomputable def zmRow (b : List Int) (left : Int) (one : Nat) : Nat → List Int → List Int
  | 0, f => f
  | j + 1, f => (zmRow b left one j f).set (one + j) ((zmRow b left one j f).getD (one + j) 0 + left * b.getD j 0)
noncomputable def zmAll (a b : List Int) : Nat → List Int
  | 0 => List.replicate (a.length + b.length - 1) 0
  | i + 1 => if a.getD i 0 = 0 then zmAll a b i else zmRow b (a.getD i 0) i b.length (zmAll a b i)
noncomputable def zmR (a b : List Int) : List Int := if a = [] ∨ b = [] then [] else zmAll a b a.length
theorem zmRow_len (b : List Int) (l : Int) (o : Nat) : ∀ j f, (zmRow b l o j f).length = f.length
  | 0, f => rfl
  | j + 1, f => by rw [zmRow, List.length_set, zmRow_len b l o j f]
theorem zmAll_len (a b : List Int) : ∀ i, (zmAll a b i).length = a.length + b.length - 1
  | 0 => List.length_replicate
  | i + 1 => by rw [zmAll]; split; exact zmAll_len a b i; rw [zmRow_len, zmAll_len a b i]
theorem Sm.zero : Sm 0 := ⟨Nat.pow_pos (by decide)⟩
theorem Sm.getD {l : List Int} (h : ∀ x ∈ l, Sm x) (i : Nat) : Sm (l.getD i 0) := by
  by_cases hi : i < l.length
  · exact h _ (getD_memI hi)
  · rw [List.getD_eq_getElem?_getD, List.getElem?_eq_none (by omega)]; exact Sm.zero
theorem lookI {l : List Int} {k : Nat} (h : k < l.length) : (l.map D.int)[k]? = some (.int (l.getD k 0)) := by
  rw [List.getElem?_map, List.getElem?_eq_getElem h]; simp [List.getD_eq_getElem?_getD, List.getElem?_eq_getElem h]
theorem ct_zmul (Y : X.Good) (hX : X.prog = pw) {a b : List Int} {σ : Gh} (ha : a.length ≤ 400) (hb : b.length ≤ 400) (hsa : ∀ x ∈ a, Sm x) (hsb : ∀ x ∈ b, Sm x) : CT X 1 "zmul" σ [il a, il b] (il (zmR a b)) σ := by
  refine CT.bind2 (r := recOf 32) (x := "a") (y := "b") hX Y mem_zmul rfl (fun _ _ _ _ _ => rfl) (.l rfl (.l rfl .nil)) (by decide) (fun A pm code doc L f hA => ?_)
  unfold il
  have hla : (a.map D.int).length ≤ 100000 := by simp; omega
  have hlb : (b.map D.int).length ≤ 100000 := by simp; omega
  by_cases he : a = [] ∨ b = []
  · refine TRq.ifR (b := true) (TV.to (TV.or (by walk_at "tv") fun _ => TV.or (by walk_at "tv") fun _ => TV.or_nil) ?_) rfl ?_
    · rcases he with rfl | rfl <;> simp
    · refine TR.to (by walk_at "ret") ?_
      unfold zmR; rw [if_pos he]; rfl
  · have ha0 : a.length ≠ 0 := fun h => he (.inl (List.length_eq_zero_iff.mp h))
    have hb0 : b.length ≠ 0 := fun h => he (.inr (List.length_eq_zero_iff.mp h))
    refine TRq.ifF (b := false) (TV.to (TV.or (p := false) (q := false) (TV.to (by walk_at "tv") ?_) fun _ => TV.to (TV.or (p := false) (q := false) (TV.to (by walk_at "tv") ?_) fun _ => TV.or_nil) rfl) rfl) rfl ?_
    · simp; intro h; exact ha0 (by simp [h])
    · simp; intro h; exact hb0 (by simp [h])
    have hr : ((a.map D.int).length : Int) + ((b.map D.int).length : Int) - 1 ≤ 1000 := by simp; omega
    have hr0 : -1000 ≤ ((a.map D.int).length : Int) + ((b.map D.int).length : Int) - 1 := by simp; omega
    walk_at "setO"
    have e0 : (List.replicate (((a.map D.int).length : Int) + ((b.map D.int).length : Int) - 1).toNat [D.int 0]).flatten = (zmAll a b 0).map D.int := by
      rw [flat_one, zmAll, List.map_replicate, show (((a.map D.int).length : Int) + ((b.map D.int).length : Int) - 1).toNat = a.length + b.length - 1 by simp; omega]
    rw [e0]
    refine TRq.forEnm (σ₁ := σ) (fun i => ⟨[("a", .list (a.map D.int)), ("b", .list (b.map D.int))], [("found", (zmAll a b i).map D.int)], σ⟩) (a.map D.int) Y hA rfl rfl (fun _ => rfl) (by walk_at "sl") (by walk_at "sl") (by walk_at "ev") (by walk_at "sub") (fun i hi => ?_) ?_
    · have hi' : i < a.length := by simpa using hi
      rw [getD_il hi']
      refine TR.pre (S' := ⟨[("a", .list (a.map D.int)), ("b", .list (b.map D.int)), ("one", .int i), ("left", .int (a.getD i 0))], [("found", (zmAll a b i).map D.int)], σ⟩) (by walk_at "sub") ?_
      by_cases hz : a.getD i 0 = 0
      · refine TR.sub (TRq.ifF (by walk_at "tv") (by simpa using hz) TR.nil) (St.sub.mk' (.cons rfl (.cons rfl .nil)) (.cons ?_ .nil) rfl)
        show some _ = some _
        rw [zmAll, if_pos hz]
      refine TR.sub (TRq.ifT (S' := ⟨[("a", .list (a.map D.int)), ("b", .list (b.map D.int)), ("one", .int i), ("left", .int (a.getD i 0))], [("found", (zmRow b (a.getD i 0) i (b.map D.int).length (zmAll a b i)).map D.int)], σ⟩) (by walk_at "tv") (by simpa using hz) ?_ TR.nil) ?_
      · refine TRq.forEnm (σ₁ := σ) (fun j => ⟨[("a", .list (a.map D.int)), ("b", .list (b.map D.int)), ("one", .int i), ("left", .int (a.getD i 0))], [("found", (zmRow b (a.getD i 0) i j (zmAll a b i)).map D.int)], σ⟩) (b.map D.int) Y hA rfl rfl (fun _ => rfl) (by walk_at "sl") (by walk_at "sl") (by walk_at "ev") (by walk_at "sub") (fun j hj => ?_) TR.nil
        have hj' : j < b.length := by simpa using hj
        rw [getD_il hj']
        refine TR.pre (S' := ⟨[("a", .list (a.map D.int)), ("b", .list (b.map D.int)), ("one", .int i), ("left", .int (a.getD i 0)), ("other", .int j), ("right", .int (b.getD j 0))], [("found", (zmRow b (a.getD i 0) i j (zmAll a b i)).map D.int)], σ⟩) (by walk_at "sub") ?_
        have hlen : (zmRow b (a.getD i 0) i j (zmAll a b i)).length = a.length + b.length - 1 := by rw [zmRow_len, zmAll_len]
        have et : ((i : Int) + (j : Int)).toNat = i + j := by omega
        have hlf : ((zmRow b (a.getD i 0) i j (zmAll a b i)).map D.int).length ≤ 100000 := by rw [List.length_map, hlen]; omega
        have hm := mul_ok (Sm.getD hsa i) (Sm.getD hsb j)
        refine TR.sub (TRq.augItem (σ₁ := σ) (σ₂ := σ) (i := (i : Int) + (j : Int)) (a := (zmRow b (a.getD i 0) i j (zmAll a b i)).getD (i + j) 0) (b := a.getD i 0 * b.getD j 0) rfl (by intros; rfl) rfl (by decide) (by walk_at "ev") (by walk_at "ev") (by omega) (by rw [et]; exact lookI (by rw [hlen]; omega)) hlf TR.nil) ?_
        refine St.sub.mk' (.cons rfl (.cons rfl (.cons rfl (.cons rfl .nil)))) (.cons ?_ .nil) rfl
        show some _ = some _
        rw [et, zmRow, List.map_set]
      · refine St.sub.mk' (.cons rfl (.cons rfl .nil)) (.cons ?_ .nil) rfl
        show some _ = some _
        rw [zmAll, if_neg hz, il_len]
    · refine TR.to (by walk_at "retO") ?_
      unfold zmR; rw [if_neg he, il_len]

/-- powers: found, factor, many -/
noncomputable def zpS (p : List Int) (n : Nat) : Nat → List Int × List Int × Nat
  | 0 => ([1], p, n)
  | i + 1 => (if (zpS p n i).2.2 % 2 = 1 then zmR (zpS p n i).1 (zpS p n i).2.1 else (zpS p n i).1, if 1 < (zpS p n i).2.2 then zmR (zpS p n i).2.1 (zpS p n i).2.1 else (zpS p n i).2.1, (zpS p n i).2.2 / 2)
noncomputable def smB (l : List Int) : Bool := l.all (fun x => decide (x.natAbs < 2 ^ 100)) && decide (l.length ≤ 400)
theorem smB.sm {l : List Int} (h : smB l = true) : ∀ x ∈ l, Sm x := by
  unfold smB at h
  simp only [Bool.and_eq_true, List.all_eq_true, decide_eq_true_eq] at h
  exact fun x hx => ⟨Nat.lt_trans (h.1 x hx) (Nat.pow_lt_pow_right (by decide) (by decide))⟩
theorem smB.len {l : List Int} (h : smB l = true) : l.length ≤ 400 := by
  unfold smB at h
  simp only [Bool.and_eq_true, decide_eq_true_eq] at h
  exact h.2
noncomputable def zpOk (p : List Int) (n k : Nat) : Bool := (List.range k).all (fun i => (zpS p n i).2.2 != 0 && smB (zpS p n i).1 && smB (zpS p n i).2.1) && (zpS p n k).2.2 == 0 && smB (zpS p n k).1
theorem ct_zpower (Y : X.Good) (hX : X.prog = pw) {p : List Int} {n k : Nat} {σ : Gh} (hp : p.length ≤ 400) (hk : zpOk p n k = true) : CT X 2 "zpower" σ [il p, .int n] (il (zpS p n k).1) σ := by
  refine CT.bind2 (r := recOf 33) (x := "p") (y := "many") hX Y mem_zpower rfl (fun _ _ _ _ _ => rfl) (.l rfl (.l rfl .nil)) (by decide) (fun A pm code doc L f hA => ?_)
  unfold il
  unfold zpOk at hk
  simp only [Bool.and_eq_true, List.all_eq_true, List.mem_range, bne_iff_ne, beq_iff_eq] at hk
  obtain ⟨⟨h1, h2⟩, h3⟩ := hk
  have hla : (p.map D.int).length ≤ 100000 := by simp; omega
  walk_at "swap"
  refine TR.pre (S' := ⟨[("many", .int (zpS p n 0).2.2), ("found", .list ((zpS p n 0).1.map D.int)), ("factor", .list ((zpS p n 0).2.1.map D.int))], [], σ⟩) (by walk_at "sub") ?_
  refine TR.cons (TS.while (S := fun i => ⟨[("many", .int (zpS p n i).2.2), ("found", .list ((zpS p n i).1.map D.int)), ("factor", .list ((zpS p n i).2.1.map D.int))], [], σ⟩) k (fun i hi => ?_) (fun i hi => ?_) ?_) ?_
  · have := (h1 i hi).1.1
    refine TV.to (by walk_at "tv") ?_
    simp; omega
  · obtain ⟨⟨h4, h5⟩, h6⟩ := h1 i hi
    generalize hz : zpS p n i = z at h4 h5 h6
    obtain ⟨fo, fa, m⟩ := z
    simp only at h4 h5 h6
    have em : ((m : Int).fmod 2) = ((m % 2 : Nat) : Int) := fmod_nat m 2
    have ed : ((m : Int).fdiv 2) = ((m / 2 : Nat) : Int) := fdiv_nat m 2
    have hlog : (2 : Int).natAbs.log2 < 9000 := by decide
    have h20 : (2 : Int) ≠ 0 := by decide
    have hlo := h5 |> smB.len
    have hlf := h6 |> smB.len
    have e1 : zpS p n (i + 1) = (if m % 2 = 1 then zmR fo fa else fo, if 1 < m then zmR fa fa else fa, m / 2) := by rw [zpS, hz]
    rw [e1]
    refine TR.cons (S₁ := ⟨[("many", .int m), ("found", .list ((if m % 2 = 1 then zmR fo fa else fo).map D.int)), ("factor", .list (fa.map D.int))], [], σ⟩) (TS.ifT (q := ((m : Int).fmod 2 == 1)) (by walk_at "tv") (fun h => ?_) (fun h => ?_)) ?_
    · have hm : m % 2 = 1 := by rw [em] at h; have := eq_of_beq h; omega
      rw [if_pos hm]
      refine TR.sub (TRq.set (σ₁ := σ) (d := il (zmR fo fa)) rfl (by walk_at "sl") ?_ TR.nil) (by walk_at "sub")
      walk_at "call"
      · walk_at "es"
      · exact ct_zmul Y hX hlo hlf (smB.sm h5) (smB.sm h6)
      · decide
    · have hm : ¬ m % 2 = 1 := fun e => by rw [em, e] at h; simp at h
      rw [if_neg hm]
      exact TR.nil
    · refine TRq.set (σ₁ := σ) (d := il (if 1 < m then zmR fa fa else fa)) rfl (by walk_at "sl") (EV.ite (by walk_at "tv") (fun h => ?_) fun h => ?_) ?_
      · have hm : 1 < m := by simp at h; omega
        rw [if_pos hm]
        walk_at "call"
        · walk_at "es"
        · exact ct_zmul Y hX hlf hlf (smB.sm h6) (smB.sm h6)
        · decide
      · have hm : ¬ 1 < m := by simp at h; omega
        rw [if_neg hm]
        exact EV.name rfl
      · refine TR.sub (TRq.set (σ₁ := σ) (d := .int ((m : Int).fdiv 2)) rfl (by walk_at "sl") (by walk_at "ev") TR.nil) ?_
        rw [ed]
        walk_at "sub"
  · refine TV.to (by walk_at "tv") ?_
    simp [h2]
  · refine TR.to (by walk_at "ret") ?_
    rfl

/-! text Ct9 -/
theorem bits64 {i : Int} (h : i.natAbs < 2 ^ 64) : Builtin.Int.intBits i ≤ 64 := intBits_le_64 (by omega) (by omega)
/-- the shift by a number, its inner loop: the turns of `at` -/
noncomputable def zsIn (n : Int) (len : Nat) : Nat → List Int → List Int
  | 0, f => f
  | j + 1, f => (zsIn n len j f).set (len - 2 - j) ((zsIn n len j f).getD (len - 2 - j) 0 + n * (zsIn n len j f).getD (len - 2 - j + 1) 0)
noncomputable def zsOut (n : Int) (p : List Int) : Nat → List Int
  | 0 => p
  | low + 1 => zsIn n p.length (p.length - 1 - low) (zsOut n p low)
noncomputable def zsR (p : List Int) (n : Int) : List Int := zsOut n p (p.length - 1)
theorem zsIn_len (n : Int) (len : Nat) : ∀ j f, (zsIn n len j f).length = f.length
  | 0, f => rfl
  | j + 1, f => by rw [zsIn, List.length_set, zsIn_len n len j f]
theorem zsOut_len (n : Int) (p : List Int) : ∀ i, (zsOut n p i).length = p.length
  | 0 => rfl
  | i + 1 => by rw [zsOut, zsIn_len, zsOut_len n p i]
theorem ct_zshift (Y : X.Good) (hX : X.prog = pw) {p : List Int} {n : Int} {σ : Gh} (hp : p.length ≤ 400) (hn : n.natAbs < 2 ^ 64) : CT X 1 "zshift" σ [il p, .int n] (il (zsR p n)) σ := by
  refine CT.bind2 (r := recOf 34) (x := "p") (y := "n") hX Y mem_zshift rfl (fun _ _ _ _ _ => rfl) (.l rfl (.l rfl .nil)) (by decide) (fun A pm code doc L f hA => ?_)
  unfold il
  have hla : (p.map D.int).length ≤ 100000 := by simp; omega
  walk_at "setO"
  refine TRq.forRng1 (σ₁ := σ) (b := ((p.map D.int).length : Int) - 1) (fun i => ⟨[("p", .list (p.map D.int)), ("n", .int n)], [("found", (zsOut n p i).map D.int)], σ⟩) (p.length - 1) Y hA rfl rfl (fun _ => rfl) (by walk_at "sl") (by walk_at "ev") (by simp <;> omega) (by omega) (by omega) (by walk_at "sub") (fun low hl => ?_) ?_
  · refine TR.pre (S' := ⟨[("p", .list (p.map D.int)), ("n", .int n), ("low", .int low)], [("found", (zsOut n p low).map D.int)], σ⟩) (by walk_at "sub") ?_
    refine TR.sub (TRq.forRng3 (σ₁ := σ) (σ₂ := σ) (σ₃ := σ) (a := ((p.map D.int).length : Int) - 2) (b := (low : Int) - 1) (fun j => ⟨[("p", .list (p.map D.int)), ("n", .int n), ("low", .int low)], [("found", (zsIn n p.length j (zsOut n p low)).map D.int)], σ⟩) (p.length - 1 - low) Y hA rfl rfl rfl rfl (fun _ => rfl) (by walk_at "sl")
      (by walk_at "ev") (by walk_at "ev") (by walk_at "ev") (by simp <;> omega) (by simp <;> omega) (by omega) (by omega) (by omega) (by walk_at "sub") (fun j hj => ?_) TR.nil) ?_
    · have e : ((p.map D.int).length : Int) - 2 - (j : Int) = ((p.length - 2 - j : Nat) : Int) := by simp; omega
      rw [e]
      generalize hk : p.length - 2 - j = k
      have hk2 : k + 1 < p.length := by omega
      have hlen : (zsIn n p.length j (zsOut n p low)).length = p.length := by rw [zsIn_len, zsOut_len]
      generalize hg : zsIn n p.length j (zsOut n p low) = g at hlen
      have hnext : zsIn n p.length (j + 1) (zsOut n p low) = g.set k (g.getD k 0 + n * g.getD (k + 1) 0) := by rw [zsIn, hg, hk]
      rw [hnext]
      refine TR.pre (S' := ⟨[("p", .list (p.map D.int)), ("n", .int n), ("low", .int low), ("at", .int k)], [("found", g.map D.int)], σ⟩) (by walk_at "sub") ?_
      have hlf : (g.map D.int).length ≤ 100000 := by rw [List.length_map, hlen]; omega
      have hm : IntMulOk n (g.getD (k + 1) 0) := IntMulOk.of_left (bits64 hn)
      have hx := item_il (l := g) (i := (k : Int) + 1) (by omega) (by rw [hlen]; omega)
      rw [show ((k : Int) + 1).toNat = k + 1 by omega] at hx
      refine TR.sub (TRq.augItem (σ₁ := σ) (σ₂ := σ) (i := (k : Int)) (a := g.getD k 0) (b := n * g.getD (k + 1) 0) rfl (by intros; rfl) rfl (by decide) (by walk_at "ev") (by walk_at "ev") (by omega) (by simp only [Int.toNat_natCast]; exact lookI (by omega)) hlf TR.nil) ?_
      refine St.sub.mk' (.cons rfl (.cons rfl (.cons rfl .nil))) (.cons ?_ .nil) rfl
      show some _ = some _
      rw [Int.toNat_natCast, List.map_set]
    · refine St.sub.mk' (.cons rfl (.cons rfl .nil)) (.cons ?_ .nil) rfl
      show some _ = some _
      rw [zsOut]
  · refine TR.to (by walk_at "retO") ?_
    unfold zsR; rfl

noncomputable def chS (n : Int) : Nat → Int
  | 0 => 1
  | k + 1 => (chS n k * (n - k)).fdiv (k + 1)
theorem ct_choose (Y : X.Good) (hX : X.prog = pw) {n k : Nat} {σ : Gh} (hn : n ≤ 1000) (hk : k ≤ 1000) : CT X 1 "_law_choose" σ [.int n, .int k] (.int (chS n k)) σ := by
  refine CT.bind2 (r := recOf 37) (x := "n") (y := "k") hX Y mem_law_choose rfl (fun _ _ _ _ _ => rfl) (.l rfl (.l rfl .nil)) (by decide) (fun A pm code doc L f hA => ?_)
  walk_at "set"
  refine TRq.forRng1 (σ₁ := σ) (b := (k : Int)) (fun i => ⟨[("n", .int n), ("k", .int k), ("found", .int (chS n i))], [], σ⟩) k Y hA rfl rfl (fun _ => rfl) (by walk_at "sl") (by walk_at "ev") (by omega) (by omega) (by omega) (by walk_at "sub") (fun i hi => ?_) ?_
  · refine TR.pre (S' := ⟨[("n", .int n), ("k", .int k), ("found", .int (chS n i)), ("at", .int i)], [], σ⟩) (by walk_at "sub") ?_
    have hm : IntMulOk (chS n i) ((n : Int) - (i : Int)) := IntMulOk.of_right (bits64 (by omega))
    have h0 : (i : Int) + 1 ≠ 0 := by omega
    have hl : ((i : Int) + 1).natAbs.log2 < 9000 := by
      have : ((i : Int) + 1).natAbs = i + 1 := by omega
      rw [this]
      exact Nat.lt_trans ((Nat.log2_lt (by omega)).mpr (Nat.lt_of_le_of_lt (by omega : i + 1 ≤ 1000) (by decide : 1000 < 2 ^ 10))) (by decide)
    refine TR.sub (TRq.set (σ₁ := σ) (d := .int (chS n (i + 1))) rfl (by walk_at "sl") (EV.to (d := .int ((chS n i * ((n : Int) - (i : Int))).fdiv ((i : Int) + 1))) (by walk_at "ev") rfl) TR.nil) (by walk_at "sub")
  · walk_at "ret"

/-! text Ct10 -/
theorem EF.compE {A : Around} {env : Env} {G : Gam} {O : Oms} {σ : Gh} (G' : Gam) {elt e t : Expr} {x y : Str} {px py pp qq pc : Pos} {kk K : Nat} {scope : Scope} {pos : Pos} {ds : List D} {qf : Nat → Bool} {d : Nat → D}
    (hfree : KF env scope.names) (hcell : ∀ y ∈ scope.names, y.2 ≠ .cell) (hkind : scope.kind = .function) (hnames : ∀ y ∈ scope.names, y.2 = .local → scope.names.lookup y.1 = some .local)
    (hcap : ∀ C, CapL G env (ienv scope env C) G') (hx : x ≠ hid) (hx' : G'.lookup x = none) (hy : y ≠ hid) (hy' : G'.lookup y = none) (hl : ∀ C, (ienv scope env C).kindOf x = some .local) (hl' : ∀ C, (ienv scope env C).kindOf y = some .local)
    (hs : ∀ x, foldedSetIterable (.Call (.Name "enumerate" qq) [e] [] pc) env x = pure x) (Y : X.Good) (hA : Rm K A) (hk : env.kindOf "enumerate" = some .globalImplicit) (he : starEach [e] env = (false, eval e env) :: starEach [] env)
    (hi : EV X A env G O σ e (.list ds) σ) (hn : ds.length ≤ 100000)
    (htest : ∀ C O i, i < ds.length → TV X A (ienv scope env C) (Gset (Gset G' x (.int i)) y (ds.getD i .none)) O σ t (qf i))
    (helt : ∀ C O i, i < ds.length → qf i = true → EV X A (ienv scope env C) (Gset (Gset G' x (.int i)) y (ds.getD i .none)) O σ elt (d i) σ) :
    EF X A env G O σ (.ListComp elt [⟨.Tuple [.Name x px, .Name y py] kk pp, .Call (.Name "enumerate" qq) [e] [] pc, [t], 0⟩] scope pos) (((List.range ds.length).filter qf).map d) σ :=
  EF.comp (X := X) (A := A) (env := env) (G := G) (O := O) (σ := σ) (G' := G') (elt := elt) (target := .Tuple [.Name x px, .Name y py] kk pp) (iter := .Call (.Name "enumerate" qq) [e] [] pc) (ifs := [t]) (scope := scope) (pos := pos) (n := ds.length)
    (iv := fun i => .pair i (ds.getD i .none)) (bds := fun i => [(x, .g (.int i)), (y, .g (ds.getD i .none))]) (σs := fun _ => σ) (q := qf) (d := d) (ITq.enm Y hA hk he hi) hn hfree.get hcell hkind hnames (fun C => (hcap C).get)
    (fun i _ p hp => by
      rcases List.mem_cons.mp hp with rfl | hp
      · exact ⟨hx, hx'⟩
      · rw [List.mem_singleton.mp hp]; exact ⟨hy, hy'⟩)
    (fun C i _ => Tg.pair hA.1 (slL (hl C) hx) (slL (hl' C) hy)) (fun C O i h => TF.one (htest C O i h)) (fun C O i h hq => helt C O i h hq) (fun i _ _ => rfl) hs

noncomputable def laT (f : List Int) (place : Int) (order : Nat) (i : Nat) : Int := chS i order * f.getD i 0 * place ^ (i - order)
noncomputable def laR (f : List Int) (place : Int) (order : Nat) : Int := (((List.range f.length).filter (fun i => decide (order ≤ i))).map (laT f place order)).sum
theorem pow_bits {p : Int} {k : Nat} (hp : p.natAbs ≤ 16) (hk : k ≤ 12) : Builtin.Int.intBits (p ^ k) ≤ 64 := by
  refine bits64 ?_
  rw [Int.natAbs_pow]
  exact Nat.lt_of_le_of_lt (Nat.le_trans (Nat.pow_le_pow_left hp k) (Nat.pow_le_pow_right (by decide) hk)) (by decide)
theorem sum_bound : ∀ (l : List Int), (∀ x ∈ l, x.natAbs ≤ 2 ^ 50) → l.sum.natAbs ≤ l.length * 2 ^ 50
  | [], _ => by simp
  | x :: l, h => by
    have ih := sum_bound l fun y hy => h y (by simp [hy])
    have hx := h x (by simp)
    simp only [List.sum_cons, List.length_cons]
    have := Int.natAbs_add_le x l.sum
    omega
theorem inLong_of {l : List Int} (h : ∀ x ∈ l, x.natAbs ≤ 2 ^ 50) (hl : l.length ≤ 12) : ∀ j, j < l.length → InLong (l.getD j 0) ∧ InLong ((l.take (j + 1)).sum) := fun j hj => by
  have h1 := h _ (getD_memI hj)
  have h2 := sum_bound (l.take (j + 1)) fun x hx => h x (List.mem_of_mem_take hx)
  have h3 : (l.take (j + 1)).length ≤ 12 := Nat.le_trans (List.length_take_le ..) (by omega)
  unfold InLong
  generalize l.getD j 0 = a at *
  generalize (l.take (j + 1)).sum = b at *
  generalize (l.take (j + 1)).length = c at *
  have : c * 2 ^ 50 ≤ 12 * 2 ^ 50 := Nat.mul_le_mul_right _ h3
  omega
theorem ct_law_at (Y : X.Good) (hX : X.prog = pw) {f : List Int} {place : Int} {order : Nat} {σ : Gh} (hf : f.length ≤ 12) (hfs : ∀ x ∈ f, x.natAbs < 2 ^ 64) (hp : place.natAbs ≤ 16) (ho : order ≤ 12) (hv : ∀ i, order ≤ i → i < f.length → (laT f place order i).natAbs ≤ 2 ^ 50) :
    CT X 2 "_law_at" σ [il f, .int place, .int order] (.int (laR f place order)) σ := by
  refine CT.bind3 (r := recOf 38) (x := "f") (y := "place") (z := "order") hX Y mem_law_at rfl (fun _ _ _ _ _ _ => rfl) (.l rfl (.c rfl (fun _ => rfl) (.c rfl (fun _ => rfl) .nil))) (by decide) (fun A pm code doc L a hA => ?_)
  unfold il
  have hla : (f.map D.int).length ≤ 100000 := by simp; omega
  apply TRq.ret
  refine EVq.sum Y hA rfl rfl (EV.to (EV.ofF (EF.compE [("place", .int place), ("order", .int order)] (ds := f.map D.int) (qf := fun i => decide (order ≤ i)) (d := fun i => .int (laT f place order i))
    (by walk_at "kf") (by decide) rfl (by decide) (by walk_at "cap") (by decide) rfl (by decide) rfl (fun _ => rfl) (fun _ => rfl) (fun _ => rfl) Y hA rfl rfl (by walk_at "ev") hla (fun C O i hi => ?_) fun C O i hi hq => ?_)) ?_) ?_
  · refine TV.to (by walk_at "tv") ?_
    simp
  · have hi' : i < f.length := by simpa using hi
    have hoi : order ≤ i := by simpa using hq
    rw [getD_il hi']
    have hfi := hfs _ (getD_memI hi')
    have hm1 : IntMulOk (chS i order) (f.getD i 0) := IntMulOk.of_right (bits64 hfi)
    have e : ((i : Int) - (order : Int)).toNat = i - order := by omega
    have hm2 : IntMulOk (chS i order * f.getD i 0) (place ^ ((i : Int) - (order : Int)).toNat) := IntMulOk.of_right (by rw [e]; exact pow_bits hp (by omega))
    have h0 : (0 : Int) ≤ (i : Int) - (order : Int) := by omega
    have hb : (Builtin.Int.intBits place : Int) * ((i : Int) - (order : Int)) ≤ 2 ^ 27 := by
      have h1 := bits64 (i := place) (by omega)
      have h2 : (Builtin.Int.intBits place : Int) ≤ 64 := by omega
      have h3 : (i : Int) - (order : Int) ≤ 12 := by omega
      have := Int.mul_le_mul h2 h3 h0 (by omega)
      omega
    refine EV.to (d := .int (chS i order * f.getD i 0 * place ^ ((i : Int) - (order : Int)).toNat)) (EVq.mul (σ₁ := σ) (EVq.mul (σ₁ := σ) ?_ (by walk_at "ev") hm1) (by walk_at "ev") hm2) (by rw [e]; rfl)
    walk_at "call"
    · walk_at "es"
    · exact ct_choose Y hX (by omega) (by omega)
    · decide
  · unfold il
    rw [il_len, List.map_map]; rfl
  · refine inLong_of (fun x hx => ?_) ?_
    · obtain ⟨i, hi, rfl⟩ := List.mem_map.mp hx
      rw [List.mem_filter] at hi
      exact hv i (by simpa using hi.2) (by simpa using hi.1)
    · rw [List.length_map]
      exact Nat.le_trans (List.length_filter_le ..) (by simpa using hf)

/-! text Ct11 -/
theorem item_last {l : List Rat} (h : l ≠ []) : D.item (l.map q) (-1) = some (q (l.getD (l.length - 1) 0)) := by
  have h1 : 0 < l.length := List.length_pos_iff.mpr h
  unfold D.item
  rw [if_neg (by omega), if_pos (by simp; omega), List.length_map, show (-1 + (l.length : Int)).toNat = l.length - 1 by omega, List.getElem?_map, List.getElem?_eq_getElem (by omega)]
  simp [List.getD_eq_getElem?_getD, List.getElem?_eq_getElem (show l.length - 1 < l.length by omega)]
theorem upTo_neg {n : Nat} (h : 0 < n) : upTo n (-1) = n - 1 := by unfold upTo; rw [if_neg (by omega)]; omega
noncomputable def lst (l : List Rat) : Rat := l.getD (l.length - 1) 0
noncomputable def bel (l : List Rat) : List Rat := l.take (l.length - 1)
noncomputable def qdN (b r : List Rat) : Rat := lst r / lst b
noncomputable def qdStep (b : List Rat) (s : List Rat × List Rat) : List Rat × List Rat :=
  if s.1.length < b.length then s else (qsbR (bel s.1) (qrsR (qscR (bel b) (qdN b s.1)) (s.1.length - b.length)), s.2.set (s.1.length - b.length) (qdN b s.1))
noncomputable def qdS (a b : List Rat) : Nat → List Rat × List Rat
  | 0 => (a, List.replicate (a.length + 1 - b.length) 0)
  | i + 1 => qdStep b (qdS a b i)
structure QdOk (a b : List Rat) (k : Nat) : Prop where
  hb : b ≠ []
  hl : lst b ≠ 0
  sb : ∀ x ∈ b, Sz x
  st : ∀ i, i < k → b.length ≤ (qdS a b i).1.length ∧ (qdS a b i).1.length ≤ a.length ∧ (∀ x ∈ (qdS a b i).1, Sz x) ∧ Sz (qdN b (qdS a b i).1) ∧ ∀ x ∈ qscR (bel b) (qdN b (qdS a b i).1), Sz x
  en : (qdS a b k).1.length < b.length
theorem qdS_len (a b : List Rat) : ∀ i, (qdS a b i).2.length = a.length + 1 - b.length
  | 0 => List.length_replicate
  | i + 1 => by
    rw [qdS, qdStep]
    split
    · exact qdS_len a b i
    · rw [List.length_set]; exact qdS_len a b i
theorem lst_mem {l : List Rat} (h : l ≠ []) : lst l ∈ l := getD_memQ (by have := List.length_pos_iff.mpr h; omega)
theorem qscR_len (p : List Rat) (r : Rat) : (qscR p r).length ≤ p.length := by unfold qscR; split <;> simp
theorem qrsR_len (p : List Rat) (n : Nat) : (qrsR p n).length ≤ n + p.length := by unfold qrsR; split <;> simp
theorem bel_len (l : List Rat) : (bel l).length = l.length - 1 := by unfold bel; rw [List.length_take]; omega
theorem ct_qdivmod (Y : X.Good) (hX : X.prog = pw) {a b : List Rat} {k : Nat} {σ : Gh} (ha : a.length ≤ 400) (hb : b.length ≤ 400) (hk : QdOk a b k) :
    CT X 6 "qdivmod" σ [ql a, ql b] (.tup [ql (qtr (qdS a b k).2), ql (qdS a b k).1]) σ := by
  refine CT.bind2 (r := recOf 21) (x := "a") (y := "b") hX Y mem_qdivmod rfl (fun _ _ _ _ _ => rfl) (.l rfl (.l rfl .nil)) (by decide) (fun A pm code doc L f hA => ?_)
  unfold ql
  have hla : (a.map q).length ≤ 100000 := by simp; omega
  have hlb : (b.map q).length ≤ 100000 := by simp; omega
  have hb0 : 0 < b.length := List.length_pos_iff.mpr hk.hb
  refine TRq.ifF (by walk_at "tv") (by simp; intro h; exact hk.hb h) ?_
  have hr : max 0 (((a.map q).length : Int) - ((b.map q).length : Int) + 1) ≤ 1000 := by simp; omega
  have hr0 : -1000 ≤ max 0 (((a.map q).length : Int) - ((b.map q).length : Int) + 1) := by omega
  refine TRq.swap (σ₁ := σ) (names := ["rest", "found"]) (bs := [.g (.list (a.map q)), .o ((qdS a b 0).2.map q)]) hA rfl rfl (by walk_at "sl") ?_ rfl (by simp) ?_
  · refine EBq.g rfl (σ₁ := σ) (by walk_at "ev") (EBq.o rfl (σ₁ := σ) ?_ EB.nil)
    have e0 : (qdS a b 0).2.map q = (List.replicate (max 0 (((a.map q).length : Int) - ((b.map q).length : Int) + 1)).toNat [RatD 0 1]).flatten := by
      rw [flat_one, qdS, List.map_replicate, q_zero, show (max 0 (((a.map q).length : Int) - ((b.map q).length : Int) + 1)).toNat = a.length + 1 - b.length by simp; omega]
    rw [e0]
    walk_at "ef"
  refine TR.pre (S' := ⟨[("b", .list (b.map q)), ("rest", .list ((qdS a b 0).1.map q))], [("found", (qdS a b 0).2.map q)], σ⟩) (by walk_at "sub") ?_
  refine TR.cons (TS.while (S := fun i => ⟨[("b", .list (b.map q)), ("rest", .list ((qdS a b i).1.map q))], [("found", (qdS a b i).2.map q)], σ⟩) k (fun i hi => ?_) (fun i hi => ?_) ?_) ?_
  · obtain ⟨h1, h2, h3, h4, h5⟩ := hk.st i hi
    have hlr : ((qdS a b i).1.map q).length ≤ 100000 := by simp; omega
    refine TV.to (by walk_at "tv") ?_
    simp; omega
  · obtain ⟨h1, h2, h3, h4, h5⟩ := hk.st i hi
    have hfl := qdS_len a b i
    have hs : qdS a b (i + 1) = qdStep b (qdS a b i) := rfl
    rw [hs]
    generalize qdS a b i = z at h1 h2 h3 h4 h5 hfl
    obtain ⟨r, fo⟩ := z
    simp only at h1 h2 h3 h4 h5 hfl
    have hst : qdStep b (r, fo) = (qsbR (bel r) (qrsR (qscR (bel b) (qdN b r)) (r.length - b.length)), fo.set (r.length - b.length) (qdN b r)) := by unfold qdStep; rw [if_neg (by simp only; omega)]
    rw [hst]
    have hr0 : r ≠ [] := List.length_pos_iff.mp (by omega)
    have hlr : (r.map q).length ≤ 100000 := by simp; omega
    have hx1 := item_last hr0
    have hx2 := item_last hk.hb
    have hbr := bel_len r
    have hbb := bel_len b
    refine TRq.swap (σ₁ := σ) (names := ["number", "power"]) (bs := [.g (q (qdN b r)), .g (.int ((r.length : Int) - (b.length : Int)))]) hA rfl rfl (by walk_at "sl") (EBq.g rfl (σ₁ := σ) ?_ (EBq.g rfl (σ₁ := σ) (EV.to (d := .int (((r.map q).length : Int) - ((b.map q).length : Int))) (by walk_at "ev") (by rw [ql_len, ql_len])) EB.nil)) rfl (by simp) ?_
    · walk_at "call"
      · walk_at "es"
      · exact ct_rdiv Y hX (h3 _ (lst_mem hr0)) (hk.sb _ (lst_mem hk.hb)) hk.hl
      · decide
    rw [show (r.length : Int) - (b.length : Int) = ((r.length - b.length : Nat) : Int) by omega]
    generalize hpw : r.length - b.length = pw'
    refine TR.pre (S' := ⟨[("b", .list (b.map q)), ("rest", .list (r.map q)), ("power", .int pw'), ("number", q (qdN b r))], [("found", fo.map q)], σ⟩) (by walk_at "sub") ?_
    refine TRq.putItem (σ₁ := σ) (σ₂ := σ) (i := (pw' : Int)) (d := q (qdN b r)) rfl rfl rfl (by decide) (EV.name rfl) (by walk_at "ev") (by omega) (by rw [List.length_map, hfl]; omega) (by rw [List.length_map, hfl]; omega) ?_
    refine TRq.set (σ₁ := σ) (d := ql (qsbR (bel r) (qrsR (qscR (bel b) (qdN b r)) pw'))) rfl (by walk_at "sl") ?_ ?_
    · have sl1 : ∀ (l : List Rat), l ≠ [] → List.take (upTo (l.map q).length (-1)) (l.map q) = (bel l).map q := fun l h => by
        rw [List.length_map, upTo_neg (List.length_pos_iff.mpr h), ← List.map_take]; rfl
      walk_at "call"
      · refine ESq.cons (d := ql (bel r)) rfl (σ₁ := σ) ?_ (ESq.cons (d := ql (qrsR (qscR (bel b) (qdN b r)) pw')) rfl (σ₁ := σ) ?_ ES.nil)
        · refine EV.to (by walk_at "ev") ?_
          rw [sl1 r hr0]; rfl
        · walk_at "call"
          · refine ESq.cons (d := ql (qscR (bel b) (qdN b r))) rfl (σ₁ := σ) ?_ (by walk_at "es")
            walk_at "call"
            · refine ESq.cons (d := ql (bel b)) rfl (σ₁ := σ) ?_ (by walk_at "es")
              refine EV.to (by walk_at "ev") ?_
              rw [sl1 b hk.hb]; rfl
            · exact ct_qscale Y hX (by omega) (fun x hx => hk.sb x (List.mem_of_mem_take hx)) h4
            · decide
          · have := qscR_len (bel b) (qdN b r)
            exact ct_qraise Y hX (by omega) (by omega)
          · decide
      · have h6 := qscR_len (bel b) (qdN b r)
        have h7 := qrsR_len (qscR (bel b) (qdN b r)) pw'
        refine ct_qsub Y hX (by omega) (by omega) (fun x hx => h3 x (List.mem_of_mem_take hx)) (fun x hx => ?_)
        unfold qrsR at hx
        split at hx
        · simp at hx
        · rcases List.mem_append.mp hx with hx | hx
          · rw [(List.mem_replicate.mp hx).2]; exact Sz.zero
          · exact h5 x hx
      · decide
    · refine TR.sub (TRq.set (σ₁ := σ) (d := ql (qsbR (bel r) (qrsR (qscR (bel b) (qdN b r)) pw'))) rfl (by walk_at "sl") (EV.name rfl) TR.nil) ?_
      refine St.sub.mk' (.cons rfl (.cons rfl .nil)) (.cons ?_ .nil) rfl
      show some _ = some _
      rw [Int.toNat_natCast, List.map_set]
  · have hen := hk.en
    have hlr : ((qdS a b k).1.map q).length ≤ 100000 := by simp; omega
    refine TV.to (by walk_at "tv") ?_
    simp; omega
  · refine TR.freeze (y := "found") rfl ?_
    have hfl := qdS_len a b k
    refine TR.pre (S' := ⟨[("found", .list ((qdS a b k).2.map q)), ("rest", .list ((qdS a b k).1.map q))], [], σ⟩) (by walk_at "sub") ?_
    refine TRq.ret (EV.tup (ESq.cons (d := ql (qtr (qdS a b k).2)) rfl (σ₁ := σ) ?_ (by walk_at "es")) (by simp))
    walk_at "call"
    · walk_at "es"
    · exact ct_qtrim Y hX (by omega)
    · decide

/-! text Ct12 -/
noncomputable abbrev Tri := List Rat × List Rat × List Rat
noncomputable def tD (t : Tri) : D := .tup [ql t.1, ql t.2.1, ql t.2.2]
/-- quotient and rest -/
noncomputable def qdm (a b : List Rat) : List Rat × List Rat := (qtr (qdS a b (a.length + 1)).2, (qdS a b (a.length + 1)).1)
theorem qdS_fix {a b : List Rat} {k : Nat} (h : (qdS a b k).1.length < b.length) : ∀ n, qdS a b (k + n) = qdS a b k
  | 0 => rfl
  | n + 1 => by rw [← Nat.add_assoc, qdS, qdS_fix h n]; unfold qdStep; rw [if_pos h]
theorem qdm_eq {a b : List Rat} {k : Nat} (h : QdOk a b k) (hk : k ≤ a.length + 1) : qdm a b = (qtr (qdS a b k).2, (qdS a b k).1) := by
  obtain ⟨n, e⟩ := Nat.exists_eq_add_of_le hk
  unfold qdm; rw [e, qdS_fix h.en n]
noncomputable def exStep (s : Tri × Tri) : Tri × Tri :=
  if s.2.1 = [] then s else
    (s.2, (qdm s.1.1 s.2.1).2, qsbR s.1.2.1 (qmR (qdm s.1.1 s.2.1).1 s.2.2.1), qsbR s.1.2.2 (qmR (qdm s.1.1 s.2.1).1 s.2.2.2))
noncomputable def exS (a b : List Rat) : Nat → Tri × Tri
  | 0 => ((a, [1], []), (b, [], [1]))
  | i + 1 => exStep (exS a b i)
structure ExStepOk (s : Tri × Tri) : Prop where
  ne : s.2.1 ≠ []
  qd : ∃ k, k ≤ s.1.1.length + 1 ∧ QdOk s.1.1 s.2.1 k
  m1 : QmOk (qdm s.1.1 s.2.1).1 s.2.2.1
  m2 : QmOk (qdm s.1.1 s.2.1).1 s.2.2.2
  z1 : (∀ x ∈ s.1.2.1, Sz x) ∧ ∀ x ∈ qmR (qdm s.1.1 s.2.1).1 s.2.2.1, Sz x
  z2 : (∀ x ∈ s.1.2.2, Sz x) ∧ ∀ x ∈ qmR (qdm s.1.1 s.2.1).1 s.2.2.2, Sz x
  l : s.1.1.length ≤ 100 ∧ s.1.2.1.length ≤ 100 ∧ s.1.2.2.length ≤ 100 ∧ s.2.1.length ≤ 100 ∧ s.2.2.1.length ≤ 100 ∧ s.2.2.2.length ≤ 100
structure ExOk (a b : List Rat) (k : Nat) : Prop where
  st : ∀ i, i < k → ExStepOk (exS a b i)
  en : (exS a b k).2.1 = []
  ne : (exS a b k).1.1 ≠ []
  lz : lst (exS a b k).1.1 ≠ 0
  fz : Sz (lst (exS a b k).1.1) ∧ Sz (lst (exS a b k).1.1)⁻¹
  z : (∀ x ∈ (exS a b k).1.1, Sz x) ∧ (∀ x ∈ (exS a b k).1.2.1, Sz x) ∧ ∀ x ∈ (exS a b k).1.2.2, Sz x
  l : (exS a b k).1.1.length ≤ 1000 ∧ (exS a b k).1.2.1.length ≤ 1000 ∧ (exS a b k).1.2.2.length ≤ 1000
noncomputable def exR (a b : List Rat) (k : Nat) : Tri :=
  (qscR (exS a b k).1.1 (lst (exS a b k).1.1)⁻¹, qscR (exS a b k).1.2.1 (lst (exS a b k).1.1)⁻¹, qscR (exS a b k).1.2.2 (lst (exS a b k).1.1)⁻¹)
theorem qmR_len (a b : List Rat) : (qmR a b).length ≤ a.length + b.length := by
  unfold qmR; split
  · simp
  · rw [qmAll_len]; omega
theorem qtr_len (l : List Rat) : (qtr l).length ≤ l.length := by unfold qtr; rw [List.length_take]; omega
theorem ct_qextended (Y : X.Good) (hX : X.prog = pw) {a b : List Rat} {k : Nat} {σ : Gh} (ha : a.length ≤ 100) (hb : b.length ≤ 100) (hk : ExOk a b k) : CT X 7 "qextended" σ [ql a, ql b] (tD (exR a b k)) σ := by
  refine CT.bind2 (r := recOf 22) (x := "a") (y := "b") hX Y mem_qextended rfl (fun _ _ _ _ _ => rfl) (.l rfl (.l rfl .nil)) (by decide) (fun A pm code doc L f hA => ?_)
  have hla : (a.map q).length ≤ 100000 := by simp; omega
  have hlb : (b.map q).length ≤ 100000 := by simp; omega
  refine TRq.swap (σ₁ := σ) (names := ["one", "other"]) (bs := [.g (tD (exS a b 0).1), .g (tD (exS a b 0).2)]) hA rfl rfl (by walk_at "sl") ?_ rfl (by simp) ?_
  · unfold exS tD ql
    refine EBq.g rfl (σ₁ := σ) (EV.to (d := .tup [.list (a.map q), .list [RatD 1 1], .list []]) ?_ rfl) (EBq.g rfl (σ₁ := σ) (EV.to (d := .tup [.list (b.map q), .list [], .list [RatD 1 1]]) ?_ rfl) EB.nil)
    · walk_at "ev"
    · walk_at "ev"
  refine TR.pre (S' := ⟨[("one", tD (exS a b 0).1), ("other", tD (exS a b 0).2)], [], σ⟩) (by walk_at "sub") ?_
  refine TR.cons (TS.while (S := fun i => ⟨[("one", tD (exS a b i).1), ("other", tD (exS a b i).2)], [], σ⟩) k (fun i hi => ?_) (fun i hi => ?_) ?_) ?_
  · have h := hk.st i hi
    generalize exS a b i = z at h
    obtain ⟨⟨a0, a1, a2⟩, b0, b1, b2⟩ := z
    have hne := h.ne
    have hl : (b0.map q).length ≤ 100000 := by have := h.l.2.2.2.1; simp at this ⊢; omega
    simp only at hne
    unfold tD ql
    refine TV.to (by walk_at "tv") ?_
    simp; exact List.length_pos_iff.mpr hne
  · have h := hk.st i hi
    rw [exS]
    generalize exS a b i = z at h
    have e : exStep z = (z.2, (qdm z.1.1 z.2.1).2, qsbR z.1.2.1 (qmR (qdm z.1.1 z.2.1).1 z.2.2.1), qsbR z.1.2.2 (qmR (qdm z.1.1 z.2.1).1 z.2.2.2)) := by unfold exStep; rw [if_neg h.ne]
    rw [e]
    obtain ⟨⟨a0, a1, a2⟩, b0, b1, b2⟩ := z
    obtain ⟨hne, ⟨kk, hkk, qd⟩, m1, m2, z1, z2, l1, l2, l3, l4, l5, l6⟩ := h
    simp only at hne hkk qd m1 m2 z1 z2 l1 l2 l3 l4 l5 l6 ⊢
    have eq := qdm_eq qd hkk
    have lq : (qdm a0 b0).1.length ≤ 101 := by
      rw [eq]; have := qtr_len (qdS a0 b0 kk).2; rw [qdS_len] at this; show (qtr (qdS a0 b0 kk).2).length ≤ 101; omega
    generalize hqd : qdm a0 b0 = qr at *
    obtain ⟨qu, re⟩ := qr
    simp only at m1 m2 z1 z2 lq ⊢
    have dq : ∀ {σ : Gh}, CT X 6 "qdivmod" σ [ql a0, ql b0] (.tup [ql qu, ql re]) σ := fun {σ} => by
      have := ct_qdivmod Y hX (σ := σ) (a := a0) (b := b0) (k := kk) (by omega) (by omega) qd
      rw [show qtr (qdS a0 b0 kk).2 = qu from (congrArg Prod.fst eq).symm, show (qdS a0 b0 kk).1 = re from (congrArg Prod.snd eq).symm] at this
      exact this
    have lm1 := qmR_len qu b1
    have lm2 := qmR_len qu b2
    refine TR.sub (S' := ⟨[("one", tD (b0, b1, b2)), ("other", tD (re, qsbR a1 (qmR qu b1), qsbR a2 (qmR qu b2)))], [], σ⟩) ?_ (by walk_at "sub")
    unfold tD
    refine TRq.tupE (σ₁ := σ) (nps := [("quotient", _), ("rest", _)]) (ds := [ql qu, ql re]) hA rfl rfl rfl (by walk_at "sl") ?_ rfl ?_
    · walk_at "call"
      · walk_at "es"
      · exact dq
      · decide
    refine TR.pre (S' := ⟨[("one", .tup [ql a0, ql a1, ql a2]), ("other", .tup [ql b0, ql b1, ql b2]), ("quotient", ql qu), ("rest", ql re)], [], σ⟩) (by walk_at "sub") ?_
    refine TRq.set (σ₁ := σ) (d := ql (qsbR a1 (qmR qu b1))) rfl (by walk_at "sl") ?_ ?_
    · walk_at "call"
      · refine ESq.cons (d := ql a1) rfl (σ₁ := σ) (by walk_at "ev") (ESq.cons (d := ql (qmR qu b1)) rfl (σ₁ := σ) ?_ ES.nil)
        walk_at "call"
        · walk_at "es"
        · exact ct_qmul Y hX (by omega) (by omega) m1
        · decide
      · exact ct_qsub Y hX (by omega) (by omega) z1.1 z1.2
      · decide
    refine TRq.set (σ₁ := σ) (d := ql (qsbR a2 (qmR qu b2))) rfl (by walk_at "sl") ?_ ?_
    · walk_at "call"
      · refine ESq.cons (d := ql a2) rfl (σ₁ := σ) (by walk_at "ev") (ESq.cons (d := ql (qmR qu b2)) rfl (σ₁ := σ) ?_ ES.nil)
        walk_at "call"
        · walk_at "es"
        · exact ct_qmul Y hX (by omega) (by omega) m2
        · decide
      · exact ct_qsub Y hX (by omega) (by omega) z2.1 z2.2
      · decide
    refine TR.pre (S' := ⟨[("one", .tup [ql a0, ql a1, ql a2]), ("other", .tup [ql b0, ql b1, ql b2]), ("rest", ql re), ("left", ql (qsbR a1 (qmR qu b1))), ("right", ql (qsbR a2 (qmR qu b2)))], [], σ⟩) (by walk_at "sub") ?_
    refine TR.sub (S' := ?_) (by walk_at "swap"; exact TR.nil) ?_
    walk_at "sub"
  · have hen := hk.en
    generalize exS a b k = z at hen
    obtain ⟨⟨a0, a1, a2⟩, b0, b1, b2⟩ := z
    simp only at hen
    subst hen
    unfold tD ql
    refine TV.to (by walk_at "tv") ?_
    simp
  · obtain ⟨_, _, hne, hlz, hfz, hz, hl⟩ := hk
    unfold exR
    generalize exS a b k = z at hne hlz hfz hz hl
    obtain ⟨⟨a0, a1, a2⟩, b0, b1, b2⟩ := z
    simp only at hne hlz hfz hz hl ⊢
    have hl0 : (a0.map q).length ≤ 100000 := by have := hl.1; simp; omega
    have hx1 := item_last hne
    refine TRq.ifF (b := false) (TV.to (b := ((a0.map q).length : Int) == 0) ?_ ?_) rfl ?_
    · unfold tD ql; walk_at "tv"
    · simp; exact hne
    refine TRq.set (σ₁ := σ) (d := q (lst a0)⁻¹) rfl (by walk_at "sl") ?_ ?_
    · walk_at "call"
      · unfold tD ql; walk_at "es"
      · exact ct_rinv Y hX hfz.1 hlz
      · decide
    · unfold tD
      refine TRq.ret (EV.tup (ESq.cons rfl (σ₁ := σ) ?_ (ESq.cons rfl (σ₁ := σ) ?_ (ESq.cons rfl (σ₁ := σ) ?_ ES.nil))) (by simp))
      · walk_at "call"
        · walk_at "es"
        · exact ct_qscale Y hX hl.1 hz.1 hfz.2
        · decide
      · walk_at "call"
        · walk_at "es"
        · exact ct_qscale Y hX hl.2.1 hz.2.1 hfz.2
        · decide
      · walk_at "call"
        · walk_at "es"
        · exact ct_qscale Y hX hl.2.2 hz.2.2 hfz.2
        · decide

/-! text Ct13 -/
noncomputable def zk (n : Nat) : Nat := if n = 0 then 0 else if n = 1 then 1 else 2
noncomputable def zpw (p : List Int) (n : Nat) : List Int := (zpS p n (zk n)).1
noncomputable def ln (place : Int) (n : Nat) : List Int := zpw [0 - place, 1] n
noncomputable def lnOk (place : Int) (n : Nat) : Bool := zpOk [0 - place, 1] n (zk n) && smB (ln place n)
noncomputable def othS (places : List Int) (times : List Nat) (spot : Nat) : Nat → List Int
  | 0 => [1]
  | j + 1 => if j = spot then othS places times spot j else zmR (othS places times spot j) (ln (places.getD j 0) (times.getD j 0))
noncomputable def oth (places : List Int) (times : List Nat) (spot : Nat) : List Int := othS places times spot times.length
noncomputable def hereS (tl : List Int) (place : Int) : Nat → List Int
  | 0 => []
  | j + 1 => zadR (hereS tl place j) (zscR (ln place j) (tl.getD j 0))
noncomputable def here (told : List (List Int)) (places : List Int) (times : List Nat) (spot : Nat) : List Int := hereS (told.getD spot []) (places.getD spot 0) (times.getD spot 0)
noncomputable def line (places : List Int) (times : List Nat) (spot : Nat) : List Int := ln (places.getD spot 0) (times.getD spot 0)
noncomputable def turn (places : List Int) (times : List Nat) (spot k : Nat) : List Rat := (exR (frz (oth places times spot)) (frz (line places times spot)) k).2.1
noncomputable def part (told : List (List Int)) (places : List Int) (times : List Nat) (k : Nat → Nat) (spot : Nat) : List Rat := (qdm (qmR (frz (here told places times spot)) (turn places times spot (k spot))) (frz (line places times spot))).2
noncomputable def putS (told : List (List Int)) (places : List Int) (times : List Nat) (k : Nat → Nat) : Nat → List Rat
  | 0 => []
  | i + 1 => qadR (putS told places times k i) (qmR (part told places times k i) (frz (oth places times i)))
noncomputable def il2 (l : List (List Int)) : D := .list (l.map il)
noncomputable def nD (n : Nat) : D := .int n
noncomputable def nl (l : List Nat) : D := .list (l.map nD)
structure PutOk (told : List (List Int)) (places : List Int) (times : List Nat) (k : Nat → Nat) (i : Nat) : Prop where
  lnF : lnOk (places.getD i 0) (times.getD i 0) = true
  othF : ∀ j, j < times.length → smB (othS places times i j) = true ∧ lnOk (places.getD j 0) (times.getD j 0) = true
  othE : smB (oth places times i) = true
  her : ∀ j, j < times.getD i 0 → lnOk (places.getD i 0) j = true ∧ Sm ((told.getD i []).getD j 0) ∧ (hereS (told.getD i []) (places.getD i 0) j).length ≤ 100
  tl : times.getD i 0 ≤ (told.getD i []).length ∧ (told.getD i []).length ≤ 1000
  ls : (here told places times i).length ≤ 100 ∧ (oth places times i).length ≤ 100 ∧ (line places times i).length ≤ 100
  ex : ExOk (frz (oth places times i)) (frz (line places times i)) (k i)
  one : (exR (frz (oth places times i)) (frz (line places times i)) (k i)).1 = [1]
  m1 : QmOk (frz (here told places times i)) (turn places times i (k i))
  tn : (turn places times i (k i)).length ≤ 100
  qd : ∃ kk, kk ≤ (qmR (frz (here told places times i)) (turn places times i (k i))).length + 1 ∧ QdOk (qmR (frz (here told places times i)) (turn places times i (k i))) (frz (line places times i)) kk
  m2 : QmOk (part told places times k i) (frz (oth places times i))
  pl : (part told places times k i).length ≤ 100
  z : (∀ x ∈ putS told places times k i, Sz x) ∧ (∀ x ∈ qmR (part told places times k i) (frz (oth places times i)), Sz x) ∧ (putS told places times k i).length ≤ 1000

theorem item_nl {l : List Nat} {i : Nat} (h : i < l.length) : D.item (l.map nD) (i : Int) = some (.int (l.getD i 0 : Nat)) := by
  unfold D.item
  rw [if_pos (by omega), Int.toNat_natCast, List.getElem?_map, List.getElem?_eq_getElem h]; simp [List.getD_eq_getElem?_getD, List.getElem?_eq_getElem h, nD]
theorem item_il2 {l : List (List Int)} {i : Nat} (h : i < l.length) : D.item (l.map il) (i : Int) = some (.list ((l.getD i []).map D.int)) := by
  unfold D.item
  rw [if_pos (by omega), Int.toNat_natCast, List.getElem?_map, List.getElem?_eq_getElem h]; simp [List.getD_eq_getElem?_getD, List.getElem?_eq_getElem h, il]
theorem getD_nl {l : List Nat} {i : Nat} (h : i < l.length) : (l.map nD).getD i .none = .int (l.getD i 0 : Nat) := by
  simp [List.getD_eq_getElem?_getD, List.getElem?_eq_getElem h, nD]
theorem zpOk.of {p : Int} {n : Nat} (h : lnOk p n = true) : zpOk [0 - p, 1] n (zk n) = true ∧ smB (ln p n) = true := by
  unfold lnOk at h; simpa using h
theorem ct_ln (Y : X.Good) (hX : X.prog = pw) {p : Int} {n : Nat} {σ : Gh} (h : lnOk p n = true) : CT X 2 "zpower" σ [.list [.int (0 - p), .int 1], .int n] (il (ln p n)) σ :=
  ct_zpower Y hX (p := [0 - p, 1]) (by simp) (zpOk.of h).1
theorem frz_len (l : List Int) : (frz l).length = l.length := List.length_map ..
set_option maxHeartbeats 4000000 in
theorem ct_law_put (Y : X.Good) (hX : X.prog = pw) {told : List (List Int)} {places : List Int} {times : List Nat} {k : Nat → Nat} {σ : Gh} (hp : places.length ≤ 100) (ht : times.length = places.length) (htl : told.length = places.length)
    (hk : ∀ i, i < places.length → PutOk told places times k i) : CT X 8 "_law_put" σ [il2 told, il places, nl times] (ql (putS told places times k places.length)) σ := by
  refine CT.bind3 (r := recOf 39) (x := "told") (y := "places") (z := "times") hX Y mem_law_put rfl (fun _ _ _ _ _ _ => rfl) (.l rfl (.l rfl (.l rfl .nil))) (by decide) (fun A pm code doc L a hA => ?_)
  unfold il2 il nl
  have hl1 : (told.map il).length ≤ 100000 := by simp; omega
  have hl2 : (places.map D.int).length ≤ 100000 := by simp; omega
  have hl3 : (times.map nD).length ≤ 100000 := by simp; omega
  refine TRq.set (σ₁ := σ) (d := ql []) rfl (by walk_at "sl") (EV.to (d := .list []) (by walk_at "ev") rfl) ?_
  refine TRq.forEnm (σ₁ := σ) (fun i => ⟨[("told", .list (told.map il)), ("places", .list (places.map D.int)), ("times", .list (times.map nD)), ("found", ql (putS told places times k i))], [], σ⟩) (places.map D.int) Y hA rfl rfl (fun _ => rfl) (by walk_at "sl") (by walk_at "sl") (by walk_at "ev") (by walk_at "sub") (fun i hi => ?_) ?_
  · have hi' : i < places.length := by simpa using hi
    have P := hk i hi'
    rw [getD_il hi']
    generalize hpl : places.getD i 0 = place
    have eln : line places times i = ln place (times.getD i 0) := by unfold line; rw [hpl]
    have hxt := item_nl (l := times) (i := i) (by omega)
    have lno := P.lnF
    rw [hpl] at lno
    refine TR.pre (S' := ⟨[("told", .list (told.map il)), ("places", .list (places.map D.int)), ("times", .list (times.map nD)), ("found", ql (putS told places times k i)), ("spot", .int i), ("place", .int place)], [], σ⟩) (by walk_at "sub") ?_
    refine TRq.swap (σ₁ := σ) (names := ["line", "others", "here"]) (bs := [.g (il (line places times i)), .g (il [1]), .g (il [])]) hA rfl rfl (by walk_at "sl") (EBq.g rfl (σ₁ := σ) ?_ (EBq.g rfl (σ₁ := σ) (EV.to (d := .list [.int 1]) (by walk_at "ev") rfl) (EBq.g rfl (σ₁ := σ) (EV.to (d := .list []) (by walk_at "ev") rfl) EB.nil))) rfl (by simp) ?_
    · rw [eln]
      walk_at "call"
      · walk_at "es"
      · exact ct_ln Y hX lno
      · decide
    -- the others
    refine TR.pre (S' := ⟨[("told", .list (told.map il)), ("places", .list (places.map D.int)), ("times", .list (times.map nD)), ("found", ql (putS told places times k i)), ("spot", .int i), ("place", .int place), ("line", il (line places times i)), ("here", il []), ("others", il (othS places times i 0))], [], σ⟩) (by walk_at "sub") ?_
    refine TRq.forEnm (σ₁ := σ) (fun j => ⟨[("told", .list (told.map il)), ("places", .list (places.map D.int)), ("times", .list (times.map nD)), ("found", ql (putS told places times k i)), ("spot", .int i), ("place", .int place), ("line", il (line places times i)), ("here", il []), ("others", il (othS places times i j))], [], σ⟩) (times.map nD) Y hA rfl rfl (fun _ => rfl) (by walk_at "sl") (by walk_at "sl") (by walk_at "ev") (by walk_at "sub") (fun j hj => ?_) ?_
    · have hj' : j < times.length := by simpa using hj
      obtain ⟨o1, o2⟩ := P.othF j hj'
      rw [getD_nl hj']
      have hxp := item_il (l := places) (i := (j : Int)) (by omega) (by omega)
      rw [Int.toNat_natCast] at hxp
      refine TR.pre (S' := ⟨[("told", .list (told.map il)), ("places", .list (places.map D.int)), ("times", .list (times.map nD)), ("found", ql (putS told places times k i)), ("spot", .int i), ("place", .int place), ("line", il (line places times i)), ("here", il []), ("others", il (othS places times i j)), ("other", .int j), ("size", .int (times.getD j 0 : Nat))], [], σ⟩) (by walk_at "sub") ?_
      by_cases he : j = i
      · refine TR.sub (TRq.ifF (by walk_at "tv") (by simp [he]) TR.nil) ?_
        rw [show othS places times i (j + 1) = othS places times i j by rw [othS, if_pos he]]
        walk_at "sub"
      · have e : othS places times i (j + 1) = zmR (othS places times i j) (ln (places.getD j 0) (times.getD j 0)) := by rw [othS, if_neg he]
        refine TR.sub (TRq.ifT (S' := ⟨[("told", .list (told.map il)), ("places", .list (places.map D.int)), ("times", .list (times.map nD)), ("found", ql (putS told places times k i)), ("spot", .int i), ("place", .int place), ("line", il (line places times i)), ("here", il []), ("others", il (othS places times i (j + 1)))], [], σ⟩) (by walk_at "tv") (by simp; omega) ?_ TR.nil) (by walk_at "sub")
        refine TR.sub (TRq.set (σ₁ := σ) (d := il (othS places times i (j + 1))) rfl (by walk_at "sl") ?_ TR.nil) (by walk_at "sub")
        rw [e]
        walk_at "call"
        · refine ESq.cons rfl (σ₁ := σ) (by walk_at "ev") (ESq.cons (d := il (ln (places.getD j 0) (times.getD j 0))) rfl (σ₁ := σ) ?_ ES.nil)
          walk_at "call"
          · walk_at "es"
          · exact ct_ln Y hX o2
          · decide
        · exact ct_zmul Y hX (smB.len o1) (smB.len (zpOk.of o2).2) (smB.sm o1) (smB.sm (zpOk.of o2).2)
        · decide
    -- here
    have eo : othS places times i (times.map nD).length = oth places times i := by rw [List.length_map]; rfl
    rw [eo]
    have hxtd := item_il2 (l := told) (i := i) (by omega)
    refine TR.pre (S' := ⟨[("told", .list (told.map il)), ("places", .list (places.map D.int)), ("times", .list (times.map nD)), ("found", ql (putS told places times k i)), ("spot", .int i), ("place", .int place), ("line", il (line places times i)), ("others", il (oth places times i)), ("here", il (hereS (told.getD i []) place 0))], [], σ⟩) (by walk_at "sub") ?_
    refine TRq.forRng1 (σ₁ := σ) (b := ((times.getD i 0 : Nat) : Int)) (fun j => ⟨[("told", .list (told.map il)), ("places", .list (places.map D.int)), ("times", .list (times.map nD)), ("found", ql (putS told places times k i)), ("spot", .int i), ("place", .int place), ("line", il (line places times i)), ("others", il (oth places times i)), ("here", il (hereS (told.getD i []) place j))], [], σ⟩) (times.getD i 0) Y hA rfl rfl (fun _ => rfl) (by walk_at "sl") (by walk_at "ev") (by omega) (by omega) (by have := P.tl; omega) (by walk_at "sub") (fun j hj => ?_) ?_
    · obtain ⟨h1, h2, h3⟩ := P.her j hj
      rw [hpl] at h1 h3
      have tl := P.tl
      have hlt : ((told.getD i []).map D.int).length ≤ 100000 := by simp only [List.length_map]; omega
      have hxo := item_il (l := told.getD i []) (i := (j : Int)) (by omega) (by omega)
      rw [Int.toNat_natCast] at hxo
      refine TR.pre (S' := ⟨[("told", .list (told.map il)), ("places", .list (places.map D.int)), ("times", .list (times.map nD)), ("found", ql (putS told places times k i)), ("spot", .int i), ("place", .int place), ("line", il (line places times i)), ("others", il (oth places times i)), ("here", il (hereS (told.getD i []) place j)), ("order", .int j)], [], σ⟩) (by walk_at "sub") ?_
      refine TR.sub (TRq.set (σ₁ := σ) (d := il (hereS (told.getD i []) place (j + 1))) rfl (by walk_at "sl") ?_ TR.nil) (by walk_at "sub")
      rw [hereS]
      walk_at "call"
      · refine ESq.cons rfl (σ₁ := σ) (by walk_at "ev") (ESq.cons (d := il (zscR (ln place j) ((told.getD i []).getD j 0))) rfl (σ₁ := σ) ?_ ES.nil)
        walk_at "call"
        · refine ESq.cons (d := il (ln place j)) rfl (σ₁ := σ) ?_ (ESq.cons rfl (σ₁ := σ) (by walk_at "ev") ES.nil)
          walk_at "call"
          · walk_at "es"
          · exact ct_ln Y hX h1
          · decide
        · have := smB.len (zpOk.of h1).2
          exact ct_zscale Y hX (by omega) (smB.sm (zpOk.of h1).2) h2
        · decide
      · have := smB.len (zpOk.of h1).2
        have hz : (zscR (ln place j) ((told.getD i []).getD j 0)).length ≤ (ln place j).length := by unfold zscR; split <;> simp
        exact ct_zadd Y hX (by omega) (by omega)
      · decide
    -- the inverse
    have eh : hereS (told.getD i []) place (times.getD i 0) = here told places times i := by unfold here; rw [hpl]
    rw [eh]
    have ex := ct_qextended Y hX (σ := σ) (by rw [frz_len]; exact P.ls.2.1) (by rw [frz_len]; exact P.ls.2.2) P.ex
    have one := P.one
    have etn : (exR (frz (oth places times i)) (frz (line places times i)) (k i)).2.1 = turn places times i (k i) := rfl
    generalize exR (frz (oth places times i)) (frz (line places times i)) (k i) = tri at ex one etn
    obtain ⟨co, tu, be⟩ := tri
    simp only at one etn
    subst one etn
    refine TRq.tupE (σ₁ := σ) (nps := [("common", _), ("turn", _), ("beside", _)]) (ds := [ql [1], ql (turn places times i (k i)), ql be]) hA rfl rfl rfl (by walk_at "sl") ?_ rfl ?_
    · walk_at "call"
      · refine ESq.cons (d := ql (frz (oth places times i))) rfl (σ₁ := σ) ?_ (ESq.cons (d := ql (frz (line places times i))) rfl (σ₁ := σ) ?_ ES.nil)
        · walk_at "call"
          · walk_at "es"
          · exact ct_from_z Y hX (by have := P.ls; omega)
          · decide
        · walk_at "call"
          · walk_at "es"
          · exact ct_from_z Y hX (by have := P.ls; omega)
          · decide
      · exact ex
      · decide
    refine TR.pre (S' := ⟨[("told", .list (told.map il)), ("places", .list (places.map D.int)), ("times", .list (times.map nD)), ("found", ql (putS told places times k i)), ("spot", .int i), ("line", il (line places times i)), ("others", il (oth places times i)), ("here", il (here told places times i)), ("common", ql [1]), ("turn", ql (turn places times i (k i)))], [], σ⟩) (by walk_at "sub") ?_
    refine TRq.ifF (b := false) (TV.to (TVq.cmp (d₁ := .list [RatD 1 1]) (d₂ := .list [.tup [.int 1, .int 1]]) (by with_unfolding_all rfl) (EV.name rfl) (by walk_at "ev") (CO.ne_list 2 rfl (by have := hA.2.2; unfold cLine; omega))) ?_) rfl ?_
    · simp [D.eqs, D.eq, RatD]
    obtain ⟨kk, hkk, qd⟩ := P.qd
    have eqd := qdm_eq qd hkk
    have hml := qmR_len (frz (here told places times i)) (turn places times i (k i))
    rw [frz_len] at hml
    have hls := P.ls
    have htn := P.tn
    have dq := ct_qdivmod Y hX (σ := σ) (by omega) (by rw [frz_len]; omega) qd
    have ep : (qdS (qmR (frz (here told places times i)) (turn places times i (k i))) (frz (line places times i)) kk).1 = part told places times k i := by unfold part; rw [eqd]
    rw [ep] at dq
    refine TRq.set (σ₁ := σ) (d := ql (part told places times k i)) rfl (by walk_at "sl") ?_ ?_
    · refine EV.itemT (σ₁ := σ) (ds := [ql (qtr (qdS (qmR (frz (here told places times i)) (turn places times i (k i))) (frz (line places times i)) kk).2), ql (part told places times k i)]) ?_ EV.int rfl (by simp)
      walk_at "call"
      · refine ESq.cons (d := ql (qmR (frz (here told places times i)) (turn places times i (k i)))) rfl (σ₁ := σ) ?_ (ESq.cons (d := ql (frz (line places times i))) rfl (σ₁ := σ) ?_ ES.nil)
        · walk_at "call"
          · refine ESq.cons (d := ql (frz (here told places times i))) rfl (σ₁ := σ) ?_ (by walk_at "es")
            walk_at "call"
            · walk_at "es"
            · exact ct_from_z Y hX (by omega)
            · decide
          · exact ct_qmul Y hX (by rw [frz_len]; omega) (by omega) P.m1
          · decide
        · walk_at "call"
          · walk_at "es"
          · exact ct_from_z Y hX (by omega)
          · decide
      · exact dq
      · decide
    have hpl' := P.pl
    refine TR.sub (TRq.set (σ₁ := σ) (d := ql (putS told places times k (i + 1))) rfl (by walk_at "sl") ?_ TR.nil) (by walk_at "sub")
    rw [putS]
    walk_at "call"
    · refine ESq.cons rfl (σ₁ := σ) (by walk_at "ev") (ESq.cons (d := ql (qmR (part told places times k i) (frz (oth places times i)))) rfl (σ₁ := σ) ?_ ES.nil)
      walk_at "call"
      · refine ESq.cons rfl (σ₁ := σ) (by walk_at "ev") (ESq.cons (d := ql (frz (oth places times i))) rfl (σ₁ := σ) ?_ ES.nil)
        walk_at "call"
        · walk_at "es"
        · exact ct_from_z Y hX (by omega)
        · decide
      · exact ct_qmul Y hX (by omega) (by rw [frz_len]; omega) P.m2
      · decide
    · have := qmR_len (part told places times k i) (frz (oth places times i))
      rw [frz_len] at this
      exact ct_qadd Y hX P.z.2.2 (by omega) P.z.1 P.z.2.1
    · decide
  · refine TR.to (by walk_at "ret") ?_
    rw [il_len]

/-! text Ct14 -/
noncomputable def spS (times : List Nat) : Nat → List Nat
  | 0 => []
  | j + 1 => spS times j ++ List.replicate (times.getD j 0) j
noncomputable def sps (times : List Nat) : List Nat := spS times times.length
noncomputable def latR (told : List (List Int)) (places : List Int) (sp : List Nat) (row : List Int) (i a : Nat) : Int :=
  if sp.getD a 0 = sp.getD (a + i + 1) 0 then (told.getD (sp.getD a 0) []).getD (i + 1) 0
  else (row.getD (a + 1) 0 - row.getD a 0).fdiv (places.getD (sp.getD (a + i + 1) 0) 0 - places.getD (sp.getD a 0) 0)
noncomputable def later (told : List (List Int)) (places : List Int) (sp : List Nat) (row : List Int) (i : Nat) : List Int := (List.range (row.length - 1)).map (latR told places sp row i)
/-- row, found, lines -/
noncomputable def stS (told : List (List Int)) (places : List Int) (sp : List Nat) : Nat → List Int × List Int × List Int
  | 0 => (sp.map fun s => (told.getD s []).getD 0 0, [], [1])
  | i + 1 => (later told places sp (stS told places sp i).1 i, zadR (stS told places sp i).2.1 (zscR (stS told places sp i).2.2 ((stS told places sp i).1.getD 0 0)), zmR (stS told places sp i).2.2 [0 - places.getD (sp.getD i 0) 0, 1])
theorem stS_len (told : List (List Int)) (places : List Int) (sp : List Nat) : ∀ i, (stS told places sp i).1.length = sp.length - i
  | 0 => by simp [stS]
  | i + 1 => by rw [stS]; show (later _ _ _ _ _).length = _; unfold later; rw [List.length_map, List.length_range, stS_len told places sp i]; omega
structure StepOk (told : List (List Int)) (places : List Int) (sp : List Nat) : Prop where
  pl : places.length ≤ 100
  n : sp.length ≤ 100
  spF : ∀ j, j < sp.length → sp.getD j 0 < places.length
  td : told.length = places.length
  tl : ∀ j, j < places.length → (told.getD j []).length ≤ 1000 ∧ 0 < (told.getD j []).length
  st : ∀ i, i < sp.length → smB (stS told places sp i).2.2 = true ∧ Sm ((stS told places sp i).1.getD 0 0) ∧ (stS told places sp i).2.1.length ≤ 100 ∧ smB [0 - places.getD (sp.getD i 0) 0, 1] = true ∧
    ∀ a, a < sp.length - i - 1 → (sp.getD a 0 = sp.getD (a + i + 1) 0 → i + 1 < (told.getD (sp.getD a 0) []).length) ∧
      (sp.getD a 0 ≠ sp.getD (a + i + 1) 0 → places.getD (sp.getD (a + i + 1) 0) 0 - places.getD (sp.getD a 0) 0 ≠ 0 ∧ (places.getD (sp.getD (a + i + 1) 0) 0 - places.getD (sp.getD a 0) 0).natAbs.log2 < 9000)
theorem nl_len (l : List Nat) : (l.map nD).length = l.length := List.length_map ..
set_option maxHeartbeats 4000000 in
theorem ct_law_steps (Y : X.Good) (hX : X.prog = pw) {told : List (List Int)} {places : List Int} {times : List Nat} {σ : Gh} (ht : times.length ≤ 100) (htm : ∀ j, j < times.length → times.getD j 0 ≤ 100) (hsl : ∀ j, j ≤ times.length → (spS times j).length ≤ 1000) (hk : StepOk told places (sps times)) :
    CT X 3 "_law_steps" σ [il2 told, il places, nl times] (il (stS told places (sps times) (sps times).length).2.1) σ := by
  refine CT.bind3 (r := recOf 40) (x := "told") (y := "places") (z := "times") hX Y mem_law_steps rfl (fun _ _ _ _ _ _ => rfl) (.c rfl (fun _ => rfl) (.l rfl (.l rfl .nil))) (by decide) (fun A pm code doc L a hA => ?_)
  unfold il2 nl
  have hp := hk.pl
  have hn := hk.n
  have htd := hk.td
  have hl1 : (told.map il).length ≤ 100000 := by simp; omega
  have hl2 : (places.map D.int).length ≤ 100000 := by simp; omega
  have hl3 : (times.map nD).length ≤ 100000 := by simp; omega
  unfold il
  refine TRq.set (σ₁ := σ) (d := .list ((spS times 0).map nD)) rfl (by walk_at "sl") (EV.to (d := .list []) (by walk_at "ev") rfl) ?_
  refine TRq.forEnm (σ₁ := σ) (fun i => ⟨[("told", .list (told.map il)), ("places", .list (places.map D.int)), ("times", .list (times.map nD)), ("spots", .list ((spS times i).map nD))], [], σ⟩) (times.map nD) Y hA rfl rfl (fun _ => rfl) (by walk_at "sl") (by walk_at "sl") (by walk_at "ev") (by walk_at "sub") (fun i hi => ?_) ?_
  · have hi' : i < times.length := by simpa using hi
    rw [getD_nl hi']
    have h1 := hsl i (by omega)
    have h2 := htm i hi'
    refine TR.pre (S' := ⟨[("told", .list (told.map il)), ("places", .list (places.map D.int)), ("times", .list (times.map nD)), ("spots", .list ((spS times i).map nD)), ("spot", .int i), ("size", .int (times.getD i 0 : Nat))], [], σ⟩) (by walk_at "sub") ?_
    refine TR.sub (TRq.set (σ₁ := σ) (d := .list ((spS times (i + 1)).map nD)) rfl (by walk_at "sl") (EV.to (d := .list ((spS times i).map nD ++ (List.replicate ((times.getD i 0 : Nat) : Int).toNat [D.int i]).flatten)) (EV.ofF (EFq.cat (σ₁ := σ) (by walk_at "ev") (EV.ofF (EFq.rep (σ₁ := σ) (by walk_at "ev") (by walk_at "ev") (by omega) (by omega) (by simp))) ?_)) ?_) TR.nil) (by walk_at "sub")
    · rw [List.getD_eq_getElem?_getD] at h2; simp; omega
    · rw [flat_one, spS, List.map_append, List.map_replicate, Int.toNat_natCast]; rfl
  have esp : spS times (times.map nD).length = sps times := by rw [nl_len]; rfl
  rw [esp]
  generalize sps times = sp at hk hn
  have hls : (sp.map nD).length ≤ 100000 := by simp; omega
  refine TR.pre (S' := ⟨[("told", .list (told.map il)), ("places", .list (places.map D.int)), ("spots", .list (sp.map nD))], [], σ⟩) (by walk_at "sub") ?_
  refine TRq.swap (σ₁ := σ) (names := ["row", "found", "lines"]) (bs := [.g (il (stS told places sp 0).1), .g (il []), .g (il [1])]) hA rfl rfl (by walk_at "sl") (EBq.g rfl (σ₁ := σ) ?_ (EBq.g rfl (σ₁ := σ) (EV.to (d := .list []) (by walk_at "ev") rfl) (EBq.g rfl (σ₁ := σ) (EV.to (d := .list [.int 1]) (by walk_at "ev") rfl) EB.nil))) rfl (by simp) ?_
  · refine EV.to (EV.ofF (EF.comp1 [("told", .list (told.map il))] (n := (sp.map nD).length) (f := fun i => (sp.map nD).getD i .none) (d := fun i => .int ((told.getD (sp.getD i 0) []).getD 0 0))
      (by walk_at "kf") (by decide) rfl (by decide) (by walk_at "cap") (by decide) rfl (fun _ => rfl) (fun _ => rfl) ?_ hls fun C O i hi => ?_)) ?_
    · walk_at "lst"
    · have hi' : i < sp.length := by simpa using hi
      rw [getD_nl hi']
      have h1 := hk.spF i hi'
      have h2 := hk.tl _ h1
      have hx1 := item_il2 (l := told) (i := sp.getD i 0) (by omega)
      have hlt : ((told.getD (sp.getD i 0) []).map D.int).length ≤ 100000 := by simp only [List.length_map]; omega
      have hx2 := item_il (l := told.getD (sp.getD i 0) []) (i := 0) (by omega) (by omega)
      walk_at "ev"
    · rw [nl_len]
      unfold il stS
      congr 1
      apply List.ext_getElem
      · simp
      · intro i h1 h2; simp at h1; simp [List.getD_eq_getElem?_getD, List.getElem?_eq_getElem h1]
  refine TR.pre (S' := ⟨[("told", .list (told.map il)), ("places", .list (places.map D.int)), ("spots", .list (sp.map nD)), ("row", il (stS told places sp 0).1), ("found", il (stS told places sp 0).2.1), ("lines", il (stS told places sp 0).2.2)], [], σ⟩) (by walk_at "sub") ?_
  refine TRq.forRng1 (σ₁ := σ) (b := ((sp.map nD).length : Int)) (fun i => ⟨[("told", .list (told.map il)), ("places", .list (places.map D.int)), ("spots", .list (sp.map nD)), ("row", il (stS told places sp i).1), ("found", il (stS told places sp i).2.1), ("lines", il (stS told places sp i).2.2)], [], σ⟩) sp.length Y hA rfl rfl (fun _ => rfl) (by walk_at "sl") (by walk_at "ev") (by simp) (by omega) (by omega) (by walk_at "sub") (fun i hi => ?_) ?_
  · obtain ⟨s1, s2, s3, s4, s5⟩ := hk.st i hi
    have hlen := stS_len told places sp i
    rw [show stS told places sp (i + 1) = (later told places sp (stS told places sp i).1 i, zadR (stS told places sp i).2.1 (zscR (stS told places sp i).2.2 ((stS told places sp i).1.getD 0 0)), zmR (stS told places sp i).2.2 [0 - places.getD (sp.getD i 0) 0, 1]) from rfl]
    generalize stS told places sp i = z at s1 s2 s3 hlen
    obtain ⟨row, fo, li⟩ := z
    simp only at s1 s2 s3 hlen ⊢
    have hlr : (row.map D.int).length ≤ 100000 := by simp; omega
    have h1 := hk.spF i hi
    refine TR.pre (S' := ⟨[("told", .list (told.map il)), ("places", .list (places.map D.int)), ("spots", .list (sp.map nD)), ("row", .list (row.map D.int)), ("found", il fo), ("lines", il li), ("order", .int i)], [], σ⟩) (by walk_at "sub") ?_
    have lz : (zscR li (row.getD 0 0)).length ≤ li.length := by unfold zscR; split <;> simp
    have l1 := smB.len s1
    refine TRq.set (σ₁ := σ) (d := il (zadR fo (zscR li (row.getD 0 0)))) rfl (by walk_at "sl") ?_ ?_
    · walk_at "call"
      · refine ESq.cons rfl (σ₁ := σ) (by walk_at "ev") (ESq.cons (d := il (zscR li (row.getD 0 0))) rfl (σ₁ := σ) ?_ ES.nil)
        walk_at "call"
        · have hx := item_il (l := row) (i := 0) (by omega) (by omega)
          walk_at "es"
        · exact ct_zscale Y hX (by omega) (smB.sm s1) s2
        · decide
      · exact ct_zadd Y hX (by omega) (by omega)
      · decide
    have hxs := item_nl (l := sp) (i := i) hi
    have hxp := item_il (l := places) (i := ((sp.getD i 0 : Nat) : Int)) (by omega) (by omega)
    rw [Int.toNat_natCast] at hxp
    refine TRq.set (σ₁ := σ) (d := il (zmR li [0 - places.getD (sp.getD i 0) 0, 1])) rfl (by walk_at "sl") ?_ ?_
    · walk_at "call"
      · refine ESq.cons rfl (σ₁ := σ) (by walk_at "ev") (ESq.cons (d := il [0 - places.getD (sp.getD i 0) 0, 1]) rfl (σ₁ := σ) (EV.to (d := .list [.int (0 - places.getD (sp.getD i 0) 0), .int 1]) (by walk_at "ev") rfl) ES.nil)
      · exact ct_zmul Y hX l1 (by simp) (smB.sm s1) (smB.sm s4)
      · decide
    refine TRq.setO (σ₁ := σ) (ds := []) rfl (by walk_at "sl") (by walk_at "ef") ?_
    refine TRq.forRng1 (σ₁ := σ) (b := ((row.map D.int).length : Int) - 1) (fun j => ⟨[("told", .list (told.map il)), ("places", .list (places.map D.int)), ("spots", .list (sp.map nD)), ("row", .list (row.map D.int)), ("found", il (zadR fo (zscR li (row.getD 0 0)))), ("lines", il (zmR li [0 - places.getD (sp.getD i 0) 0, 1])), ("order", .int i)],
      [("later", ((List.range j).map (latR told places sp row i)).map D.int)], σ⟩) (row.length - 1) Y hA rfl rfl (fun _ => rfl) (by walk_at "sl") (by walk_at "ev") (by simp <;> omega) (by omega) (by omega) (by walk_at "sub") (fun j hj => ?_) ?_
    · obtain ⟨t1, t2⟩ := s5 j (by omega)
      have hj1 := hk.spF j (by omega)
      have hj2 := hk.spF (j + i + 1) (by omega)
      have hx1 := item_nl (l := sp) (i := j) (by omega)
      have hx2 := item_nl (l := sp) (i := j + i + 1) (by omega)
      rw [show (((j + i + 1 : Nat)) : Int) = (j : Int) + (i : Int) + 1 by omega] at hx2
      have hll : (((List.range j).map (latR told places sp row i)).map D.int).length ≤ 100000 := by simp; omega
      refine TR.pre (S' := ⟨[("told", .list (told.map il)), ("places", .list (places.map D.int)), ("spots", .list (sp.map nD)), ("row", .list (row.map D.int)), ("found", il (zadR fo (zscR li (row.getD 0 0)))), ("lines", il (zmR li [0 - places.getD (sp.getD i 0) 0, 1])), ("order", .int i), ("at", .int j)],
        [("later", ((List.range j).map (latR told places sp row i)).map D.int)], σ⟩) (by walk_at "sub") ?_
      walk_at "swap"
      generalize hlo : sp.getD j 0 = lo at t1 t2 hj1
      generalize hhi : sp.getD (j + i + 1) 0 = hi' at t1 t2 hj2
      have elat : latR told places sp row i j = if lo = hi' then (told.getD lo []).getD (i + 1) 0 else (row.getD (j + 1) 0 - row.getD j 0).fdiv (places.getD hi' 0 - places.getD lo 0) := by unfold latR; rw [hlo, hhi]
      refine TR.pre (S' := ⟨[("told", .list (told.map il)), ("places", .list (places.map D.int)), ("spots", .list (sp.map nD)), ("row", .list (row.map D.int)), ("found", il (zadR fo (zscR li (row.getD 0 0)))), ("lines", il (zmR li [0 - places.getD (sp.getD i 0) 0, 1])), ("order", .int i), ("at", .int j), ("low", .int lo), ("high", .int hi')],
        [("later", ((List.range j).map (latR told places sp row i)).map D.int)], σ⟩) (by walk_at "sub") ?_
      have fin : ((List.range (j + 1)).map (latR told places sp row i)).map D.int = ((List.range j).map (latR told places sp row i)).map D.int ++ [D.int (latR told places sp row i j)] := by rw [List.range_succ, List.map_append, List.map_append]; rfl
      rw [fin, elat]
      by_cases he : lo = hi'
      · rw [if_pos he]
        have t1' := t1 he
        have h2 := hk.tl _ hj1
        have hxa := item_il2 (l := told) (i := lo) (by omega)
        have hlt : ((told.getD lo []).map D.int).length ≤ 100000 := by simp only [List.length_map]; omega
        have hxb := item_il (l := told.getD lo []) (i := (i : Int) + 1) (by omega) (by omega)
        rw [show ((i : Int) + 1).toNat = i + 1 by omega] at hxb
        refine TR.cons (TS.ifT (q := true) (TV.to (by walk_at "tv") (by simp [he])) (fun _ => ?_) (fun h => nomatch h)) TR.nil
        refine TR.sub (TRq.append (σ₁ := σ) (d := .int ((told.getD lo []).getD (i + 1) 0)) rfl rfl rfl rfl rfl (by decide) rfl rfl (by walk_at "ev") hll TR.nil) (by walk_at "sub")
      · rw [if_neg he]
        obtain ⟨d1, d2⟩ := t2 he
        have hxa := item_il (l := row) (i := (j : Int) + 1) (by omega) (by omega)
        rw [show ((j : Int) + 1).toNat = j + 1 by omega] at hxa
        have hxb := item_il (l := row) (i := (j : Int)) (by omega) (by omega)
        rw [Int.toNat_natCast] at hxb
        have hxc := item_il (l := places) (i := (hi' : Int)) (by omega) (by omega)
        rw [Int.toNat_natCast] at hxc
        have hxd := item_il (l := places) (i := (lo : Int)) (by omega) (by omega)
        rw [Int.toNat_natCast] at hxd
        refine TR.cons (TS.ifT (q := false) (TV.to (by walk_at "tv") (by simp; omega)) (fun h => nomatch h) (fun _ => ?_)) TR.nil
        refine TR.sub (TRq.append (σ₁ := σ) (d := .int ((row.getD (j + 1) 0 - row.getD j 0).fdiv (places.getD hi' 0 - places.getD lo 0))) rfl rfl rfl rfl rfl (by decide) rfl rfl (by walk_at "ev") hll TR.nil) (by walk_at "sub")
    · refine TR.freeze (y := "later") rfl ?_
      refine TR.sub (TRq.set (σ₁ := σ) (d := il (later told places sp row i)) rfl (by walk_at "sl") (EV.name rfl) TR.nil) (by walk_at "sub")
  · walk_at "ret"

/-! text Ct15 -/
noncomputable def tbl : List Int := [0, 2, 1, 1, 1, 4, 1, 3, 5, 4, 2, 1]
/-- the k-th number drawn, below m -/
noncomputable def drw (scr : List Int) (k m : Nat) : Nat := (if k < scr.length then (scr.getD k 0).natAbs else (tbl.getD (k % 12) 0).natAbs) % m
theorem star_const {c : Const} {k : Nat} {p : Pos} {es : List Expr} {env : Env} : starEach (.Constant c k p :: es) env = (false, eval (.Constant c k p) env) :: starEach es env := rfl
theorem ESc {A : Around} {env : Env} {G : Gam} {O : Oms} {σ σ₁ : Gh} {i : Int} {k : Nat} {p : Pos} {es : List Expr} {ds : List D} (h : ES X A env G O σ es ds σ₁) : ES X A env G O σ (.Constant (.int i) k p :: es) (.int i :: ds) σ₁ := ES.cons EV.int h star_const
set_option maxHeartbeats 400000 in
theorem ct_draw (Y : X.Good) (hX : X.prog = pw) {k m : Nat} {M : List (List Int)} (hs : X.scr.length ≤ 1000) (hm : 0 < m) : CT X 1 "_law_draw" (k, M) [.pool, .int m] (.int (drw X.scr k m)) (k + 1, M) := by
  refine CT.bind2 (r := recOf 36) (x := "pool") (y := "many") hX Y mem_law_draw rfl (fun _ _ _ _ _ => rfl) (.l rfl (.l rfl .nil)) (by decide) (fun A pm code doc L f hA => ?_)
  have hm0 : ((m : Nat) : Int) ≠ 0 := by omega
  refine TRq.set (σ₁ := (k, M)) (d := .int k) rfl (by walk_at "sl") (EVq.pool1 rfl rfl EV.int) ?_
  refine TR.pre (S' := ⟨[("pool", .pool), ("many", .int m), ("spot", .int k)], [], (k, M)⟩) (by walk_at "sub") ?_
  refine TR.cons (TS.poolPut rfl (by walk_at "ev") EV.int rfl rfl) ?_
  refine TR.pre (S' := ⟨[("pool", .pool), ("many", .int m), ("spot", .int k)], [], (k + 1, M)⟩) (by walk_at "sub") ?_
  have hl : (X.scr.map D.int).length ≤ 100000 := by simp; omega
  by_cases hk : k < X.scr.length
  · have hx := item_il (l := X.scr) (i := (k : Int)) (by omega) (by omega)
    rw [Int.toNat_natCast] at hx
    refine TRq.ifR (b := decide ((k : Int) < ((X.scr.map D.int).length : Int))) ?_ ?_ ?_
    · apply TVq.cmp
      · with_unfolding_all rfl
      · walk_at "ev"
      · apply EVq.len
        · assumption
        · exact rfl
        · exact rfl
        · exact EVq.pool0 rfl rfl EV.int
        · exact hl
      · exact CO.lt
    · simp; omega
    refine TR.to (d := .int (((X.scr.getD k 0).natAbs : Int).fmod (m : Int))) ?_ ?_
    · apply TRq.ret
      apply EVq.mod
      · apply EVq.abs
        · assumption
        · exact rfl
        · exact rfl
        · apply EV.item
          · exact EVq.pool0 rfl rfl EV.int
          · walk_at "ev"
          · exact hx
          · exact hl
      · walk_at "ev"
      · exact hm0
    · rw [fmod_nat]; unfold drw; rw [if_pos hk]
  · refine TRq.ifF (b := decide ((k : Int) < ((X.scr.map D.int).length : Int))) ?_ ?_ ?_
    · apply TVq.cmp
      · with_unfolding_all rfl
      · walk_at "ev"
      · apply EVq.len
        · assumption
        · exact rfl
        · exact rfl
        · exact EVq.pool0 rfl rfl EV.int
        · exact hl
      · exact CO.lt
    · simp; omega
    have e12 : (k : Int).fmod 12 = ((k % 12 : Nat) : Int) := fmod_nat k 12
    have hlt : k % 12 < 12 := Nat.mod_lt _ (by decide)
    have hx : D.item (tbl.map D.int) ((k % 12 : Nat) : Int) = some (.int (tbl.getD (k % 12) 0)) := by
      have := item_il (l := tbl) (i := ((k % 12 : Nat) : Int)) (by omega) (by show ((k % 12 : Nat) : Int) < 12; omega)
      rw [Int.toNat_natCast] at this; exact this
    have hnn : 0 ≤ tbl.getD (k % 12) 0 := by
      have : ∀ j, j < 12 → 0 ≤ tbl.getD j 0 := by decide
      exact this _ hlt
    have h12 : (12 : Int) ≠ 0 := by decide
    have hx' : D.item (tbl.map D.int) ((k : Int).fmod 12) = some (.int (tbl.getD (k % 12) 0)) := by rw [e12]; exact hx
    have hlen : (tbl.map D.int).length ≤ 100000 := by simp [tbl]
    have htup : ∀ {σ : Gh} {G : Gam} {k0 k1 k2 k3 k4 k5 k6 k7 k8 k9 k10 k11 kk : Nat} {p0 p1 p2 p3 p4 p5 p6 p7 p8 p9 p10 p11 p : Pos}, EV X A (fenv (recOf 36) pm code doc L f) G [] σ
        (.Tuple [.Constant (.int 0) k0 p0, .Constant (.int 2) k1 p1, .Constant (.int 1) k2 p2, .Constant (.int 1) k3 p3, .Constant (.int 1) k4 p4, .Constant (.int 4) k5 p5, .Constant (.int 1) k6 p6, .Constant (.int 3) k7 p7, .Constant (.int 5) k8 p8, .Constant (.int 4) k9 p9, .Constant (.int 2) k10 p10, .Constant (.int 1) k11 p11] kk p) (.tup (tbl.map D.int)) σ := by
      intros
      refine EV.to (d := .tup [.int 0, .int 2, .int 1, .int 1, .int 1, .int 4, .int 1, .int 3, .int 5, .int 4, .int 2, .int 1]) ?_ rfl
      refine EV.tup ?_ (by simp)
      iterate 12 refine ESc ?_
      exact ES.nil
    generalize htk : tbl.getD (k % 12) 0 = tk at hx hx' hnn
    refine TR.to (d := .int (tk.fmod (m : Int))) ?_ ?_
    · refine TRq.ret (σ₁ := (k + 1, M)) ?_
      generalize (k + 1, M) = sg
      have hq : ∀ {l r : Expr} {p : Pos} {G : Gam}, EV X A (fenv (recOf 36) pm code doc L f) G [] sg l (.int tk) sg → EV X A (fenv (recOf 36) pm code doc L f) G [] sg r (.int m) sg → EV X A (fenv (recOf 36) pm code doc L f) G [] sg (.BinOp l .Mod r p) (.int (tk.fmod m)) sg := fun h1 h2 => EVq.mod h1 h2 hm0
      have hs : ∀ {v idx : Expr} {p : Pos} {G : Gam}, EV X A (fenv (recOf 36) pm code doc L f) G [] sg v (.tup (tbl.map D.int)) sg → EV X A (fenv (recOf 36) pm code doc L f) G [] sg idx (.int ((k : Int).fmod 12)) sg → EV X A (fenv (recOf 36) pm code doc L f) G [] sg (.Subscript v idx p) (.int tk) sg := fun h1 h2 => EV.itemT h1 h2 hx' hlen
      have hi : ∀ {l r : Expr} {p : Pos} {G : Gam}, EV X A (fenv (recOf 36) pm code doc L f) G [] sg l (.int k) sg → EV X A (fenv (recOf 36) pm code doc L f) G [] sg r (.int 12) sg → EV X A (fenv (recOf 36) pm code doc L f) G [] sg (.BinOp l .Mod r p) (.int ((k : Int).fmod 12)) sg := fun h1 h2 => EVq.mod h1 h2 h12
      refine hq (hs htup (hi (EV.name rfl) EV.int)) (EV.name rfl)
    · unfold drw
      rw [if_neg hk, htk]
      obtain ⟨u, rfl⟩ := Int.eq_ofNat_of_zero_le hnn
      rw [fmod_nat]; rfl

/-! text Ct16 -/
theorem CT.bind3N {r : DefRec} {x y z : Str} {d₁ d₂ d₃ : D} {σ σ' : Gh} {k : Nat} {f : Str} {G' : Gam} {O' : Oms} (hX : X.prog = pw) (Y : X.Good) (hr : r ∈ recsOf pw) (hf : f = r.name)
    (hbind : ∀ pm code doc a b c, bindArgs (Calls.docDef r.name r.params r.body r.scope pm code doc) ⟨[a, b, c], []⟩ = pure [(x, a), (y, b), (z, c)]) (hkind : KS r.scope.names [x, y, z]) (hnd : [x, y, z].Nodup)
    (h : ∀ A' pm code doc L a, Rm k A' → TR X A' (fenv r pm code doc L a) ⟨[(x, d₁), (y, d₂), (z, d₃)], [], σ⟩ r.body (.nx ⟨G', O', σ'⟩))
    (hco : r.scope.isCoroutine = false := by rfl) (hgen : r.scope.isGenerator = false := by rfl) (hk : r.scope.kind = .function := by rfl) : CT X (k + 1) f σ [d₁, d₂, d₃] .none σ' := by
  subst hf
  exact CT.intro (ns := [x, y, z]) Y (hX ▸ hr) (fun pm code doc vs h => by obtain ⟨a, b, c, rfl⟩ := list_three h; exact hbind pm code doc a b c) rfl hnd hkind.get h (.inr ⟨rfl, _, rfl, rfl⟩) hco hgen hk
theorem ct_pivot (Y : X.Good) (hX : X.prog = pw) {k : Nat} {M : List (List Int)} {step : Nat} (hs : step < M.length) (hr : step < (M.getD step []).length) (hb : M.length ≤ 1000) (hb' : (M.getD step []).length ≤ 1000) (hz : get2 M step step ≠ 0) :
    CT X 1 "pivot_row" (k, M) [.mat, .int step] (.int step) (k, M) := by
  refine CT.bind2 (r := recOf 25) (x := "a") (y := "step") hX Y mem_pivot_row rfl (fun _ _ _ _ _ => rfl) (.l rfl (.l rfl .nil)) (by decide) (fun A pm code doc L f hA => ?_)
  refine TR.cons_ret (TS.forR (σ₁ := (k, M)) (S := fun _ => ⟨[("a", .mat), ("step", .int step)], [], (k, M)⟩) (j := 0) (bds := fun i => [("row", .g (.int ((step : Int) + (i : Nat))))])
    (ITq.rng2 (σ₁ := (k, M)) (a := (step : Int)) (b := (M.length : Int)) Y hA rfl rfl rfl (EV.name rfl) (EVq.matLen Y rfl rfl rfl rfl hb) (by omega) (by omega) (by omega) (by omega)) (by walk_at "sub") (by omega) (fun i _ => Tg.one (by walk_at "sl")) (fun i hi => by omega) ?_)
  refine TR.pre (S' := ⟨[("step", .int step), ("a", .mat), ("row", .int step)], [], (k, M)⟩) (St.sub.mk' (.cons rfl (.cons rfl (.cons (by simp [St.bindAll, St.bind, Gset, Odel]; rfl) .nil))) .nil rfl) ?_
  refine TRq.ifR (b := get2 M step step != 0) (TVq.cmp (by with_unfolding_all rfl) (EVq.mat2 (i := step) (j := step) rfl rfl (EV.name rfl) (EV.name rfl) hs hr hb hb') EV.int CO.ne) (by simpa using hz) ?_
  exact TRq.ret (EV.name rfl)

/-- a step of the elimination: a row's columns, the rows -/
noncomputable def bsIn (lead first ahead : Int) (step row : Nat) (M : List (List Int)) : Nat → List (List Int)
  | 0 => M
  | j + 1 => put2 (bsIn lead first ahead step row M j) row (step + 1 + j)
      ((get2 (bsIn lead first ahead step row M j) row (step + 1 + j) * lead - first * get2 (bsIn lead first ahead step row M j) step (step + 1 + j)).fdiv ahead)
noncomputable def bsOut (M : List (List Int)) (step : Nat) (ahead : Int) : Nat → List (List Int)
  | 0 => M
  | i + 1 => put2 (bsIn (get2 M step step) (get2 (bsOut M step ahead i) (step + 1 + i) step) ahead step (step + 1 + i) (bsOut M step ahead i) (M.length - 1 - step)) (step + 1 + i) step 0
noncomputable def bsR (M : List (List Int)) (step : Nat) (ahead : Int) : List (List Int) := bsOut M step ahead (M.length - 1 - step)
/-- square -/
noncomputable def Sq (n : Nat) (M : List (List Int)) : Prop := M.length = n ∧ ∀ i, i < n → (M.getD i []).length = n
theorem Sq.put {n : Nat} {M : List (List Int)} (h : Sq n M) (r c : Nat) (v : Int) : Sq n (put2 M r c v) := by
  refine ⟨by unfold put2; rw [List.length_set]; exact h.1, fun i hi => ?_⟩
  unfold put2
  rw [List.getD_eq_getElem?_getD, List.getElem?_set]
  by_cases e : r = i
  · subst e
    have : r < M.length := by rw [h.1]; exact hi
    simp only [if_pos rfl, this, if_true]
    simpa using h.2 r hi
  · rw [if_neg e, ← List.getD_eq_getElem?_getD]; exact h.2 i hi
theorem Sq.bsIn {n : Nat} {l f a : Int} {s r : Nat} {M : List (List Int)} (h : Sq n M) : ∀ j, Sq n (bsIn l f a s r M j)
  | 0 => h
  | j + 1 => (Sq.bsIn h j).put ..
theorem Sq.bsOut {n : Nat} {s : Nat} {a : Int} {M : List (List Int)} (h : Sq n M) : ∀ i, Sq n (bsOut M s a i)
  | 0 => h
  | i + 1 => (Sq.bsIn (Sq.bsOut h i) _).put ..
structure BsOk (n : Nat) (M : List (List Int)) (step : Nat) (ahead : Int) : Prop where
  sq : Sq n M
  nb : n ≤ 1000
  sn : step < n
  a0 : ahead ≠ 0
  al : ahead.natAbs.log2 < 9000
  ld : Sm (get2 M step step)
  st : ∀ i, i < n - 1 - step → Sm (get2 (bsOut M step ahead i) (step + 1 + i) step) ∧ ∀ j, j < n - 1 - step →
    Sm (get2 (bsIn (get2 M step step) (get2 (bsOut M step ahead i) (step + 1 + i) step) ahead step (step + 1 + i) (bsOut M step ahead i) j) (step + 1 + i) (step + 1 + j)) ∧
    Sm (get2 (bsIn (get2 M step step) (get2 (bsOut M step ahead i) (step + 1 + i) step) ahead step (step + 1 + i) (bsOut M step ahead i) j) step (step + 1 + j))
set_option maxHeartbeats 1000000 in
theorem ct_bareiss (Y : X.Good) (hX : X.prog = pw) {k n : Nat} {M : List (List Int)} {step : Nat} {ahead : Int} (h : BsOk n M step ahead) : CT X 1 "bareiss_step" (k, M) [.mat, .int step, .int ahead] .none (k, bsR M step ahead) := by
  refine CT.bind3N (r := recOf 26) (x := "a") (y := "step") (z := "ahead") (G' := [("a", .mat), ("step", .int step), ("ahead", .int ahead), ("lead", .int (get2 M step step))]) (O' := []) hX Y mem_bareiss_step rfl (fun _ _ _ _ _ _ => rfl) (.l rfl (.l rfl (.l rfl .nil))) (by decide) (fun A pm code doc L f hA => ?_)
  have hML := h.sq.1
  have hn := h.nb
  have hsn := h.sn
  have dims : ∀ {N : List (List Int)}, Sq n N → ∀ {r : Nat}, r < n → r < N.length ∧ (N.getD r []).length = n ∧ N.length ≤ 1000 ∧ (N.getD r []).length ≤ 1000 := fun hN r hr => by
    have := hN.1; have := hN.2 r hr; omega
  obtain ⟨d1, d2, d3, d4⟩ := dims h.sq hsn
  refine TRq.set (σ₁ := (k, M)) (d := .int (get2 M step step)) rfl (by walk_at "sl") (EVq.mat2 (i := step) (j := step) rfl rfl (EV.name rfl) (EV.name rfl) d1 (by show step < (M.getD step []).length; omega) d3 d4) ?_
  refine TR.sub (S' := ⟨[("a", .mat), ("step", .int step), ("ahead", .int ahead), ("lead", .int (get2 M step step))], [], (k, bsOut M step ahead (n - 1 - step))⟩) ?_ (by unfold bsR; rw [hML]; walk_at "sub")
  generalize hlead : get2 M step step = lead
  refine TR.pre (S' := ⟨[("a", .mat), ("step", .int step), ("ahead", .int ahead), ("lead", .int lead)], [], (k, M)⟩) (by walk_at "sub") ?_
  refine TRq.forRng2 (σ₁ := (k, M)) (σ₂ := (k, M)) (a := (step : Int) + 1) (b := (M.length : Int)) (fun i => ⟨[("a", .mat), ("step", .int step), ("ahead", .int ahead), ("lead", .int lead)], [], (k, bsOut M step ahead i)⟩) (n - 1 - step) Y hA rfl rfl rfl (fun _ => rfl) (by walk_at "sl") (by walk_at "ev")
    (EVq.matLen Y rfl rfl rfl rfl d3) (by omega) (by omega) (by omega) (by omega) (by omega) (by walk_at "sub") (fun i hi => ?_) TR.nil
  obtain ⟨h1, h2⟩ := h.st i hi
  rw [hlead] at h2
  have hsq := h.sq.bsOut (s := step) (a := ahead) i
  have eo : bsOut M step ahead (i + 1) = put2 (bsIn lead (get2 (bsOut M step ahead i) (step + 1 + i) step) ahead step (step + 1 + i) (bsOut M step ahead i) (n - 1 - step)) (step + 1 + i) step 0 := by rw [bsOut, hlead, hML]
  rw [eo]
  have hld := h.ld
  rw [hlead] at hld
  generalize bsOut M step ahead i = N at h1 h2 hsq
  generalize hrow : step + 1 + i = row at h1 h2
  have hrn : row < n := by omega
  generalize hfirst : get2 N row step = first at h1 h2
  refine TR.pre (S' := ⟨[("a", .mat), ("step", .int step), ("ahead", .int ahead), ("lead", .int lead), ("row", .int (row : Nat))], [], (k, N)⟩) (St.sub.mk' (.cons rfl (.cons rfl (.cons rfl (.cons rfl (.cons (by show some _ = some _; rw [show (step : Int) + 1 + (i : Int) = (row : Int) by omega]) .nil))))) .nil rfl) ?_
  obtain ⟨e1, e2, e3, e4⟩ := dims hsq hrn
  refine TRq.set (σ₁ := (k, N)) (d := .int first) rfl (by walk_at "sl") (EV.to (EVq.mat2 (i := row) (j := step) rfl rfl (EV.name rfl) (EV.name rfl) e1 (by show step < (N.getD row []).length; omega) e3 e4) (by show D.int (get2 N row step) = _; rw [hfirst])) ?_
  refine TR.pre (S' := ⟨[("a", .mat), ("step", .int step), ("ahead", .int ahead), ("lead", .int lead), ("row", .int (row : Nat)), ("first", .int first)], [], (k, N)⟩) (by walk_at "sub") ?_
  have hNl := hsq.1
  refine TRq.forRng2 (σ₁ := (k, N)) (σ₂ := (k, N)) (a := (step : Int) + 1) (b := (N.length : Int)) (fun j => ⟨[("a", .mat), ("step", .int step), ("ahead", .int ahead), ("lead", .int lead), ("row", .int (row : Nat)), ("first", .int first)], [], (k, bsIn lead first ahead step row N j)⟩) (n - 1 - step) Y hA rfl rfl rfl (fun _ => rfl) (by walk_at "sl") (by walk_at "ev")
    (EVq.matLen Y rfl rfl rfl rfl e3) (by omega) (by omega) (by omega) (by omega) (by omega) (by walk_at "sub") (fun j hj => ?_) ?_
  · obtain ⟨t1, t2⟩ := h2 j hj
    have hq := hsq.bsIn (l := lead) (f := first) (a := ahead) (s := step) (r := row) j
    rw [show bsIn lead first ahead step row N (j + 1) = put2 (bsIn lead first ahead step row N j) row (step + 1 + j) ((get2 (bsIn lead first ahead step row N j) row (step + 1 + j) * lead - first * get2 (bsIn lead first ahead step row N j) step (step + 1 + j)).fdiv ahead) from rfl]
    generalize bsIn lead first ahead step row N j = P at t1 t2 hq
    generalize hcol : step + 1 + j = col at t1 t2
    obtain ⟨f1, f2, f3, f4⟩ := dims hq hrn
    obtain ⟨g1, g2, g3, g4⟩ := dims hq hsn
    refine TR.pre (S' := ⟨[("a", .mat), ("step", .int step), ("ahead", .int ahead), ("lead", .int lead), ("row", .int (row : Nat)), ("first", .int first), ("column", .int (col : Nat))], [], (k, P)⟩) (St.sub.mk' (.cons rfl (.cons rfl (.cons rfl (.cons rfl (.cons rfl (.cons rfl (.cons (by show some _ = some _; rw [show (step : Int) + 1 + (j : Int) = (col : Int) by omega]) .nil))))))) .nil rfl) ?_
    refine TR.sub (TR.cons (TS.matPut (i := row) (j := col) (w := (get2 P row col * lead - first * get2 P step col).fdiv ahead) rfl rfl ?_ (EV.name rfl) (EV.name rfl) f1 (by show col < (P.getD row []).length; omega) f3 f4 rfl) TR.nil) ?_
    rotate_left
    · walk_at "sub"
    exact EVq.div (σ₁ := (k, P)) (EVq.sub (σ₁ := (k, P)) (EVq.mul (σ₁ := (k, P)) (EVq.mat2 (i := row) (j := col) rfl rfl (EV.name rfl) (EV.name rfl) f1 (by show col < (P.getD row []).length; omega) f3 f4) (EV.name rfl) (mul_ok t1 hld))
      (EVq.mul (σ₁ := (k, P)) (EV.name rfl) (EVq.mat2 (i := step) (j := col) rfl rfl (EV.name rfl) (EV.name rfl) g1 (by show col < (P.getD step []).length; omega) g3 g4) (mul_ok h1 t2))) (EV.name rfl) h.a0 h.al
  · have hq := hsq.bsIn (l := lead) (f := first) (a := ahead) (s := step) (r := row) (n - 1 - step)
    generalize bsIn lead first ahead step row N (n - 1 - step) = P at hq
    obtain ⟨f1, f2, f3, f4⟩ := dims hq hrn
    refine TR.sub (TR.cons (TS.matPut (i := row) (j := step) (w := 0) rfl rfl EV.int (EV.name rfl) (EV.name rfl) f1 (by show step < (P.getD row []).length; omega) f3 f4 rfl) TR.nil) (by walk_at "sub")

/-! text Ct17 -/
noncomputable def detS (M : List (List Int)) : Nat → List (List Int) × Int
  | 0 => (M, 1)
  | i + 1 => (bsR (detS M i).1 i (detS M i).2, get2 (bsR (detS M i).1 i (detS M i).2) i i)
structure DetOk (n : Nat) (M : List (List Int)) : Prop where
  n0 : 0 < n
  nb : n ≤ 1000
  sq : Sq n M
  st : ∀ i, i < n → get2 (detS M i).1 i i ≠ 0 ∧ BsOk n (detS M i).1 i (detS M i).2
theorem Sq.bsR {n : Nat} {M : List (List Int)} {s : Nat} {a : Int} (h : Sq n M) : Sq n (bsR M s a) := h.bsOut _
theorem Sq.det {n : Nat} {M : List (List Int)} (h : Sq n M) : ∀ i, Sq n (detS M i).1
  | 0 => h
  | i + 1 => (Sq.det h i).bsR
theorem bits1 : Builtin.Int.intBits 1 ≤ 64 := bits64 (by decide)
theorem getD_rows {M : List (List Int)} {i : Nat} (h : i < M.length) : (M.map il).getD i .none = il (M.getD i []) := by
  simp [List.getD_eq_getElem?_getD, List.getElem?_eq_getElem h]
set_option maxHeartbeats 2000000 in
theorem ct_determinant (Y : X.Good) (hX : X.prog = pw) {k n : Nat} {M : List (List Int)} (h : DetOk n M) : CT X 3 "determinant" (k, []) [il2 M] (.int (detS M n).2) (k, []) := by
  refine CT.bind1 (r := recOf 27) (x := "a") hX Y mem_determinant rfl (fun _ _ _ _ => rfl) (.c rfl (fun _ => rfl) .nil) (fun A pm code doc L f hA => ?_)
  have hML := h.sq.1
  have hn := h.nb
  have hn0 := h.n0
  unfold il2
  have hla : (M.map il).length ≤ 100000 := by simp; omega
  refine TRq.ifF (b := false) (TV.to (TVq.cmp (d₁ := .list []) (d₂ := .list []) (by with_unfolding_all rfl) ?_ (by walk_at "ev") (CO.ne_list 0 rfl (by have := hA.2.2; unfold cLine; omega))) (by simp [D.eqs])) rfl ?_
  · refine EV.to (EV.ofF (EF.comp (G' := [("a", .list (M.map il))]) (n := (M.map il).length) (iv := fun i => .one ((M.map il).getD i .none)) (bds := fun i => [("row", .g ((M.map il).getD i .none))]) (σs := fun _ => (k, [])) (q := fun _ => false) (d := fun _ => .none)
      (by walk_at "lst") hla (KF.get (by walk_at "kf")) (by decide) rfl (by decide) (fun C => CapL.get (by revert C; walk_at "cap")) (fun i _ p hp => by rw [List.mem_singleton.mp hp]; exact ⟨(by decide : ("row" : Str) ≠ hid), rfl⟩)
      (fun C i _ => Tg.one (slL rfl (by decide))) (fun C O i hi => TF.one ?_) (fun C O i _ h => nomatch h) (fun _ _ _ => rfl) (fun _ => rfl))) (by simp)
    have hi' : i < M.length := by simpa using hi
    rw [getD_rows hi']
    have hr := h.sq.2 i (by omega)
    have hlr : ((M.getD i []).map D.int).length ≤ 100000 := by simp only [List.length_map]; omega
    unfold il
    refine TV.to (by walk_at "tv") ?_
    simp only [List.length_map, hr, hML]; simp
  have hMne : M ≠ [] := by intro e; rw [e] at hML; simp at hML; omega
  refine TRq.mkMat (x := "found") (y := "sign") (z := "ahead") (M := M) (M' := (detS M n).1) hA rfl hMne rfl rfl rfl (by walk_at "sl") ?_ ?_
  · refine EM.comp (G' := []) (by walk_at "kf") (by decide) rfl (by decide) (by walk_at "cap") (by decide) rfl (fun _ => rfl) (fun _ => rfl) ?_ (by omega) (fun C O i hi => ?_)
    · have hq := ITq.lst (X := X) (env := fenv (recOf 27) pm code doc L f) (G := [("a", .list (M.map il))]) (O := []) (σ := (k, [])) (σ₁ := (k, [])) (x := "row") (p := ⟨96, 41, 96, 44⟩) (iter := .Name "a" ⟨96, 48, 96, 49⟩) (ds := M.map il) hA (by walk_at "ev")
      refine ⟨fun c₀ s₀ c s F hg => ?_⟩
      refine wpAny_mono (hq.run c₀ s₀ c s F hg) (fun x s₁ h₁ => wpAny_mono h₁ (fun it s₂ h₂ => ?_) fun _ _ x => x) fun _ _ x => x
      obtain ⟨I, c', wr, J, h1, h2, h3, h4, h5, h6⟩ := h₂
      refine ⟨I, c', wr, J, h1, h2, h3, ?_, h5, h6⟩
      rw [List.length_map] at h4
      refine ⟨h4.itrs, h4.step, h4.self, fun i c s hi K j => ?_, h4.done⟩
      have := h4.next i c s hi K j
      rw [getD_rows hi] at this
      exact this
    · have hr := h.sq.2 i (by omega)
      have hlr : ((M.getD i []).map D.int).length ≤ 100000 := by simp only [List.length_map]; omega
      unfold il
      walk_at "ef"
  refine TR.pre (S' := ⟨[("a", .list (M.map il)), ("found", .mat), ("sign", .int 1), ("ahead", .int (detS M 0).2)], [], (k, (detS M 0).1)⟩) (by walk_at "sub") ?_
  refine TRq.forRng1 (σ₁ := (k, (detS M 0).1)) (b := ((M.map il).length : Int)) (fun i => ⟨[("a", .list (M.map il)), ("found", .mat), ("sign", .int 1), ("ahead", .int (detS M i).2)], [], (k, (detS M i).1)⟩) n Y hA rfl rfl (fun _ => rfl) (by walk_at "sl") (by walk_at "ev") (by simp; omega) (by omega) (by omega) (by walk_at "sub") (fun i hi => ?_) ?_
  · obtain ⟨hz, hb⟩ := h.st i hi
    have hsq := h.sq.det i
    rw [show detS M (i + 1) = (bsR (detS M i).1 i (detS M i).2, get2 (bsR (detS M i).1 i (detS M i).2) i i) from rfl]
    generalize (detS M i).1 = N at hz hb hsq
    generalize (detS M i).2 = ahead at hb
    refine TR.pre (S' := ⟨[("a", .list (M.map il)), ("found", .mat), ("sign", .int 1), ("ahead", .int ahead), ("step", .int i)], [], (k, N)⟩) (by walk_at "sub") ?_
    have l1 := hsq.1
    have l2 := hsq.2 i hi
    refine TRq.set (σ₁ := (k, N)) (d := .int i) rfl (by walk_at "sl") (EVq.call Y hA rfl rfl rfl (by walk_at "es") (ct_pivot Y hX (by omega) (by omega) (by omega) (by omega) hz) (by decide)) ?_
    refine TR.pre (S' := ⟨[("a", .list (M.map il)), ("found", .mat), ("sign", .int 1), ("ahead", .int ahead), ("step", .int i), ("row", .int i)], [], (k, N)⟩) (by walk_at "sub") ?_
    refine TRq.ifF (b := false) (by walk_at "tv") rfl ?_
    refine TRq.ifF (b := (i : Int) != (i : Int)) (by walk_at "tv") (by simp) ?_
    refine TR.cons (TS.exprN (σ₁ := (k, bsR N i ahead)) (EVq.call Y hA rfl rfl rfl (by walk_at "es") (ct_bareiss Y hX hb) (by decide)) rfl rfl) ?_
    have hsq' := hsq.bsR (s := i) (a := ahead)
    generalize bsR N i ahead = P at hsq'
    have l3 := hsq'.1
    have l4 := hsq'.2 i hi
    refine TR.sub (TRq.set (σ₁ := (k, P)) (d := .int (get2 P i i)) rfl (by walk_at "sl") (EVq.mat2 (i := i) (j := i) rfl rfl (EV.name rfl) (EV.name rfl) (by show i < P.length; omega) (by show i < (P.getD i []).length; omega) (by show P.length ≤ 1000; omega) (by show (P.getD i []).length ≤ 1000; omega)) TR.nil) (by walk_at "sub")
  · have hm : IntMulOk 1 (detS M n).2 := IntMulOk.of_left bits1
    refine TR.to (d := .int (1 * (detS M n).2)) ?_ (by rw [Int.one_mul])
    walk_at "ret"

/-! text Ct18 -/
noncomputable def lastI (l : List Int) : Int := l.getD (l.length - 1) 0
noncomputable def plS (scr : List Int) : Nat → List Int
  | 0 => [(drw scr 1 4 : Int) - 3]
  | i + 1 => plS scr i ++ [lastI (plS scr i) + 1 + (drw scr (2 + i) 2 : Int)]
noncomputable def manyN (scr : List Int) : Nat := 2 + drw scr 0 2
noncomputable def places (scr : List Int) : List Int := plS scr (manyN scr - 1)
noncomputable def timesN (scr : List Int) : List Nat := (List.range (manyN scr)).map fun i => 1 + drw scr (manyN scr + 1 + i) (5 - manyN scr)
noncomputable def f0 (scr : List Int) : List Int := (List.range (timesN scr).sum).map fun i => (drw scr (2 * manyN scr + 1 + i) 7 : Int) - 3
theorem plS_len (scr : List Int) : ∀ i, (plS scr i).length = i + 1
  | 0 => rfl
  | i + 1 => by rw [plS, List.length_append, plS_len scr i]; rfl
theorem item_lastI {l : List Int} (h : l ≠ []) : D.item (l.map D.int) (-1) = some (.int (lastI l)) := by
  have h1 : 0 < l.length := List.length_pos_iff.mpr h
  unfold D.item
  rw [if_neg (by omega), if_pos (by simp; omega), List.length_map, show (-1 + (l.length : Int)).toNat = l.length - 1 by omega, List.getElem?_map, List.getElem?_eq_getElem (by omega)]
  simp [lastI, List.getD_eq_getElem?_getD, List.getElem?_eq_getElem (show l.length - 1 < l.length by omega)]
/-- what is told, the rows, the product -/
noncomputable def toldAt (f P : List Int) (T : List Nat) (i : Nat) : List Int := (List.range (T.getD i 0)).map fun o => laR f (P.getD i 0) o
noncomputable def toldS (f P : List Int) (T : List Nat) (i : Nat) : List (List Int) := (List.range i).map (toldAt f P T)
noncomputable def rowAt (P : List Int) (n i o : Nat) : List Int := (List.range n).map fun p => laR (List.replicate p 0 ++ [1]) (P.getD i 0) o
noncomputable def rowsS (P : List Int) (T : List Nat) (n : Nat) : Nat → List (List Int)
  | 0 => []
  | i + 1 => rowsS P T n i ++ (List.range (T.getD i 0)).map (rowAt P n i)
noncomputable def dueI (P : List Int) (T : List Nat) (i : Nat) (d : Int) : Nat → Int
  | 0 => d
  | j + 1 => dueI P T i d j * (P.getD i 0 - P.getD j 0) ^ (T.getD i 0 * T.getD j 0)
noncomputable def dueS (P : List Int) (T : List Nat) : Nat → Int
  | 0 => 1
  | i + 1 => dueI P T i (dueS P T i) i
/-- what the law wants of its numbers -/
structure LawOk (P : List Int) (T : List Nat) (f : List Int) : Prop where
  pl : P.length ≤ 3
  tl : T.length = P.length
  n : T.sum ≤ 6
  pb : ∀ i, i < P.length → (P.getD i 0).natAbs ≤ 8
  tb : ∀ i, i < P.length → T.getD i 0 ≤ 3
  fl : f.length ≤ 6
  fb : ∀ x ∈ f, x.natAbs ≤ 3
  zs : ∀ i, i < P.length → (zsR f (P.getD i 0) ++ [0, 0, 0]).take (T.getD i 0) = toldAt f P T i
  det : DetOk T.sum (rowsS P T T.sum P.length)
  due : (detS (rowsS P T T.sum P.length) T.sum).2 = dueS P T P.length
  put : ∃ k : Nat → Nat, (∀ i, i < P.length → PutOk (toldS f P T P.length) P T k i) ∧ putS (toldS f P T P.length) P T k P.length = frz f
  sp : ∀ j, j ≤ T.length → (spS T j).length ≤ 1000
  stp : StepOk (toldS f P T P.length) P (sps T)
  ste : (stS (toldS f P T P.length) P (sps T) (sps T).length).2.1 = f
theorem EV.draw {A : Around} {env : Env} {G : Gam} {O : Oms} {k m K : Nat} {M : List (List Int)} {p1 p2 p3 : Pos} {e : Expr} (Y : X.Good) (hX : X.prog = pw) (hA : Rm K A) (hK : 1 ≤ K) (hs : X.scr.length ≤ 1000) (hm : 0 < m)
    (hk : env.kindOf "_law_draw" = some .globalImplicit) (hx : G.lookup ("pool" : Str) = some D.pool) (he : EV X A env G O (k, M) e (.int m) (k, M))
    (h1 : starEach [.Name "pool" p2, e] env = (false, eval (.Name "pool" p2) env) :: starEach [e] env) (h2 : starEach [e] env = (false, eval e env) :: starEach [] env) :
    EV X A env G O (k, M) (.Call (.Name "_law_draw" p1) [.Name "pool" p2, e] [] p3) (.int (drw X.scr k m)) (k + 1, M) :=
  EVq.call Y hA hk h1 rfl (ESq.cons h1 (EV.name hx) (ESq.cons h2 he ES.nil)) (ct_draw Y hX hs hm) hK
theorem EV.nat {A : Around} {env : Env} {G : Gam} {O : Oms} {σ σ' : Gh} {e : Expr} {i : Int} {n : Nat} (h : EV X A env G O σ e (.int i) σ') (q : i = n) : EV X A env G O σ e (.int n) σ' := q ▸ h
theorem coks_int (n : Nat) : ∀ (a b : List Int), D.coks n (a.map D.int) (b.map D.int) = true
  | [], b => by cases n <;> rfl
  | a :: as, [] => by cases n <;> rfl
  | a :: as, b :: bs => by cases n <;> simp [D.coks, D.cok, coks_int _ as bs]
theorem coks_q : ∀ (a b : List Rat), D.coks 2 (a.map q) (b.map q) = true
  | [], b => rfl
  | a :: as, [] => rfl
  | a :: as, b :: bs => by simp [D.coks, D.cok, coks_q as bs, q, RatD]
theorem eqs_int : ∀ (a : List Int), D.eqs (a.map D.int) (a.map D.int) = true
  | [] => rfl
  | a :: as => by simp [D.eqs, D.eq, eqs_int as]
theorem eqs_q : ∀ (a : List Rat), D.eqs (a.map q) (a.map q) = true
  | [] => rfl
  | a :: as => by simp [D.eqs, D.eq, eqs_q as, q, RatD]
theorem EF.compS {A : Around} {env : Env} {G : Gam} {O : Oms} {σ : Gh} (G' : Gam) {elt iter : Expr} {x : Str} {px : Pos} {scope : Scope} {pos : Pos} {n : Nat} {f : Nat → D} {d : Nat → D} (σs : Nat → Gh)
    (hfree : KF env scope.names) (hcell : ∀ y ∈ scope.names, y.2 ≠ .cell) (hkind : scope.kind = .function) (hnames : ∀ y ∈ scope.names, y.2 = .local → scope.names.lookup y.1 = some .local)
    (hcap : ∀ C, CapL G env (ienv scope env C) G') (hx : x ≠ hid) (hx' : G'.lookup x = none) (hl : ∀ C, (ienv scope env C).kindOf x = some .local) (hs : ∀ x, foldedSetIterable iter env x = pure x)
    (hi : IT X A env G O σ (.Name x px) iter n (fun i => .one (f i)) (σs 0)) (hn : n ≤ 100000)
    (helt : ∀ C O i, i < n → EV X A (ienv scope env C) (Gset G' x (f i)) O (σs i) elt (d i) (σs (i + 1))) :
    EF X A env G O σ (.ListComp elt [⟨.Name x px, iter, [], 0⟩] scope pos) ((List.range n).map d) (σs n) := by
  have := EF.comp (X := X) (A := A) (env := env) (G := G) (O := O) (σ := σ) (G' := G') (elt := elt) (target := .Name x px) (iter := iter) (ifs := []) (scope := scope) (pos := pos) (n := n) (iv := fun i => .one (f i)) (bds := fun i => [(x, .g (f i))])
    (σs := σs) (q := fun _ => true) (d := d) hi hn hfree.get hcell hkind hnames (fun C => (hcap C).get) (fun i _ p hp => by rw [List.mem_singleton.mp hp]; exact ⟨hx, hx'⟩)
    (fun C i _ => Tg.one (slL (hl C) hx)) (fun C O i _ => TF.nil) (fun C O i h _ => helt C O i h) (fun i _ h => by cases h) hs
  have e : (List.range n).filter (fun _ => true) = List.range n := List.filter_eq_self.mpr fun _ _ => rfl
  simp only [e] at this
  exact this
theorem nl_il (l : List Nat) : l.map nD = (l.map fun n : Nat => (n : Int)).map D.int := by rw [List.map_map]; rfl
theorem sum_cast : ∀ (l : List Nat), (l.map fun n : Nat => (n : Int)).sum = ((l.sum : Nat) : Int)
  | [] => rfl
  | a :: l => by simp [sum_cast l]
theorem le_sum : ∀ {l : List Nat} {i : Nat}, i < l.length → l.getD i 0 ≤ l.sum
  | a :: l, 0, _ => by simp
  | a :: l, i + 1, h => by
    have := le_sum (l := l) (i := i) (by simpa using h)
    simp at this ⊢; omega
/-- sum(times) -/
theorem EV.sumT {A : Around} {env : Env} {G : Gam} {O : Oms} {σ : Gh} {K : Nat} {p1 p2 p3 : Pos} {T : List Nat} (Y : X.Good) (hA : Rm K A) (hk : env.kindOf "sum" = some .globalImplicit) (hx : G.lookup ("times" : Str) = some (.list (T.map nD))) (hn : T.sum ≤ 6)
    (he : starEach [.Name "times" p2] env = (false, eval (.Name "times" p2) env) :: starEach [] env) : EV X A env G O σ (.Call (.Name "sum" p1) [.Name "times" p2] [] p3) (.int (T.sum : Nat)) σ := by
  refine EV.nat (EVq.sum (is := T.map fun n : Nat => (n : Int)) Y hA hk he (EV.to (EV.name hx) (by rw [nl_il]; rfl)) fun j hj => ?_) (sum_cast T)
  have hj' : j < T.length := by simpa using hj
  have h1 := le_sum hj'
  have h2 : (T.take (j + 1)).sum ≤ T.sum := by
    have := congrArg List.sum (List.take_append_drop (j + 1) T)
    rw [List.sum_append] at this; omega
  have e1 : (T.map fun n : Nat => (n : Int)).getD j 0 = ((T.getD j 0 : Nat) : Int) := by
    simp [List.getD_eq_getElem?_getD, List.getElem?_eq_getElem hj']
  have e2 : ((T.map fun n : Nat => (n : Int)).take (j + 1)).sum = (((T.take (j + 1)).sum : Nat) : Int) := by rw [← List.map_take, sum_cast]
  rw [e1, e2]
  unfold InLong
  omega
theorem chS_small : ∀ i : Nat, i < 6 → ∀ o : Nat, o < 4 → (chS i o).natAbs ≤ 20 := by decide
theorem laT_small {f : List Int} {p : Int} {o i : Nat} (hf : ∀ x ∈ f, x.natAbs ≤ 3) (hl : f.length ≤ 6) (hp : p.natAbs ≤ 8) (ho : o < 4) (hi : i < f.length) : (laT f p o i).natAbs ≤ 2 ^ 50 := by
  unfold laT
  rw [Int.natAbs_mul, Int.natAbs_mul, Int.natAbs_pow]
  have h1 := chS_small i (by omega) o ho
  have h2 := hf _ (getD_memI hi)
  have h3 : p.natAbs ^ (i - o) ≤ 8 ^ 6 := Nat.le_trans (Nat.pow_le_pow_left hp _) (Nat.pow_le_pow_right (by decide) (by omega))
  have h4 := Nat.mul_le_mul (Nat.mul_le_mul h1 h2) h3
  exact Nat.le_trans h4 (by decide)
/-- _law_at in a comprehension -/
theorem EV.lawAt {A : Around} {env : Env} {G : Gam} {O : Oms} {σ : Gh} {K : Nat} {p1 p2 p3 p4 : Pos} {e : Expr} {f : List Int} {p : Int} {o : Nat} (Y : X.Good) (hX : X.prog = pw) (hA : Rm K A) (hK : 2 ≤ K) (hk : env.kindOf "_law_at" = some .globalImplicit)
    (h1 : starEach [e, .Name "place" p2, .Name "order" p3] env = (false, eval e env) :: starEach [.Name "place" p2, .Name "order" p3] env)
    (h2 : starEach [.Name "place" p2, .Name "order" p3] env = (false, eval (.Name "place" p2) env) :: starEach [.Name "order" p3] env) (h3 : starEach [.Name "order" p3] env = (false, eval (.Name "order" p3) env) :: starEach [] env)
    (hf : ∀ x ∈ f, x.natAbs ≤ 3) (hl : f.length ≤ 6) (hp : p.natAbs ≤ 8) (ho : o < 4) (he : EV X A env G O σ e (il f) σ) (hx : G.lookup ("place" : Str) = some (.int p)) (hy : G.lookup ("order" : Str) = some (.int o)) :
    EV X A env G O σ (.Call (.Name "_law_at" p1) [e, .Name "place" p2, .Name "order" p3] [] p4) (.int (laR f p o)) σ :=
  EVq.call Y hA hk h1 rfl (ESq.cons h1 he (ESq.cons h2 (EV.name hx) (ESq.cons h3 (EV.name hy) ES.nil)))
    (ct_law_at Y hX (by omega) (fun x hx => Nat.lt_of_le_of_lt (hf x hx) (by decide)) (by omega) (by omega) fun i _ hi => laT_small hf hl hp ho hi) hK
theorem ITq.rngN {A : Around} {env : Env} {G : Gam} {O : Oms} {σ : Gh} {x : Str} {p q pos : Pos} {e : Expr} {n K : Nat} (Y : X.Good) (hA : Rm K A) (hk : env.kindOf "range" = some .globalImplicit) (he : starEach [e] env = (false, eval e env) :: starEach [] env)
    (hs : EV X A env G O σ e (.int (n : Nat)) σ) (hn : n ≤ 100000) : IT X A env G O σ (.Name x p) (.Call (.Name "range" q) [e] [] pos) n (fun i => .one (.int (i : Nat))) σ := by
  have := ITq.rng1 (x := x) (p := p) (q := q) (pos := pos) Y hA hk he hs (by omega) (by omega)
  rw [Int.toNat_natCast] at this
  exact this
theorem rowsS_len {P : List Int} {T : List Nat} {n : Nat} (h : ∀ i, i < P.length → T.getD i 0 ≤ 3) : ∀ i, i ≤ P.length → (rowsS P T n i).length ≤ 3 * i
  | 0, _ => by simp [rowsS]
  | i + 1, hi => by
    have h1 := rowsS_len (n := n) h i (by omega)
    have h2 := h i (by omega)
    rw [rowsS, List.length_append, List.length_map, List.length_range]; omega
set_option maxHeartbeats 4000000 in
theorem law_rest (Y : X.Good) (hX : X.prog = pw) {A : Around} {pm code doc : Value} {L a : Addr} (hA : Rm 9 A) {P f : List Int} {T : List Nat} {k : Nat} (H : LawOk P T f) :
    TR X A (fenv (recOf 41) pm code doc L a) ⟨[("places", .list (P.map D.int)), ("times", .list (T.map nD)), ("f", il f)], [], (k, [])⟩ ((recOf 41).body.drop 5) (.ret (.bool true) (k, [])) := by
  have hpl := H.pl
  have htl := H.tl
  have hn6 := H.n
  have hfl := H.fl
  have hlp : (P.map D.int).length ≤ 100000 := by simp; omega
  have hlt : (T.map nD).length ≤ 100000 := by simp; omega
  refine TRq.swap (σ₁ := (k, [])) (names := ["told", "rows", "due"]) (bs := [.o [], .o [], .g (.int 1)]) hA rfl rfl (by walk_at "sl") (by walk_at "eb") rfl (by simp) ?_
  refine TR.pre (S' := ⟨[("places", .list (P.map D.int)), ("times", .list (T.map nD)), ("f", il f), ("due", .int (dueS P T 0))], [("told", (toldS f P T 0).map il), ("rows", (rowsS P T T.sum 0).map il)], (k, [])⟩) (by walk_at "sub") ?_
  refine TRq.forEnm (σ₁ := (k, [])) (fun i => ⟨[("places", .list (P.map D.int)), ("times", .list (T.map nD)), ("f", il f), ("due", .int (dueS P T i))], [("told", (toldS f P T i).map il), ("rows", (rowsS P T T.sum i).map il)], (k, [])⟩) (P.map D.int) Y hA rfl rfl (fun _ => rfl) (by walk_at "sl") (by walk_at "sl") (by walk_at "ev") (by walk_at "sub") (fun i hi => ?_) ?_
  · have hi' : i < P.length := by simpa using hi
    rw [getD_il hi']
    have hpb := H.pb i hi'
    have htb := H.tb i hi'
    have hzs := H.zs i hi'
    have hxt := item_nl (l := T) (i := i) (by omega)
    have hrl : (rowsS P T T.sum i).length ≤ 1000 := by
      have := rowsS_len (n := T.sum) H.tb i (by omega)
      omega
    have htl' : (toldS f P T i).length = i := by simp [toldS]
    have ets : (toldS f P T (i + 1)).map il = (toldS f P T i).map il ++ [il (toldAt f P T i)] := by unfold toldS; rw [List.range_succ, List.map_append, List.map_append]; rfl
    refine TR.pre (S' := ⟨[("places", .list (P.map D.int)), ("times", .list (T.map nD)), ("f", il f), ("due", .int (dueS P T i)), ("spot", .int i), ("place", .int (P.getD i 0))], [("told", (toldS f P T i).map il), ("rows", (rowsS P T T.sum i).map il)], (k, [])⟩) (by walk_at "sub") ?_
    -- told.append
    refine TRq.append (σ₁ := (k, [])) (d := il (toldAt f P T i)) rfl rfl rfl rfl rfl (by decide) rfl rfl ?_ (by simp; omega) ?_
    · refine EV.to (EV.ofF (EF.comp1 [("f", il f), ("place", .int (P.getD i 0))] (n := T.getD i 0) (f := fun o => .int (o : Nat)) (d := fun o => .int (laR f (P.getD i 0) o))
        (by walk_at "kf") (by decide) rfl (by decide) (by walk_at "cap") (by decide) rfl (fun _ => rfl) (fun _ => rfl) (ITq.rngN Y hA rfl rfl (by walk_at "ev") (by omega)) (by omega) fun C O o ho => ?_)) ?_
      · exact EV.lawAt Y hX hA (by decide) rfl rfl rfl rfl H.fb hfl hpb (by omega) (EV.name rfl) rfl rfl
      · unfold toldAt il; rw [List.map_map]; rfl
    refine TR.pre (S' := ⟨[("places", .list (P.map D.int)), ("times", .list (T.map nD)), ("f", il f), ("due", .int (dueS P T i)), ("spot", .int i), ("place", .int (P.getD i 0))], [("told", (toldS f P T (i + 1)).map il), ("rows", (rowsS P T T.sum i).map il)], (k, [])⟩) (St.sub.mk' (.cons rfl (.cons rfl (.cons rfl (.cons rfl (.cons rfl (.cons rfl .nil)))))) (.cons (by rw [ets]; rfl) (.cons rfl .nil)) rfl) ?_
    have htl2 : (toldS f P T (i + 1)).length = i + 1 := by simp [toldS]
    have hxtd := item_il2 (l := toldS f P T (i + 1)) (i := i) (by omega)
    have eti : (toldS f P T (i + 1)).getD i [] = toldAt f P T i := by
      unfold toldS; simp [List.getD_eq_getElem?_getD]
    rw [eti] at hxtd
    -- the shift
    have hzl : (zsR f (P.getD i 0)).length = f.length := zsOut_len _ _ _
    refine TRq.ifF (b := false) (TV.to (TVq.cmp (d₁ := .list ((toldAt f P T i).map D.int)) (d₂ := .list ((toldAt f P T i).map D.int)) (by with_unfolding_all rfl) ?_ (EVq.itemO rfl rfl (by decide) (by walk_at "ev") hxtd (by simp; omega)) (CO.ne_list 0 (coks_int 0 _ _) (by have := hA.2.2; unfold cLine; omega))) (by rw [eqs_int]; rfl)) rfl ?_
    · have h1 : ((zsR f (P.getD i 0)).map D.int ++ (List.replicate (3 : Int).toNat [D.int 0]).flatten).length ≤ 100000 := by rw [List.length_append, List.length_map, hzl]; show f.length + 3 ≤ 100000; omega
      refine EV.to (EV.ofF (EF.slice (σ₁ := (k, [])) (EV.ofF (EFq.cat (σ₁ := (k, [])) (a := (zsR f (P.getD i 0)).map D.int) ?_ (EV.ofF (EFq.rep (σ₁ := (k, [])) (by walk_at "ev") EV.int (by decide) (by decide) (by simp))) (by rw [List.length_map, hzl]; show f.length + 3 ≤ 100000; omega))) (by walk_at "ev") h1)) ?_
      · walk_at "call"
        · walk_at "es"
        · exact ct_zshift Y hX (by omega) (by omega)
        · decide
      · have e : upTo ((zsR f (P.getD i 0)).map D.int ++ (List.replicate (3 : Int).toNat [D.int 0]).flatten).length ((T.getD i 0 : Nat) : Int) = T.getD i 0 := by unfold upTo; rw [if_pos (by omega), Int.toNat_natCast]
        rw [e, ← hzs, List.map_take, List.map_append]; rfl
    -- the rows
    have hn7 : T.sum ≤ 100000 := by omega
    refine TRq.forRng1 (σ₁ := (k, [])) (b := ((T.getD i 0 : Nat) : Int)) (fun o => ⟨[("places", .list (P.map D.int)), ("times", .list (T.map nD)), ("f", il f), ("due", .int (dueS P T i)), ("spot", .int i), ("place", .int (P.getD i 0))], [("told", (toldS f P T (i + 1)).map il), ("rows", (rowsS P T T.sum i ++ (List.range o).map (rowAt P T.sum i)).map il)], (k, [])⟩) (T.getD i 0) Y hA rfl rfl (fun _ => rfl) (by walk_at "sl") (by walk_at "ev") (by omega) (by omega) (by omega)
      (St.sub.mk' (.cons rfl (.cons rfl (.cons rfl (.cons rfl (.cons rfl (.cons rfl .nil)))))) (.cons rfl (.cons (by show _ = some ((rowsS P T T.sum i ++ []).map il); rw [List.append_nil]; rfl) .nil)) rfl) (fun o ho => ?_) ?_
    · have er : (rowsS P T T.sum i ++ (List.range (o + 1)).map (rowAt P T.sum i)).map il = (rowsS P T T.sum i ++ (List.range o).map (rowAt P T.sum i)).map il ++ [il (rowAt P T.sum i o)] := by
        rw [List.range_succ, List.map_append, List.map_append, List.map_append, List.map_append, List.append_assoc]; rfl
      rw [er]
      refine TR.pre (S' := ⟨[("places", .list (P.map D.int)), ("times", .list (T.map nD)), ("f", il f), ("due", .int (dueS P T i)), ("spot", .int i), ("place", .int (P.getD i 0)), ("order", .int o)], [("told", (toldS f P T (i + 1)).map il), ("rows", (rowsS P T T.sum i ++ (List.range o).map (rowAt P T.sum i)).map il)], (k, [])⟩) (by walk_at "sub") ?_
      refine TR.sub (TRq.append (σ₁ := (k, [])) (d := il (rowAt P T.sum i o)) rfl rfl rfl rfl rfl (by decide) rfl rfl ?_ (by rw [List.length_map, List.length_append, List.length_map, List.length_range]; omega) TR.nil) (by walk_at "sub")
      refine EV.to (EV.ofF (EF.comp1 [("place", .int (P.getD i 0)), ("order", .int o)] (n := T.sum) (f := fun p => .int (p : Nat)) (d := fun p => .int (laR (List.replicate p 0 ++ [1]) (P.getD i 0) o))
        (by walk_at "kf") (by decide) rfl (by decide) (by walk_at "cap") (by decide) rfl (fun _ => rfl) (fun _ => rfl) (ITq.rngN Y hA rfl rfl (EV.sumT Y hA rfl rfl hn6 rfl) (by omega)) (by omega) fun C O p hp => ?_)) ?_
      · refine EV.lawAt (f := List.replicate p 0 ++ [1]) Y hX hA (by decide) rfl rfl rfl rfl (fun x hx => ?_) (by simp; omega) hpb (by omega) ?_ rfl rfl
        · rcases List.mem_append.mp hx with hx | hx
          · rw [(List.mem_replicate.mp hx).2]; decide
          · rw [List.mem_singleton.mp hx]; decide
        · refine EV.to (EV.ofF (EFq.cat (σ₁ := (k, [])) (EV.ofF (EFq.rep (σ₁ := (k, [])) (j := (p : Int)) (by walk_at "ev") (EV.name rfl) (by omega) (by omega) (by simp))) (by walk_at "ev") (by simp; omega))) ?_
          rw [flat_one, Int.toNat_natCast]; unfold il; rw [List.map_append, List.map_replicate]; rfl
      · unfold rowAt il; rw [List.map_map]; rfl
    -- the product
    refine TR.sub (TRq.forRng1 (σ₁ := (k, [])) (b := (i : Int)) (fun j => ⟨[("places", .list (P.map D.int)), ("times", .list (T.map nD)), ("f", il f), ("due", .int (dueI P T i (dueS P T i) j)), ("spot", .int i), ("place", .int (P.getD i 0))], [("told", (toldS f P T (i + 1)).map il), ("rows", (rowsS P T T.sum (i + 1)).map il)], (k, [])⟩) i Y hA rfl rfl (fun _ => rfl) (by walk_at "sl") (by walk_at "ev") (by omega) (by omega) (by omega) (by walk_at "sub") (fun j hj => ?_) TR.nil) (by walk_at "sub")
    have hpj := H.pb j (by omega)
    have htj := H.tb j (by omega)
    have hxp := item_il (l := P) (i := (j : Int)) (by omega) (by omega)
    rw [Int.toNat_natCast] at hxp
    have hxj := item_nl (l := T) (i := j) (by omega)
    generalize hx1 : P.getD i 0 = p1 at *
    generalize hx2 : P.getD j 0 = p2 at *
    generalize ht1 : T.getD i 0 = t1 at *
    generalize ht2 : T.getD j 0 = t2 at *
    have ht12 : t1 * t2 ≤ 9 := Nat.le_trans (Nat.mul_le_mul htb htj) (by decide)
    refine TR.pre (S' := ⟨[("places", .list (P.map D.int)), ("times", .list (T.map nD)), ("f", il f), ("due", .int (dueI P T i (dueS P T i) j)), ("spot", .int i), ("place", .int p1), ("other", .int j)], [("told", (toldS f P T (i + 1)).map il), ("rows", (rowsS P T T.sum (i + 1)).map il)], (k, [])⟩) (by walk_at "sub") ?_
    refine TR.sub (TRq.set (σ₁ := (k, [])) (d := .int (dueI P T i (dueS P T i) (j + 1))) rfl (by walk_at "sl") ?_ TR.nil) (by walk_at "sub")
    have hm0 : IntMulOk (t1 : Int) (t2 : Int) := IntMulOk.of_right (bits64 (by omega))
    have ep : ((t1 : Int) * (t2 : Int)).toNat = t1 * t2 := by rw [← Int.natCast_mul, Int.toNat_natCast]
    have hm1 : IntMulOk (dueI P T i (dueS P T i) j) ((p1 - p2) ^ ((t1 : Int) * (t2 : Int)).toNat) := IntMulOk.of_right (by rw [ep]; exact pow_bits (by omega) (by omega))
    have hb : (Builtin.Int.intBits (p1 - p2) : Int) * ((t1 : Int) * (t2 : Int)) ≤ 2 ^ 27 := by
      have h1 := bits64 (i := p1 - p2) (by omega)
      have h2 : (Builtin.Int.intBits (p1 - p2) : Int) ≤ 64 := by omega
      have h3 : (t1 : Int) * (t2 : Int) ≤ 9 := by rw [← Int.natCast_mul]; omega
      have h0 : (0 : Int) ≤ (t1 : Int) * (t2 : Int) := by rw [← Int.natCast_mul]; omega
      have := Int.mul_le_mul h2 h3 h0 (by omega)
      omega
    have h0 : (0 : Int) ≤ (t1 : Int) * (t2 : Int) := by rw [← Int.natCast_mul]; omega
    refine EV.to (d := .int (dueI P T i (dueS P T i) j * (p1 - p2) ^ ((t1 : Int) * (t2 : Int)).toNat)) ?_ (by rw [ep, dueI, hx1, hx2, ht1, ht2])
    walk_at "ev"
  · -- the end
    rw [List.length_map]
    refine TR.freeze (y := "told") rfl (TR.freeze (y := "rows") rfl ?_)
    refine TR.pre (S' := ⟨[("places", .list (P.map D.int)), ("times", .list (T.map nD)), ("f", il f), ("due", .int (dueS P T P.length)), ("told", il2 (toldS f P T P.length)), ("rows", il2 (rowsS P T T.sum P.length))], [], (k, [])⟩) (by walk_at "sub") ?_
    have hdet := H.det
    have hdue := H.due
    refine TRq.ifF (b := (detS (rowsS P T T.sum P.length) T.sum).2 != dueS P T P.length) (TVq.cmp (by with_unfolding_all rfl) ?_ (EV.name rfl) CO.ne) (by rw [hdue]; simp) ?_
    · walk_at "call"
      · walk_at "es"
      · exact ct_determinant Y hX hdet
      · decide
    obtain ⟨kk, hput, hpe⟩ := H.put
    have hstl : (toldS f P T P.length).length = P.length := by simp [toldS]
    refine TR.to (d := .bool (D.eqs ((frz f).map q) ((frz f).map q) && D.eqs (f.map D.int) (f.map D.int))) (TRq.ret (EV.and2 (σ₁ := (k, [])) (EV.cmp (σ₁ := (k, [])) (d₁ := .list ((frz f).map q)) (d₂ := .list ((frz f).map q)) ?_ ?_ (CO.eq_list 2 (coks_q _ _) (by have := hA.2.2; unfold cLine; omega))) (fun _ => EV.cmp (σ₁ := (k, [])) (d₁ := .list (f.map D.int)) (d₂ := .list (f.map D.int)) ?_ (EV.name rfl) (CO.eq_list 0 (coks_int 0 _ _) (by have := hA.2.2; unfold cLine; omega))) fun _ => rfl)) (by rw [eqs_int, eqs_q]; rfl)
    · rw [← hpe]
      walk_at "call"
      · walk_at "es"
      · exact ct_law_put Y hX (by omega) htl hstl hput
      · decide
    · walk_at "call"
      · walk_at "es"
      · exact ct_from_z Y hX (by omega)
      · decide
    · have := H.ste
      generalize hff : f.map D.int = ff
      rw [← this] at hff
      rw [← hff]
      walk_at "call"
      · walk_at "es"
      · exact ct_law_steps Y hX (by omega) (fun j hj => by have := H.tb j (by omega); omega) H.sp H.stp
      · decide
set_option maxHeartbeats 4000000 in
theorem law_walk (Y : X.Good) (hX : X.prog = pw) {A : Around} {pm code doc : Value} {L a : Addr} (hA : Rm 9 A) {script : List Int} (hsc : X.scr = script.take 12) (hsl : script.length ≤ 63)
    (H : LawOk (places X.scr) (timesN X.scr) (ztr (f0 X.scr))) {c₀ c : Wd} {s₀ s : Shared} (F : FS X c₀ s₀ (fenv (recOf 41) pm code doc L a) [("script", il script)] [] c s) (hg : c.g = (0, [])) (hp : c₀.pool = none) :
    wpAny (model X.prog X.w) A (execs (recOf 41).body (fenv (recOf 41) pm code doc L a)) (fun fl s' => fl = .ret (.bool true) ∧ (∃ h' tk, s' = { s₀ with heap := h', toks := tk }) ∧ ∀ b o, X.B.get? b = some o → s'.heap.get? b = some o) (fun _ _ => False) s := by
  have hs : X.scr.length ≤ 1000 := by rw [hsc]; exact Nat.le_trans (List.length_take_le ..) (by omega)
  refine law_pool (S := ⟨[("script", il script)], [], (0, [])⟩) (x := "pool") (σ' := (2 * manyN X.scr + 1 + (timesN X.scr).sum, [])) rfl rfl (by walk_at "sl") ?_ ?_ F hg hp
  · -- [int(cell) for cell in script[:12]]
    unfold il
    have hla : (script.map D.int).length ≤ 100000 := by simp; omega
    have hlb : (X.scr.map D.int).length ≤ 100000 := by simp; omega
    have es : List.take (upTo (script.map D.int).length 12) (script.map D.int) = X.scr.map D.int := by
      rw [hsc, List.map_take]; rfl
    refine EF.list (ESq.cons rfl (σ₁ := (0, [])) (EV.to (EV.ofF (EF.comp1 [] (n := (X.scr.map D.int).length) (f := fun i => (X.scr.map D.int).getD i .none) (d := fun i => .int (X.scr.getD i 0))
      (by walk_at "kf") (by decide) rfl (by decide) (by walk_at "cap") (by decide) rfl (fun _ => rfl) (fun _ => rfl) ?_ hlb fun C O i hi => ?_)) ?_) (by walk_at "es")) (by simp)
    · refine ITq.lst hA (EV.to (d := .list (List.take (upTo (script.map D.int).length 12) (script.map D.int))) ?_ (by rw [es]))
      walk_at "ev"
    · have hi' : i < X.scr.length := by simpa using hi
      rw [getD_il hi']
      walk_at "ev"
    · rw [il_len, range_map_int X.scr (fun x => D.int x)]
  -- many, places
  refine TR.pre (S' := ⟨[("script", il script), ("pool", .pool)], [], (0, [])⟩) (by walk_at "sub") ?_
  refine TRq.tupB (σ₁ := (2, [])) (nps := [("many", _), ("places", _)]) (bs := [.g (.int (manyN X.scr)), .o ((plS X.scr 0).map D.int)]) hA rfl rfl rfl (by walk_at "sl") ?_ rfl (by simp) ?_
  · refine EBq.g rfl (σ₁ := (1, [])) (EV.nat (EVq.add (σ₁ := (0, [])) EV.int (EV.draw (m := 2) Y hX hA (by decide) hs (by decide) rfl rfl EV.int rfl rfl)) (by unfold manyN; omega)) (EBq.o rfl (σ₁ := (2, [])) ?_ EB.nil)
    refine EF.list (ESq.cons rfl (σ₁ := (2, [])) (EVq.sub (σ₁ := (2, [])) (EV.draw (k := 1) (m := 4) Y hX hA (by decide) hs (by decide) rfl rfl EV.int rfl rfl) EV.int) ES.nil) (by simp [plS])
  refine TR.pre (S' := ⟨[("script", il script), ("pool", .pool), ("many", .int (manyN X.scr))], [("places", (plS X.scr 0).map D.int)], (2, [])⟩) (by walk_at "sub") ?_
  have hm2 : 2 ≤ manyN X.scr ∧ manyN X.scr ≤ 3 := by
    have : drw X.scr 0 2 < 2 := Nat.mod_lt _ (by decide)
    unfold manyN; omega
  have hmlen : (places X.scr).length = manyN X.scr := by unfold places; rw [plS_len]; omega
  have htlen : (timesN X.scr).length = manyN X.scr := by unfold timesN; simp
  refine TRq.forRng1 (σ₁ := (2, [])) (b := (manyN X.scr : Int) - 1) (fun i => ⟨[("script", il script), ("pool", .pool), ("many", .int (manyN X.scr))], [("places", (plS X.scr i).map D.int)], (2 + i, [])⟩) (manyN X.scr - 1) Y hA rfl rfl (fun _ => rfl) (by walk_at "sl") (by walk_at "ev") (by omega) (by omega) (by omega) (by walk_at "sub") (fun i hi => ?_) ?_
  · have hne : plS X.scr i ≠ [] := by
      have := plS_len X.scr i
      intro e; rw [e] at this; simp at this
    have hx := item_lastI hne
    have hpl := plS_len X.scr i
    have hlp : ((plS X.scr i).map D.int).length ≤ 100000 := by simp; omega
    refine TR.pre (S' := ⟨[("script", il script), ("pool", .pool), ("many", .int (manyN X.scr))], [("places", (plS X.scr i).map D.int)], (2 + i, [])⟩) (by walk_at "sub") ?_
    have e : (plS X.scr (i + 1)).map D.int = (plS X.scr i).map D.int ++ [D.int (lastI (plS X.scr i) + 1 + (drw X.scr (2 + i) 2 : Int))] := by rw [plS, List.map_append]; rfl
    rw [e]
    refine TR.sub (TRq.append (σ₁ := (2 + i + 1, [])) (d := .int (lastI (plS X.scr i) + 1 + (drw X.scr (2 + i) 2 : Int))) rfl rfl rfl rfl rfl (by decide) rfl rfl ?_ hlp TR.nil) (by walk_at "sub")
    exact EVq.add (σ₁ := (2 + i, [])) (EVq.add (σ₁ := (2 + i, [])) (EVq.itemO rfl rfl (by decide) (by walk_at "ev") hx hlp) EV.int) (EV.draw (k := 2 + i) (m := 2) Y hX hA (by decide) hs (by decide) rfl rfl EV.int rfl rfl)
  refine TR.freeze (y := "places") rfl ?_
  refine TR.pre (S' := ⟨[("pool", .pool), ("many", .int (manyN X.scr)), ("places", .list ((places X.scr).map D.int))], [], (manyN X.scr + 1, [])⟩) ⟨Sub1.get (.cons rfl (.cons rfl (.cons rfl .nil))), SubO.get .nil, by show (2 + (manyN X.scr - 1), []) = _; congr 1; omega⟩ ?_
  -- times
  have hlp : ((places X.scr).map D.int).length ≤ 100000 := by simp; omega
  refine TR.cons (TS.setUsed (x := "place") (y := "times") (n := ((places X.scr).map D.int).length) (f := fun i => ((places X.scr).map D.int).getD i .none) (d := fun i => nD (1 + drw X.scr (manyN X.scr + 1 + i) (5 - manyN X.scr))) (σs := fun i => (manyN X.scr + 1 + i, [])) (G' := [("pool", .pool), ("many", .int (manyN X.scr))])
    rfl (by walk_at "sl") (by walk_at "kf") (by decide) rfl (by decide) (by walk_at "cap") (by decide) rfl (fun _ => rfl) (fun _ => rfl) (by walk_at "lst") hlp (fun C O i hi => ?_)) ?_
  · refine EV.nat (EVq.add (σ₁ := (manyN X.scr + 1 + i, [])) EV.int (EV.draw (k := manyN X.scr + 1 + i) (m := 5 - manyN X.scr) Y hX hA (by decide) hs (by omega) rfl rfl (EV.nat (i := 5 - (manyN X.scr : Int)) (by walk_at "ev") (by omega)) rfl rfl)) (by omega)
  refine TR.freeze (y := "times") rfl ?_
  have et : (List.range ((places X.scr).map D.int).length).map (fun i => nD (1 + drw X.scr (manyN X.scr + 1 + i) (5 - manyN X.scr))) = (timesN X.scr).map nD := by
    rw [List.length_map, hmlen]; unfold timesN; rw [List.map_map]; rfl
  rw [et]
  refine TR.pre (S' := ⟨[("pool", .pool), ("places", .list ((places X.scr).map D.int)), ("times", .list ((timesN X.scr).map nD))], [], (2 * manyN X.scr + 1, [])⟩) ⟨Sub1.get (.cons rfl (.cons rfl (.cons rfl .nil))), SubO.get .nil, by show (manyN X.scr + 1 + ((places X.scr).map D.int).length, []) = _; rw [List.length_map, hmlen]; congr 1; omega⟩ ?_
  have hn6 := H.n
  -- f
  refine TRq.set (σ₁ := (2 * manyN X.scr + 1 + (timesN X.scr).sum, [])) (d := il (ztr (f0 X.scr))) rfl (by walk_at "sl") ?_ ?_
  · walk_at "call"
    · refine ESq.cons (d := il (f0 X.scr)) rfl (σ₁ := (2 * manyN X.scr + 1 + (timesN X.scr).sum, [])) (EV.to (EV.ofF (EF.compS [("pool", .pool)] (n := (timesN X.scr).sum) (f := fun i => .int (i : Nat)) (d := fun i => .int ((drw X.scr (2 * manyN X.scr + 1 + i) 7 : Int) - 3)) (fun i => (2 * manyN X.scr + 1 + i, []))
        (by walk_at "kf") (by decide) rfl (by decide) (by walk_at "cap") (by decide) rfl (fun _ => rfl) (fun _ => rfl) ?_ (by omega) fun C O i hi => ?_)) ?_) ES.nil
      · exact ITq.rngN Y hA rfl rfl (EV.sumT Y hA rfl rfl hn6 rfl) (by omega)
      · exact EVq.sub (σ₁ := (2 * manyN X.scr + 1 + i + 1, [])) (EV.draw (k := 2 * manyN X.scr + 1 + i) (m := 7) Y hX hA (by decide) hs (by decide) rfl rfl EV.int rfl rfl) EV.int
      · unfold il f0; rw [List.map_map]; rfl
    · exact ct_ztrim Y hX (by unfold f0; simp; omega)
    · decide
  refine TR.pre (S' := ⟨[("places", .list ((places X.scr).map D.int)), ("times", .list ((timesN X.scr).map nD)), ("f", il (ztr (f0 X.scr)))], [], (2 * manyN X.scr + 1 + (timesN X.scr).sum, [])⟩) (by walk_at "sub") ?_
  exact law_rest Y hX hA H

/-! text Pl1 -/
noncomputable def szB (x : Rat) : Bool := Nat.blt x.num.natAbs (2 ^ 4000) && Nat.blt x.den (2 ^ 4000)
noncomputable def szL (l : List Rat) : Bool := l.all szB
noncomputable def qmOkB (a b : List Rat) : Bool := szL a && szL b && (List.range a.length).all fun i => (List.range b.length).all fun j => szB ((qmRow b (a.getD i 0) i j (qmAll a b i)).getD (i + j) 0) && szB (a.getD i 0 * b.getD j 0)
noncomputable def ne0 (x : Rat) : Bool := !(x.num == 0)
noncomputable def qdOkB (a b : List Rat) (k : Nat) : Bool := !b.isEmpty && ne0 (lst b) && szL b && Nat.blt (qdS a b k).1.length b.length &&
  (List.range k).all fun i => Nat.ble b.length (qdS a b i).1.length && Nat.ble (qdS a b i).1.length a.length && szL (qdS a b i).1 && szB (qdN b (qdS a b i).1) && szL (qscR (bel b) (qdN b (qdS a b i).1))
/-- how many steps -/
noncomputable def qdk (a b : List Rat) : Nat := ((List.range (a.length + 2)).find? fun i => Nat.blt (qdS a b i).1.length b.length).getD 0
noncomputable def exStepOkB (s : Tri × Tri) : Bool := !s.2.1.isEmpty && Nat.ble (qdk s.1.1 s.2.1) (s.1.1.length + 1) && qdOkB s.1.1 s.2.1 (qdk s.1.1 s.2.1) &&
  qmOkB (qdm s.1.1 s.2.1).1 s.2.2.1 && qmOkB (qdm s.1.1 s.2.1).1 s.2.2.2 && szL s.1.2.1 && szL (qmR (qdm s.1.1 s.2.1).1 s.2.2.1) && szL s.1.2.2 && szL (qmR (qdm s.1.1 s.2.1).1 s.2.2.2) &&
  Nat.ble s.1.1.length 100 && Nat.ble s.1.2.1.length 100 && Nat.ble s.1.2.2.length 100 && Nat.ble s.2.1.length 100 && Nat.ble s.2.2.1.length 100 && Nat.ble s.2.2.2.length 100
noncomputable def exOkB (a b : List Rat) (k : Nat) : Bool := (exS a b k).2.1.isEmpty && !(exS a b k).1.1.isEmpty && ne0 (lst (exS a b k).1.1) && szB (lst (exS a b k).1.1) && szB (lst (exS a b k).1.1)⁻¹ && szL (exS a b k).1.1 && szL (exS a b k).1.2.1 && szL (exS a b k).1.2.2 &&
  Nat.ble (exS a b k).1.1.length 1000 && Nat.ble (exS a b k).1.2.1.length 1000 && Nat.ble (exS a b k).1.2.2.length 1000 && (List.range k).all fun i => exStepOkB (exS a b i)
noncomputable def exk (a b : List Rat) : Nat := ((List.range 10).find? fun i => (exS a b i).2.1.isEmpty).getD 0

theorem szB_ok {x : Rat} (h : szB x = true) : Sz x := by
  unfold szB at h; simp only [Bool.and_eq_true] at h
  have h1 := h.1; have h2 := h.2
  rw [Nat.blt_eq] at h1 h2
  exact ⟨h1, h2⟩
theorem szL_ok {l : List Rat} (h : szL l = true) : ∀ x ∈ l, Sz x := fun x hx => szB_ok (List.all_eq_true.mp h x hx)
theorem qmOkB_ok {a b : List Rat} (h : qmOkB a b = true) : QmOk a b := by
  unfold qmOkB at h
  simp only [Bool.and_eq_true, List.all_eq_true, List.mem_range] at h
  exact ⟨fun x hx => szB_ok (List.all_eq_true.mp h.1.1 x hx), fun x hx => szB_ok (List.all_eq_true.mp h.1.2 x hx), fun i hi j hj => ⟨szB_ok (h.2 i hi j hj).1, szB_ok (h.2 i hi j hj).2⟩⟩
theorem ne0_ok {x : Rat} (h : ne0 x = true) : x ≠ 0 := by rintro rfl; simp [ne0] at h
theorem isE {α : Type} {l : List α} (h : (!l.isEmpty) = true) : l ≠ [] := by rintro rfl; simp at h
theorem qdOkB_ok {a b : List Rat} {k : Nat} (h : qdOkB a b k = true) : QdOk a b k := by
  unfold qdOkB at h
  simp only [Bool.and_eq_true, Nat.ble_eq, Nat.blt_eq] at h
  obtain ⟨⟨⟨⟨h1, h2⟩, h3⟩, h4⟩, h5⟩ := h
  refine ⟨isE h1, ne0_ok h2, szL_ok h3, fun i hi => ?_, h4⟩
  have := List.all_eq_true.mp h5 i (List.mem_range.mpr hi)
  simp only [Bool.and_eq_true, Nat.ble_eq] at this
  obtain ⟨⟨⟨⟨t1, t2⟩, t3⟩, t4⟩, t5⟩ := this
  exact ⟨t1, t2, szL_ok t3, szB_ok t4, szL_ok t5⟩
theorem exStepOkB_ok {s : Tri × Tri} (h : exStepOkB s = true) : ExStepOk s := by
  unfold exStepOkB at h
  simp only [Bool.and_eq_true, Nat.ble_eq] at h
  obtain ⟨⟨⟨⟨⟨⟨⟨⟨⟨⟨⟨⟨⟨⟨h1, h2⟩, h3⟩, h4⟩, h5⟩, h6⟩, h7⟩, h8⟩, h9⟩, l1⟩, l2⟩, l3⟩, l4⟩, l5⟩, l6⟩ := h
  exact ⟨isE h1, ⟨_, h2, qdOkB_ok h3⟩, qmOkB_ok h4, qmOkB_ok h5, ⟨szL_ok h6, szL_ok h7⟩, ⟨szL_ok h8, szL_ok h9⟩, l1, l2, l3, l4, l5, l6⟩
theorem exOkB_ok {a b : List Rat} {k : Nat} (h : exOkB a b k = true) : ExOk a b k := by
  unfold exOkB at h
  simp only [Bool.and_eq_true, Nat.ble_eq] at h
  obtain ⟨⟨⟨⟨⟨⟨⟨⟨⟨⟨⟨h1, h2⟩, h3⟩, h4⟩, h5⟩, h6⟩, h7⟩, h8⟩, l1⟩, l2⟩, l3⟩, h9⟩ := h
  exact ⟨fun i hi => exStepOkB_ok (List.all_eq_true.mp h9 i (List.mem_range.mpr hi)), List.isEmpty_iff.mp h1, isE h2, ne0_ok h3, ⟨szB_ok h4, szB_ok h5⟩, ⟨szL_ok h6, szL_ok h7, szL_ok h8⟩, l1, l2, l3⟩

/-! text Jn1 -/
theorem law_code (Y : X.Good) (hX : X.prog = pw) {A : Around} {c : Wd} {s : Shared} (hA : Rm 10 A) (K : Ok X c s) (hg : c.g = (0, [])) (hp : c.pool = none) {a : Addr} (ha : X.mg "law" = some (.ref a)) {v : Value} {script : List Int} (hv : Rep c v (il script))
    (hsc : X.scr = script.take 12) (hsl : script.length ≤ 63) (H : LawOk (places X.scr) (timesN X.scr) (ztr (f0 X.scr))) :
    codeAny (model X.prog X.w) A (.call (.ref a) ⟨[v], []⟩) (fun r s' => r = .ok (.ret (.bool true)) ∧ (∃ h' tk, s' = { s with heap := h', toks := tk }) ∧ ∀ b o, X.B.get? b = some o → s'.heap.get? b = some o) s := by
  obtain ⟨a', o, pm, code, doc, h1, h2, h3, h4⟩ := Y.fn (recOf 41) (hX ▸ mem_law)
  rw [show (recOf 41).name = ("law" : Str) from rfl, ha] at h1
  cases h1
  refine codeAny_call_cells (fd := Calls.docDef (recOf 41).name (recOf 41).params (recOf 41).body (recOf 41).scope pm code doc) (binds := [("script", v)]) (by have := hA.2.1; unfold recursionLimit; omega) (K.base _ _ h2) h3 (Y.nolimit.keeps K.base) (h4.keeps K.base) rfl
    rfl rfl (fun x hx => ?_) (fun s₁ I => ?_) rfl rfl rfl
  · rw [List.mem_singleton.mp hx]; exact .inl rfl
  · obtain ⟨h', tk, e, hkeep⟩ := I.done
    have E := Ext.same K (s' := s₁) ⟨h', tk, e, fun b o e' => hkeep b o e'⟩
    have F : FS X c s (fenv (recOf 41) pm code doc s.heap.objs.size a) [("script", il script)] [] c s₁ := by
      refine ⟨E, rfl, rfl, rfl, K.base, get_size_none _, fun x ca hx => ⟨fun _ => ?_, _, I.cell x ca hx⟩, fun x y ca hx hy => name_of_addr I.apart (mem_of_lookup hx) (mem_of_lookup hy), _, fun _ => 0, I.toInCall.ns, fun x e hx => ?_, fun y es hy => by simp at hy, fun y es y' es' hy => by simp at hy⟩
      · exact Heap.get?_none_of_le (Nat.le_of_lt (I.above x ca (mem_of_lookup hx)))
      · rw [List.lookup_cons, beq_str] at hx
        by_cases q : x = "script"
        · simp [q] at hx; subst hx; subst q
          exact ⟨v, .inl ⟨rfl, rfl⟩, hv⟩
        · simp [q] at hx
    refine wpAny_mono (law_walk Y hX (A := A.deeper (fenv (recOf 41) pm code doc s.heap.objs.size a)) ⟨hA.1, by have := hA.2.1; show A.depth + 1 + 9 ≤ 900; omega, by have := hA.2.2; show A.units + 3 + 10 * 9 + 100 ≤ 9000; omega⟩ hsc hsl H F hg hp) (fun fl s' p => ?_) fun _ _ x => x.elim
    obtain ⟨rfl, p2, p3⟩ := p
    exact ⟨rfl, p2, p3⟩

/-! text Jn2 -/
noncomputable def isSeq (o : Obj) : Bool := match o.data with | .seq _ _ => true | _ => false
noncomputable def baseC (h : Heap) (b : Addr) : Option Obj := match h.get? b with | some o => if isSeq o then some o else none | none => none
theorem baseC_get {h : Heap} {b : Addr} {o : Obj} (e : baseC h b = some o) : h.get? b = some o ∧ ∃ xs n, o.data = .seq xs n := by
  unfold baseC at e
  split at e
  · rename_i o' q
    split at e
    · rename_i hs
      cases e
      refine ⟨q, ?_⟩
      unfold isSeq at hs
      split at hs
      · exact ⟨_, _, by assumption⟩
      · cases hs
    · cases e
  · cases e
theorem baseC_of {h : Heap} {b : Addr} {o : Obj} (e : h.get? b = some o) (hs : isSeq o = true) : baseC h b = some o := by
  unfold baseC; rw [e]; simp [hs]
theorem Reps.ofInts {c : Wd} {vs : List Value} {is : List Int} (h : IntsAre vs is) : Reps c vs (is.map D.int) := by
  induction h with
  | nil => exact .nil
  | cons n t r ih => exact .cons (.int n t) ih
noncomputable def freeOk (p : Program) (loose : List Str) : Bool := (["len", "abs", "max", "range", "enumerate", "sum", "list", "int"] : List Str).all fun x => !startupNames.contains x && !loose.contains x && !((recsOf p).map (·.name)).contains x && !((litsOf p).map (·.1)).contains x && !((clssOf p loose).map (·.name)).contains x
theorem join {p : Program} {loose : List Str} {mean : ExcName → Option Value} {mg mb : Str → Option Value} {w : World} {s₁ : Shared} {fa l a0 a1 : Addr} {vs : List Value} {is : List Int} {t0 t1 t2 t3 : Tok} (T : Top p loose mean mg mb s₁.heap) (hrec : recsOf p = recsOf pw) (hfree : freeOk p loose = true)
    (h0 : mg "R0" = some (.ref a0)) (g0 : s₁.heap.get? a0 = some (tupO #[.int 0 t0, .int 1 t1] 0)) (h1 : mg "R1" = some (.ref a1)) (g1 : s₁.heap.get? a1 = some (tupO #[.int 1 t2, .int 1 t3] 0))
    (ha : mg "law" = some (.ref fa)) (hl : s₁.heap.get? l = some (listO vs.toArray 0)) (hi : IntsAre vs is) (hn : is.length ≤ 63) (H : LawOk (places (is.take 12)) (timesN (is.take 12)) (ztr (f0 (is.take 12)))) :
    codeAny (model pw w) callerA (.call (.ref fa) ⟨[.ref l], []⟩) (fun r s' => r = .ok (.ret (.bool true)) ∧ (∃ h' tk, s' = { s₁ with heap := h', toks := tk }) ∧ ∀ b o, s₁.heap.get? b = some o → s'.heap.get? b = some o) s₁ := by
  let X : Sys := ⟨pw, w, s₁.heap, mg, mb, baseC s₁.heap, is.take 12⟩
  have Y : X.Good := by
    refine ⟨T.g, T.b, T.nolimit, T.builtins, fun d hd => T.fn d (by rw [hrec]; exact hd), fun x hx => ?_, ⟨_, h0, fun c hc => ?_⟩, ⟨_, h1, fun c hc => ?_⟩⟩
    · have := List.all_eq_true.mp hfree x hx
      simp only [Bool.and_eq_true, Bool.not_eq_true'] at this
      obtain ⟨⟨⟨⟨q1, q2⟩, q3⟩, q4⟩, q5⟩ := this
      have nc : ∀ {l : List Str}, l.contains x = false → x ∉ l := fun e m => by rw [List.contains_iff_mem.mpr m] at e; cases e
      exact T.free x (nc q1) (nc q2) (nc q3) (nc q4) (nc q5)
    · exact .tup (vs := [.int 0 t0, .int 1 t1]) (n := 0) (hc _ _ (baseC_of g0 rfl)) (.cons (.int 0 t0) (.cons (.int 1 t1) .nil))
    · exact .tup (vs := [.int 1 t2, .int 1 t3]) (n := 0) (hc _ _ (baseC_of g1 rfl)) (.cons (.int 1 t2) (.cons (.int 1 t3) .nil))
  let c : Wd := ⟨baseC s₁.heap, (0, []), none, none⟩
  have nh : ∀ b, ¬ c.hole b := fun b hb => by
    rcases hb with ⟨v, e⟩ | ⟨rs, e⟩ | ⟨a, rs, e, _⟩ <;> cases e
  have K : Ok X c s₁ := ⟨fun _ _ e => e, fun _ _ e => e, fun b o e => baseC_get e, fun a v e => (nomatch e), fun a rs e => (nomatch e), fun a v m rs e => (nomatch e), fun b hb => (nh b hb).elim, fun _ => rfl⟩
  exact law_code (X := X) Y rfl (by refine ⟨rfl, ?_, ?_⟩ <;> decide) K rfl rfl ha (script := is) (Rep.list (c := c) (n := 0) (baseC_of hl rfl) (Reps.ofInts hi)) rfl hn H
end

/-! text Pa1 -/
section
/-! sums, linear maps -/
noncomputable def sumI : Nat → (Nat → Int) → Int
  | 0, _ => 0
  | n + 1, g => sumI n g + g n
noncomputable def sumQ : Nat → (Nat → Rat) → Rat
  | 0, _ => 0
  | n + 1, g => sumQ n g + g n
theorem sumI_congr : ∀ {n : Nat} {g h : Nat → Int}, (∀ i, i < n → g i = h i) → sumI n g = sumI n h
  | 0, _, _, _ => rfl
  | n + 1, g, h, e => by rw [sumI, sumI, sumI_congr fun i hi => e i (by omega), e n (by omega)]
theorem sumQ_congr : ∀ {n : Nat} {g h : Nat → Rat}, (∀ i, i < n → g i = h i) → sumQ n g = sumQ n h
  | 0, _, _, _ => rfl
  | n + 1, g, h, e => by rw [sumQ, sumQ, sumQ_congr fun i hi => e i (by omega), e n (by omega)]
theorem sumI_zero : ∀ n, sumI n (fun _ => 0) = 0
  | 0 => rfl
  | n + 1 => by rw [sumI, sumI_zero n]; rfl
theorem sumQ_zero : ∀ n, sumQ n (fun _ => 0) = 0
  | 0 => rfl
  | n + 1 => by rw [sumQ, sumQ_zero n]; exact Rat.add_zero _
theorem sumI_add : ∀ n g h, sumI n (fun i => g i + h i) = sumI n g + sumI n h
  | 0, _, _ => rfl
  | n + 1, g, h => by simp only [sumI, sumI_add n g h]; omega
theorem sumQ_add : ∀ n g h, sumQ n (fun i => g i + h i) = sumQ n g + sumQ n h
  | 0, _, _ => (Rat.add_zero 0).symm
  | n + 1, g, h => by simp only [sumQ, sumQ_add n g h]; grind
theorem sumI_mul (a : Int) : ∀ n g, sumI n (fun i => a * g i) = a * sumI n g
  | 0, _ => by simp [sumI]
  | n + 1, g => by simp only [sumI, sumI_mul a n g]; grind
theorem sumQ_mul (a : Rat) : ∀ n g, sumQ n (fun i => a * g i) = a * sumQ n g
  | 0, _ => by simp [sumQ]
  | n + 1, g => by simp only [sumQ, sumQ_mul a n g]; grind
theorem sumI_cast : ∀ n g, ((sumI n g : Int) : Rat) = sumQ n (fun i => ((g i : Int) : Rat))
  | 0, _ => rfl
  | n + 1, g => by simp only [sumI, sumQ, ← sumI_cast n g]; exact Rat.intCast_add _ _
theorem sumI_ext {g : Nat → Int} {m : Nat} : ∀ {n : Nat}, m ≤ n → (∀ i, m ≤ i → i < n → g i = 0) → sumI n g = sumI m g
  | 0, h, _ => by have : m = 0 := by omega
                  rw [this]
  | n + 1, h, e => by
    by_cases q : m = n + 1
    · rw [q]
    · rw [sumI, sumI_ext (m := m) (by omega) (fun i h1 h2 => e i h1 (by omega)), e n (by omega) (by omega)]; omega
theorem sumQ_ext {g : Nat → Rat} {m : Nat} : ∀ {n : Nat}, m ≤ n → (∀ i, m ≤ i → i < n → g i = 0) → sumQ n g = sumQ m g
  | 0, h, _ => by have : m = 0 := by omega
                  rw [this]
  | n + 1, h, e => by
    by_cases q : m = n + 1
    · rw [q]
    · rw [sumQ, sumQ_ext (m := m) (by omega) (fun i h1 h2 => e i h1 (by omega)), e n (by omega) (by omega)]; grind
theorem sumI_one {v : Int} {j : Nat} : ∀ {n : Nat}, j < n → sumI n (fun i => if i = j then v else 0) = v
  | 0, h => by omega
  | n + 1, h => by
    by_cases q : j = n
    · subst q
      rw [sumI, sumI_congr (h := fun _ => 0) (fun i hi => if_neg (by omega)), sumI_zero, if_pos rfl]; omega
    · rw [sumI, sumI_one (j := j) (by omega), if_neg (by omega)]; omega
theorem sumQ_one {v : Rat} {j : Nat} : ∀ {n : Nat}, j < n → sumQ n (fun i => if i = j then v else 0) = v
  | 0, h => by omega
  | n + 1, h => by
    by_cases q : j = n
    · subst q
      rw [sumQ, sumQ_congr (h := fun _ => 0) (fun i hi => if_neg (by omega)), sumQ_zero, if_pos rfl]; grind
    · rw [sumQ, sumQ_one (j := j) (by omega), if_neg (by omega)]; grind

/-- a basis -/
noncomputable def bas (n j : Nat) : List Int := (List.replicate n 0).set j 1
theorem bas_len (n j : Nat) : (bas n j).length = n := by simp [bas]
theorem bas_get {n j i : Nat} (hj : j < n) : (bas n j).getD i 0 = if i = j then 1 else 0 := by
  unfold bas
  rw [List.getD_eq_getElem?_getD, List.getElem?_set]
  by_cases q : j = i
  · subst q; simp [hj]
  · rw [if_neg q, if_neg (Ne.symm q)]
    by_cases h : i < n
    · simp [h]
    · simp [Nat.le_of_not_lt h]
noncomputable def LinI (n : Nat) (F : List Int → Int) : Prop := ∃ w : Nat → Int, ∀ c : List Int, c.length = n → F c = sumI n fun j => w j * c.getD j 0
noncomputable def LinQ (n : Nat) (F : List Int → Rat) : Prop := ∃ w : Nat → Rat, ∀ c : List Int, c.length = n → F c = sumQ n fun j => w j * ((c.getD j 0 : Int) : Rat)
theorem LinI.at {n : Nat} {F : List Int → Int} (h : LinI n F) : ∀ c : List Int, c.length = n → F c = sumI n fun j => F (bas n j) * c.getD j 0 := by
  obtain ⟨w, hw⟩ := h
  intro c hc
  rw [hw c hc]
  refine sumI_congr fun j hj => ?_
  rw [hw _ (bas_len n j), sumI_congr (h := fun i => if i = j then w j else 0) (fun i hi => by
    rw [bas_get hj]; split
    · rename_i e; rw [e]; omega
    · omega), sumI_one hj]
theorem LinQ.at {n : Nat} {F : List Int → Rat} (h : LinQ n F) : ∀ c : List Int, c.length = n → F c = sumQ n fun j => F (bas n j) * ((c.getD j 0 : Int) : Rat) := by
  obtain ⟨w, hw⟩ := h
  intro c hc
  rw [hw c hc]
  refine sumQ_congr fun j hj => ?_
  rw [hw _ (bas_len n j), sumQ_congr (h := fun i => if i = j then w j else 0) (fun i hi => by
    rw [bas_get hj]; split
    · rename_i e; rw [e]; exact Rat.mul_one _
    · exact Rat.mul_zero _), sumQ_one hj]
theorem LinI.eq {n : Nat} {F G : List Int → Int} (h : LinI n F) (k : LinI n G) (e : ∀ j, j < n → F (bas n j) = G (bas n j)) : ∀ c : List Int, c.length = n → F c = G c := fun c hc => by
  rw [h.at c hc, k.at c hc]; exact sumI_congr fun j hj => by rw [e j hj]
theorem LinQ.eq {n : Nat} {F G : List Int → Rat} (h : LinQ n F) (k : LinQ n G) (e : ∀ j, j < n → F (bas n j) = G (bas n j)) : ∀ c : List Int, c.length = n → F c = G c := fun c hc => by
  rw [h.at c hc, k.at c hc]; exact sumQ_congr fun j hj => by rw [e j hj]
theorem LinI.congr {n : Nat} {F G : List Int → Int} (h : LinI n F) (e : ∀ c : List Int, c.length = n → G c = F c) : LinI n G := by
  obtain ⟨w, hw⟩ := h; exact ⟨w, fun c hc => by rw [e c hc, hw c hc]⟩
theorem LinQ.congr {n : Nat} {F G : List Int → Rat} (h : LinQ n F) (e : ∀ c : List Int, c.length = n → G c = F c) : LinQ n G := by
  obtain ⟨w, hw⟩ := h; exact ⟨w, fun c hc => by rw [e c hc, hw c hc]⟩
theorem LinI.zero {n : Nat} : LinI n fun _ => 0 := ⟨fun _ => 0, fun c _ => by rw [sumI_congr (h := fun _ => 0) (fun i _ => Int.zero_mul _), sumI_zero]⟩
theorem LinQ.zero {n : Nat} : LinQ n fun _ => 0 := ⟨fun _ => 0, fun c _ => by rw [sumQ_congr (h := fun _ => 0) (fun i _ => Rat.zero_mul _), sumQ_zero]⟩
theorem LinI.add {n : Nat} {F G : List Int → Int} (h : LinI n F) (k : LinI n G) : LinI n fun c => F c + G c := by
  obtain ⟨w, hw⟩ := h; obtain ⟨u, hu⟩ := k
  exact ⟨fun j => w j + u j, fun c hc => by dsimp only; rw [hw c hc, hu c hc, ← sumI_add]; exact sumI_congr fun i _ => by grind⟩
theorem LinQ.add {n : Nat} {F G : List Int → Rat} (h : LinQ n F) (k : LinQ n G) : LinQ n fun c => F c + G c := by
  obtain ⟨w, hw⟩ := h; obtain ⟨u, hu⟩ := k
  exact ⟨fun j => w j + u j, fun c hc => by dsimp only; rw [hw c hc, hu c hc, ← sumQ_add]; exact sumQ_congr fun i _ => by grind⟩
theorem LinI.mul {n : Nat} {F : List Int → Int} (a : Int) (h : LinI n F) : LinI n fun c => a * F c := by
  obtain ⟨w, hw⟩ := h
  exact ⟨fun j => a * w j, fun c hc => by dsimp only; rw [hw c hc, ← sumI_mul]; exact sumI_congr fun i _ => by grind⟩
theorem LinQ.mul {n : Nat} {F : List Int → Rat} (a : Rat) (h : LinQ n F) : LinQ n fun c => a * F c := by
  obtain ⟨w, hw⟩ := h
  exact ⟨fun j => a * w j, fun c hc => by dsimp only; rw [hw c hc, ← sumQ_mul]; exact sumQ_congr fun i _ => by grind⟩
theorem LinI.sub {n : Nat} {F G : List Int → Int} (h : LinI n F) (k : LinI n G) : LinI n fun c => F c - G c := (h.add (k.mul (-1))).congr fun c _ => by grind
theorem LinQ.sub {n : Nat} {F G : List Int → Rat} (h : LinQ n F) (k : LinQ n G) : LinQ n fun c => F c - G c := (h.add (k.mul (-1))).congr fun c _ => by grind
theorem LinI.get {n i : Nat} : LinI n fun c => c.getD i 0 := by
  by_cases hi : i < n
  · refine ⟨fun j => if j = i then 1 else 0, fun c hc => ?_⟩
    rw [sumI_congr (h := fun j => if j = i then c.getD i 0 else 0) (fun j _ => by
      dsimp only
      split
      · rename_i e; rw [e]; exact Int.one_mul _
      · exact Int.zero_mul _), sumI_one hi]
  · exact LinI.zero.congr fun c hc => by rw [List.getD_eq_getElem?_getD, List.getElem?_eq_none (by omega)]; rfl
theorem LinI.cast {n : Nat} {F : List Int → Int} (h : LinI n F) : LinQ n fun c => ((F c : Int) : Rat) := by
  obtain ⟨w, hw⟩ := h
  exact ⟨fun j => ((w j : Int) : Rat), fun c hc => by dsimp only; rw [hw c hc, sumI_cast]; exact sumQ_congr fun i _ => Rat.intCast_mul _ _⟩
theorem LinI.sum {n : Nat} {F : Nat → List Int → Int} : ∀ {m : Nat}, (∀ i, i < m → LinI n (F i)) → LinI n fun c => sumI m fun i => F i c
  | 0, _ => .zero
  | m + 1, h => (LinI.sum fun i hi => h i (by omega)).add (h m (by omega))
theorem LinQ.sum {n : Nat} {F : Nat → List Int → Rat} : ∀ {m : Nat}, (∀ i, i < m → LinQ n (F i)) → LinQ n fun c => sumQ m fun i => F i c
  | 0, _ => .zero
  | m + 1, h => (LinQ.sum fun i hi => h i (by omega)).add (h m (by omega))
theorem LinI.ite {n : Nat} {p : Prop} [Decidable p] {F G : List Int → Int} (h : p → LinI n F) (k : ¬ p → LinI n G) : LinI n fun c => if p then F c else G c := by
  by_cases q : p
  · exact (h q).congr fun c _ => if_pos q
  · exact (k q).congr fun c _ => if_neg q
theorem LinQ.ite {n : Nat} {p : Prop} [Decidable p] {F G : List Int → Rat} (h : p → LinQ n F) (k : ¬ p → LinQ n G) : LinQ n fun c => if p then F c else G c := by
  by_cases q : p
  · exact (h q).congr fun c _ => if_pos q
  · exact (k q).congr fun c _ => if_neg q
/-- exact division -/
theorem sumI_div {d : Int} (hd : d ≠ 0) : ∀ {n : Nat} {g : Nat → Int}, (∀ i, i < n → d ∣ g i) → (sumI n g).fdiv d = sumI n fun i => (g i).fdiv d
  | 0, _, _ => by simp [sumI]
  | n + 1, g, h => by
    have e1 : sumI n g = d * sumI n fun i => (g i).fdiv d := by
      rw [← sumI_mul]
      exact sumI_congr fun i hi => by rw [Int.mul_fdiv_cancel' (h i (by omega))]
    have e2 : g n = d * (g n).fdiv d := by rw [Int.mul_fdiv_cancel' (h n (by omega))]
    have e3 : (sumI n g).fdiv d = sumI n fun i => (g i).fdiv d := sumI_div hd fun i hi => h i (by omega)
    have e4 : (sumI n fun i => (g i).fdiv d) + (g n).fdiv d = (sumI (n + 1) fun i => (g i).fdiv d) := rfl
    rw [← e4, sumI]
    have : sumI n g + g n = d * ((sumI n fun i => (g i).fdiv d) + (g n).fdiv d) := by rw [Int.mul_add, ← e1, ← e2]
    rw [this, Int.mul_fdiv_cancel_left _ hd]
theorem LinI.div {n : Nat} {F : List Int → Int} {d : Int} (hd : d ≠ 0) (h : LinI n F) (e : ∀ j, j < n → d ∣ F (bas n j)) : LinI n fun c => (F c).fdiv d :=
  ⟨fun j => (F (bas n j)).fdiv d, fun c hc => by
    dsimp only
    rw [h.at c hc, sumI_div hd fun i hi => Int.dvd_trans (e i hi) (Int.dvd_mul_right _ _)]
    refine sumI_congr fun i hi => ?_
    obtain ⟨k, hk⟩ := e i hi
    rw [hk, Int.mul_assoc, Int.mul_fdiv_cancel_left _ hd, Int.mul_fdiv_cancel_left _ hd]⟩
/-- how big -/
theorem sumI_abs {B : Nat} : ∀ {n : Nat} {g : Nat → Int}, (∀ i, i < n → (g i).natAbs ≤ B) → (sumI n g).natAbs ≤ n * B
  | 0, _, _ => by simp [sumI]
  | n + 1, g, h => by
    have h1 := sumI_abs (n := n) fun i hi => h i (by omega)
    have h2 := h n (by omega)
    rw [sumI, Nat.add_mul]; omega
end

/-! text Pa2 -/
section
/-! coefficients -/
theorem getD_take {α : Type} {l : List α} {n i : Nat} {d : α} : (l.take n).getD i d = if i < n then l.getD i d else d := by
  rw [List.getD_eq_getElem?_getD, List.getElem?_take]
  split
  · rw [List.getD_eq_getElem?_getD]
  · rfl
theorem getD_out {α : Type} {l : List α} {i : Nat} {d : α} (h : l.length ≤ i) : l.getD i d = d := by
  rw [List.getD_eq_getElem?_getD, List.getElem?_eq_none h]; rfl
theorem getD_range {α : Type} {g : Nat → α} {n i : Nat} {d : α} : ((List.range n).map g).getD i d = if i < n then g i else d := by
  rw [List.getD_eq_getElem?_getD, List.getElem?_map]
  by_cases h : i < n
  · rw [List.getElem?_range h, if_pos h]; rfl
  · rw [List.getElem?_eq_none (by simpa using h), if_neg h]; rfl
theorem ztr_co (l : List Int) (i : Nat) : (ztr l).getD i 0 = l.getD i 0 := by
  unfold ztr
  rw [getD_take]
  split
  · rfl
  · rename_i h
    by_cases hi : i < l.length
    · have := tlen_zero (fun i => l.getD i 0 != 0) l.length i (by unfold ztl at h; omega) hi
      have h0 : l.getD i 0 = 0 := by simpa using this
      exact h0.symm
    · rw [getD_out (by omega)]
theorem qtr_co (l : List Rat) (i : Nat) : (qtr l).getD i 0 = l.getD i 0 := by
  unfold qtr
  rw [getD_take]
  split
  · rfl
  · rename_i h
    by_cases hi : i < l.length
    · have := tlen_zero (fun i => (l.getD i 0).num != 0) l.length i (by unfold qtl at h; omega) hi
      have h0 : (l.getD i 0).num = 0 := by simpa using this
      exact (Rat.num_eq_zero.mp h0).symm
    · rw [getD_out (by omega)]
theorem ztr_len (l : List Int) : (ztr l).length ≤ l.length := by unfold ztr; rw [List.length_take]; omega
theorem zadR_co (a b : List Int) (i : Nat) : (zadR a b).getD i 0 = a.getD i 0 + b.getD i 0 := by
  unfold zadR
  rw [ztr_co, getD_range]
  split
  · rfl
  · rw [getD_out (l := a) (by omega), getD_out (l := b) (by omega)]; rfl
theorem qadR_co (a b : List Rat) (i : Nat) : (qadR a b).getD i 0 = a.getD i 0 + b.getD i 0 := by
  unfold qadR
  rw [qtr_co, getD_range]
  split
  · rfl
  · rw [getD_out (l := a) (by omega), getD_out (l := b) (by omega)]; exact (Rat.add_zero 0).symm
theorem getD_map {α β : Type} {g : α → β} {l : List α} {i : Nat} {d : α} {e : β} (h : g d = e) : (l.map g).getD i e = g (l.getD i d) := by
  rw [List.getD_eq_getElem?_getD, List.getD_eq_getElem?_getD, List.getElem?_map]
  cases l[i]? with
  | none => exact h.symm
  | some x => rfl
theorem qsbR_co (a b : List Rat) (i : Nat) : (qsbR a b).getD i 0 = a.getD i 0 - b.getD i 0 := by
  unfold qsbR
  rw [qadR_co, getD_map (d := 0) (by simp)]; grind
theorem zscR_co (p : List Int) (k : Int) (i : Nat) : (zscR p k).getD i 0 = k * p.getD i 0 := by
  unfold zscR
  split
  · rename_i h; rw [h, Int.zero_mul]; rfl
  · rw [getD_map (d := 0) (by simp)]; exact Int.mul_comm _ _
theorem qscR_co (p : List Rat) (r : Rat) (i : Nat) : (qscR p r).getD i 0 = r * p.getD i 0 := by
  unfold qscR
  split
  · rename_i h; rw [h, Rat.zero_mul]; rfl
  · rw [getD_map (d := 0) (by simp)]; exact Rat.mul_comm _ _
theorem qrsR_co (p : List Rat) (n i : Nat) : (qrsR p n).getD i 0 = if i < n then 0 else p.getD (i - n) 0 := by
  unfold qrsR
  split
  · rename_i h; subst h; simp
  · rw [List.getD_eq_getElem?_getD]
    by_cases h : i < n
    · rw [List.getElem?_append_left (by simpa using h), if_pos h]; simp [h]
    · rw [List.getElem?_append_right (by simp; omega), if_neg h, List.getD_eq_getElem?_getD]; simp
theorem bel_co (l : List Rat) (i : Nat) : (bel l).getD i 0 = if i < l.length - 1 then l.getD i 0 else 0 := by
  unfold bel; rw [getD_take]
theorem frz_co (z : List Int) (i : Nat) : (frz z).getD i 0 = ((z.getD i 0 : Int) : Rat) := by
  unfold frz; exact getD_map rfl
theorem getD_set {α : Type} {l : List α} {k i : Nat} {v d : α} : (l.set k v).getD i d = if k = i ∧ i < l.length then v else l.getD i d := by
  rw [List.getD_eq_getElem?_getD, List.getElem?_set, List.getD_eq_getElem?_getD]
  by_cases h : k = i
  · subst h
    by_cases h' : k < l.length
    · simp [h']
    · simp [h']
  · simp [h]
/-- the product's coefficients -/
noncomputable def cnv (a b : Nat → Rat) (A B k : Nat) : Rat := sumQ A fun i => sumQ B fun j => if i + j = k then a i * b j else 0
theorem qmRow_co (b : List Rat) (l : Rat) (o : Nat) (f : List Rat) (k : Nat) : ∀ j, o + j ≤ f.length → (qmRow b l o j f).getD k 0 = f.getD k 0 + sumQ j fun j => if o + j = k then l * b.getD j 0 else 0
  | 0, _ => by simp only [qmRow, sumQ]; exact (Rat.add_zero _).symm
  | j + 1, h => by
    have ih := qmRow_co b l o f k j (by omega)
    rw [qmRow, getD_set, qmRow_len, sumQ]
    by_cases e : o + j = k
    · rw [if_pos ⟨e, by omega⟩, if_pos e, e, ih]; grind
    · rw [if_neg (fun h => e h.1), if_neg e, ih]; grind
theorem qmAll_co (a b : List Rat) (hb : b ≠ []) (k : Nat) : ∀ i, i ≤ a.length → (qmAll a b i).getD k 0 = cnv (fun i => a.getD i 0) (fun j => b.getD j 0) i b.length k
  | 0, _ => by
    simp only [qmAll, cnv, sumQ]
    rw [List.getD_eq_getElem?_getD, List.getElem?_replicate]; split <;> rfl
  | i + 1, h => by
    have ih := qmAll_co a b hb k i (by omega)
    rw [qmAll, qmRow_co _ _ _ _ _ _ (by rw [qmAll_len]; omega), ih]; rfl
theorem cnv_ext {a b : Nat → Rat} {A A' B B' k : Nat} (hA : A' ≤ A) (hB : B' ≤ B) (ha : ∀ i, A' ≤ i → a i = 0) (hb : ∀ i, B' ≤ i → b i = 0) : cnv a b A B k = cnv a b A' B' k := by
  unfold cnv
  rw [sumQ_ext hA fun i h1 h2 => ?_]
  · refine sumQ_congr fun i hi => sumQ_ext hB fun j h1 h2 => ?_
    rw [hb j h1, Rat.mul_zero]; split <;> rfl
  · rw [sumQ_congr (h := fun _ => 0) fun j _ => ?_, sumQ_zero]
    rw [ha i h1, Rat.zero_mul]; split <;> rfl
theorem qmR_co {a b : List Rat} {A B : Nat} (hA : a.length ≤ A) (hB : b.length ≤ B) (k : Nat) : (qmR a b).getD k 0 = cnv (fun i => a.getD i 0) (fun j => b.getD j 0) A B k := by
  rw [cnv_ext hA hB (fun i h => getD_out h) (fun i h => getD_out h)]
  unfold qmR
  split
  · rename_i h
    rcases h with h | h <;> subst h
    · rfl
    · exact (show (0 : Rat) = _ from (sumQ_zero a.length).symm)
  · rename_i h
    exact qmAll_co a b (fun e => h (.inr e)) k a.length (Nat.le_refl _)

/-- the rest of a division by a line with the first number 1 -/
noncomputable def redStep (b : Nat → Rat) (db m : Nat) (c : Nat → Rat) : Nat → Rat := fun i => if i < m then c i - (if i < m - db then 0 else c m * b (i - (m - db))) else 0
noncomputable def red (b : Nat → Rat) (db : Nat) : Nat → (Nat → Rat) → (Nat → Rat)
  | 0, c => c
  | L + 1, c => if L + 1 ≤ db then c else red b db L (redStep b db L c)
theorem red_congr {b : Nat → Rat} {db : Nat} : ∀ {L : Nat} {c c' : Nat → Rat}, (∀ i, c i = c' i) → red b db L c = red b db L c' := fun h => by rw [funext h]
theorem red_le {b : Nat → Rat} {db : Nat} : ∀ {L : Nat} {c : Nat → Rat}, L ≤ db → red b db L c = c
  | 0, _, _ => rfl
  | L + 1, _, h => by rw [red, if_pos h]
theorem red_skip {b : Nat → Rat} {db : Nat} {L : Nat} {c : Nat → Rat} (h : ∀ i, L ≤ i → c i = 0) : red b db (L + 1) c = red b db L c := by
  rw [red]
  split
  · rename_i q; exact (red_le (by omega)).symm
  · refine red_congr fun i => ?_
    unfold redStep
    split
    · rw [h L (Nat.le_refl _), Rat.zero_mul]; split <;> grind
    · exact (h i (by omega)).symm
theorem qdStep_co {a b : List Rat} {i : Nat} (hb : b ≠ []) (h1 : lst b = 1) (hl : b.length ≤ (qdS a b i).1.length) (k : Nat) :
    (qdS a b (i + 1)).1.getD k 0 = redStep (fun j => b.getD j 0) (b.length - 1) ((qdS a b i).1.length - 1) (fun j => (qdS a b i).1.getD j 0) k := by
  have hb0 : 0 < b.length := List.length_pos_iff.mpr hb
  rw [qdS, qdStep, if_neg (by omega)]
  generalize (qdS a b i).1 = r at *
  show (qsbR (bel r) (qrsR (qscR (bel b) (qdN b r)) (r.length - b.length))).getD k 0 = _
  rw [qsbR_co, bel_co, qrsR_co, qscR_co, bel_co]
  have e1 : qdN b r = r.getD (r.length - 1) 0 := by unfold qdN; rw [h1]; unfold lst; grind
  have e2 : r.length - 1 - (b.length - 1) = r.length - b.length := by omega
  rw [e1]
  unfold redStep
  rw [e2]
  by_cases q1 : k < r.length - 1
  · rw [if_pos q1, if_pos q1]
    by_cases q2 : k < r.length - b.length
    · rw [if_pos q2, if_pos q2]
    · rw [if_neg q2, if_neg q2, if_pos (by omega)]
  · rw [if_neg q1, if_neg q1]
    by_cases q2 : k < r.length - b.length
    · omega
    · rw [if_neg q2, if_neg (by omega)]; grind
theorem qdStep_len {a b : List Rat} {i : Nat} (hb : b ≠ []) (hl : b.length ≤ (qdS a b i).1.length) : (qdS a b (i + 1)).1.length < (qdS a b i).1.length := by
  have hb0 : 0 < b.length := List.length_pos_iff.mpr hb
  rw [qdS, qdStep, if_neg (by omega)]
  generalize (qdS a b i).1 = r at *
  show (qsbR (bel r) (qrsR (qscR (bel b) (qdN b r)) (r.length - b.length))).length < _
  unfold qsbR qadR
  refine Nat.lt_of_le_of_lt (qtr_len _) ?_
  have h1 := bel_len r
  have h2 := bel_len b
  have h3 := qscR_len (bel b) (qdN b r)
  have h4 := qrsR_len (qscR (bel b) (qdN b r)) (r.length - b.length)
  simp only [List.length_map, List.length_range]
  omega
theorem qdS_red {a b : List Rat} (hb : b ≠ []) (h1 : lst b = 1) : ∀ (L i j : Nat), (qdS a b i).1.length ≤ L → L ≤ j → ∀ k, (qdS a b (i + j)).1.getD k 0 = red (fun j => b.getD j 0) (b.length - 1) L (fun j => (qdS a b i).1.getD j 0) k
  | 0, i, j, hL, hj, k => by
    have hb0 : 0 < b.length := List.length_pos_iff.mpr hb
    rw [qdS_fix (by omega)]; rfl
  | L + 1, i, j, hL, hj, k => by
    have hb0 : 0 < b.length := List.length_pos_iff.mpr hb
    by_cases q : (qdS a b i).1.length ≤ L
    · rw [qdS_red hb h1 L i j q (by omega) k, red_skip fun n hn => getD_out (by omega)]
    · by_cases q2 : L + 1 ≤ b.length - 1
      · rw [qdS_fix (by omega), red_le q2]
      · have hl : b.length ≤ (qdS a b i).1.length := by omega
        have := qdStep_len (a := a) (i := i) hb hl
        have ih := qdS_red (a := a) hb h1 L (i + 1) (j - 1) (by omega) (by omega) k
        rw [show i + 1 + (j - 1) = i + j by omega] at ih
        rw [ih, red, if_neg q2]
        rw [red_congr (c' := redStep (fun j => b.getD j 0) (b.length - 1) L fun j => (qdS a b i).1.getD j 0)]
        intro n
        rw [qdStep_co hb h1 hl n, show (qdS a b i).1.length - 1 = L by omega]
theorem qdm_co {a b : List Rat} {L : Nat} (hb : b ≠ []) (h1 : lst b = 1) (hL : a.length ≤ L) (k : Nat) : (qdm a b).2.getD k 0 = red (fun j => b.getD j 0) (b.length - 1) L (fun j => a.getD j 0) k := by
  have h := qdS_red (a := a) hb h1 a.length 0 (a.length + 1) (Nat.le_refl _) (by omega) k
  rw [Nat.zero_add] at h
  show (qdS a b (a.length + 1)).1.getD k 0 = _
  rw [h]
  obtain ⟨d, rfl⟩ := Nat.exists_eq_add_of_le hL
  have : ∀ d, red (fun j => b.getD j 0) (b.length - 1) (a.length + d) (fun j => a.getD j 0) = red (fun j => b.getD j 0) (b.length - 1) a.length (fun j => a.getD j 0) := by
    intro d
    induction d with
    | zero => rfl
    | succ d ih => rw [← Nat.add_assoc, red_skip fun n hn => getD_out (by omega), ih]
  rw [this d]; rfl
/-- steps that make shorter -/
theorem steps_end {l : Nat → Nat} {m : Nat} (hm : 0 < m) (h : ∀ i, m ≤ l i → l (i + 1) < l i) : ∃ k, k ≤ l 0 ∧ (∀ i, i < k → m ≤ l i) ∧ (∀ i, i ≤ k → l i ≤ l 0 - i) ∧ l k < m := by
  have key : ∀ n, (∃ k, k ≤ n ∧ (∀ i, i < k → m ≤ l i) ∧ (∀ i, i ≤ k → l i ≤ l 0 - i) ∧ l k < m) ∨ ((∀ i, i ≤ n → m ≤ l i) ∧ (∀ i, i ≤ n → l i ≤ l 0 - i)) := by
    intro n
    induction n with
    | zero =>
      by_cases q : l 0 < m
      · exact .inl ⟨0, Nat.le_refl _, fun i hi => by omega, fun i hi => by have : i = 0 := by omega
                                                                           subst this; omega, q⟩
      · exact .inr ⟨fun i hi => by have : i = 0 := by omega
                                   subst this; omega, fun i hi => by have : i = 0 := by omega
                                                                     subst this; omega⟩
    | succ n ih =>
      rcases ih with ⟨k, h1, h2, h3, h4⟩ | ⟨h1, h2⟩
      · exact .inl ⟨k, by omega, h2, h3, h4⟩
      · have hn := h n (h1 n (Nat.le_refl _))
        have hn2 := h2 n (Nat.le_refl _)
        have h3 : ∀ i, i ≤ n + 1 → l i ≤ l 0 - i := fun i hi => by
          by_cases q : i = n + 1
          · subst q; omega
          · exact h2 i (by omega)
        by_cases q : l (n + 1) < m
        · exact .inl ⟨n + 1, Nat.le_refl _, fun i hi => h1 i (by omega), h3, q⟩
        · exact .inr ⟨fun i hi => by
            by_cases q' : i = n + 1
            · subst q'; omega
            · exact h1 i (by omega), h3⟩
  rcases key (l 0) with ⟨k, h1, h2, h3, h4⟩ | ⟨h1, h2⟩
  · exact ⟨k, h1, h2, h3, h4⟩
  · have := h1 (l 0) (Nat.le_refl _)
    have := h2 (l 0) (Nat.le_refl _)
    omega
/-- trimmed -/
noncomputable def TrmI (l : List Int) : Prop := 0 < l.length → l.getD (l.length - 1) 0 ≠ 0
noncomputable def TrmQ (l : List Rat) : Prop := 0 < l.length → l.getD (l.length - 1) 0 ≠ 0
theorem ztr_trm (l : List Int) : TrmI (ztr l) := fun h => by
  have hl : (ztr l).length = ztl l := by unfold ztr; rw [List.length_take]; have := tlen_le (fun i => l.getD i 0 != 0) l.length; unfold ztl; omega
  rw [hl] at h ⊢
  rw [ztr_co]
  have := tlen_last (fun i => l.getD i 0 != 0) l.length h
  simpa [ztl] using this
theorem qtr_trm (l : List Rat) : TrmQ (qtr l) := fun h => by
  have hl : (qtr l).length = qtl l := by unfold qtr; rw [List.length_take]; have := tlen_le (fun i => (l.getD i 0).num != 0) l.length; unfold qtl; omega
  rw [hl] at h ⊢
  rw [qtr_co]
  have := tlen_last (fun i => (l.getD i 0).num != 0) l.length h
  intro e
  have h2 : (l.getD (qtl l - 1) 0).num ≠ 0 := by simpa [qtl] using this
  exact h2 (Rat.num_eq_zero.mpr e)
theorem frz_trm {l : List Int} (h : TrmI l) : TrmQ (frz l) := fun h' => by
  rw [frz_len] at h' ⊢
  rw [frz_co]
  intro e
  exact h h' (by exact_mod_cast e)
theorem trmI_ext {a b : List Int} (ha : TrmI a) (hb : TrmI b) (h : ∀ i, a.getD i 0 = b.getD i 0) : a = b := by
  have hl : a.length = b.length := by
    rcases Nat.lt_trichotomy a.length b.length with q | q | q
    · have := hb (by omega)
      rw [← h, getD_out (by omega)] at this; exact (this rfl).elim
    · exact q
    · have := ha (by omega)
      rw [h, getD_out (by omega)] at this; exact (this rfl).elim
  refine List.ext_getElem hl fun i h1 h2 => ?_
  have := h i
  rwa [List.getD_eq_getElem?_getD, List.getD_eq_getElem?_getD, List.getElem?_eq_getElem h1, List.getElem?_eq_getElem h2] at this
theorem trmQ_ext {a b : List Rat} (ha : TrmQ a) (hb : TrmQ b) (h : ∀ i, a.getD i 0 = b.getD i 0) : a = b := by
  have hl : a.length = b.length := by
    rcases Nat.lt_trichotomy a.length b.length with q | q | q
    · have := hb (by omega)
      rw [← h, getD_out (by omega)] at this; exact (this rfl).elim
    · exact q
    · have := ha (by omega)
      rw [h, getD_out (by omega)] at this; exact (this rfl).elim
  refine List.ext_getElem hl fun i h1 h2 => ?_
  have := h i
  rwa [List.getD_eq_getElem?_getD, List.getD_eq_getElem?_getD, List.getElem?_eq_getElem h1, List.getElem?_eq_getElem h2] at this
end

/-! text Pa3 -/
section
/-! sizes -/
noncomputable def Bn (N B : Nat) (x : Rat) : Prop := ∃ a : Int, x = mkRat a N ∧ a.natAbs ≤ B
theorem Bn.mono {N B B' : Nat} {x : Rat} (h : Bn N B x) (hB : B ≤ B') : Bn N B' x := let ⟨a, e, k⟩ := h; ⟨a, e, Nat.le_trans k hB⟩
theorem Bn.sz {N B : Nat} {x : Rat} (h : Bn N B x) (h0 : N ≠ 0) (hN : N < 2 ^ 4000) (hB : B < 2 ^ 4000) : Sz x := by
  obtain ⟨a, e, k⟩ := h
  obtain ⟨n, d, nz, cp⟩ := x
  obtain ⟨m, m0, e1, e2⟩ := Rat.mkRat_num_den h0 e.symm
  have hm : 1 ≤ m := Nat.one_le_iff_ne_zero.mpr m0
  refine ⟨?_, ?_⟩
  · show n.natAbs < _
    have : n.natAbs ≤ a.natAbs := by
      rw [e1, Int.natAbs_mul]
      exact Nat.le_mul_of_pos_right _ (by simp; omega)
    exact Nat.lt_of_le_of_lt (Nat.le_trans this k) hB
  · show d < _
    have : d ≤ N := by rw [e2]; exact Nat.le_mul_of_pos_right _ hm
    exact Nat.lt_of_le_of_lt this hN
theorem Bn.zero {N B : Nat} : Bn N B 0 := ⟨0, by simp, by simp⟩
theorem Bn.int {z : Int} {B : Nat} (h : z.natAbs ≤ B) : Bn 1 B (z : Rat) := ⟨z, by rw [Rat.mkRat_eq_div]; grind, h⟩
theorem Bn.add {N B C : Nat} {x y : Rat} (h : Bn N B x) (k : Bn N C y) : Bn N (B + C) (x + y) := by
  obtain ⟨a, rfl, ha⟩ := h
  obtain ⟨b, rfl, hb⟩ := k
  refine ⟨a + b, ?_, by omega⟩
  rw [Rat.mkRat_eq_div, Rat.mkRat_eq_div, Rat.mkRat_eq_div, Rat.intCast_add]; grind
theorem Bn.neg {N B : Nat} {x : Rat} (h : Bn N B x) : Bn N B (-x) := by
  obtain ⟨a, rfl, ha⟩ := h
  refine ⟨-a, ?_, by omega⟩
  rw [Rat.mkRat_eq_div, Rat.mkRat_eq_div, Rat.intCast_neg]; grind
theorem Bn.sub {N B C : Nat} {x y : Rat} (h : Bn N B x) (k : Bn N C y) : Bn N (B + C) (x - y) := by
  rw [Rat.sub_eq_add_neg]; exact h.add k.neg
theorem Bn.mul {N M B C : Nat} {x y : Rat} (h : Bn N B x) (k : Bn M C y) : Bn (N * M) (B * C) (x * y) := by
  obtain ⟨a, rfl, ha⟩ := h
  obtain ⟨b, rfl, hb⟩ := k
  refine ⟨a * b, Rat.mkRat_mul_mkRat .., ?_⟩
  rw [Int.natAbs_mul]; exact Nat.mul_le_mul ha hb
noncomputable def Bl (N B : Nat) (l : List Rat) : Prop := ∀ i, Bn N B (l.getD i 0)
theorem Bl.mono {N B B' : Nat} {l : List Rat} (h : Bl N B l) (hB : B ≤ B') : Bl N B' l := fun i => (h i).mono hB
theorem Bl.sz {N B : Nat} {l : List Rat} (h : Bl N B l) (h0 : N ≠ 0) (hN : N < 2 ^ 4000) (hB : B < 2 ^ 4000) : ∀ x ∈ l, Sz x := fun x hx => by
  obtain ⟨i, hi, rfl⟩ := List.mem_iff_getElem.mp hx
  have := (h i).sz h0 hN hB
  rwa [List.getD_eq_getElem?_getD, List.getElem?_eq_getElem hi] at this
theorem Bl.of {N B : Nat} {l : List Rat} (h : ∀ x ∈ l, Bn N B x) : Bl N B l := fun i => by
  by_cases hi : i < l.length
  · exact h _ (getD_memQ hi)
  · rw [getD_out (by omega)]; exact .zero
theorem Bl.frz {B : Nat} {l : List Int} (h : ∀ i, (l.getD i 0).natAbs ≤ B) : Bl 1 B (frz l) := fun i => by
  rw [frz_co]; exact .int (h i)
theorem qmRow_bn {N C D : Nat} {b : List Rat} {l : Rat} {o : Nat} {f : List Rat} (hf : Bl N C f) (hd : ∀ j, Bn N D (l * b.getD j 0)) (k : Nat) : ∀ j, Bn N (if o ≤ k ∧ k < o + j then C + D else C) ((qmRow b l o j f).getD k 0)
  | 0 => by rw [if_neg (by omega)]; exact hf k
  | j + 1 => by
    have ih := qmRow_bn (o := o) hf hd k j
    rw [qmRow, getD_set]
    by_cases h : o + j = k ∧ k < (qmRow b l o j f).length
    · rw [if_pos h]
      obtain ⟨h1, h2⟩ := h
      subst h1
      rw [if_neg (by omega)] at ih
      rw [if_pos (by omega)]
      exact ih.add (hd j)
    · rw [if_neg h]
      refine ih.mono ?_
      split
      · rename_i h; rw [if_pos (by omega)]; exact Nat.le_refl _
      · split <;> omega
theorem qmRow_bl {N C D : Nat} {b : List Rat} {l : Rat} {o : Nat} {f : List Rat} (hf : Bl N C f) (hd : ∀ j, Bn N D (l * b.getD j 0)) (j : Nat) : Bl N (C + D) (qmRow b l o j f) := fun k => (qmRow_bn hf hd k j).mono (by split <;> omega)
theorem qmAll_bl {N M B C : Nat} {a b : List Rat} (ha : Bl N B a) (hb : Bl M C b) : ∀ i, Bl (N * M) (i * (B * C)) (qmAll a b i)
  | 0 => fun k => by
    rw [qmAll, List.getD_eq_getElem?_getD, List.getElem?_replicate]; split <;> exact .zero
  | i + 1 => by
    rw [qmAll, Nat.add_mul, Nat.one_mul]
    exact qmRow_bl (qmAll_bl ha hb i) (fun j => (ha i).mul (hb j)) _
theorem qmR_bl {N M B C A : Nat} {a b : List Rat} (ha : Bl N B a) (hb : Bl M C b) (hl : a.length ≤ A) : Bl (N * M) (A * (B * C)) (qmR a b) := by
  unfold qmR
  split
  · intro k; exact .zero
  · exact (qmAll_bl ha hb _).mono (Nat.mul_le_mul_right _ hl)
theorem QmOk.of {N M B C A : Nat} {a b : List Rat} (ha : Bl N B a) (hb : Bl M C b) (hl : a.length ≤ A) (h0 : N ≠ 0) (h1 : M ≠ 0) (hN : N * M < 2 ^ 4000) (hA : A * (B * C) < 2 ^ 4000) (hN' : N < 2 ^ 4000) (hM' : M < 2 ^ 4000) (hB' : B < 2 ^ 4000) (hC' : C < 2 ^ 4000) : QmOk a b := by
  have h2 : N * M ≠ 0 := Nat.mul_ne_zero h0 h1
  refine ⟨ha.sz h0 hN' hB', hb.sz h1 hM' hC', fun i hi j hj => ⟨?_, ?_⟩⟩
  · refine ((qmRow_bl (qmAll_bl ha hb i) (fun j => (ha i).mul (hb j)) j (i + j)).mono ?_).sz h2 hN hA
    have : (i + 1) * (B * C) ≤ A * (B * C) := Nat.mul_le_mul_right _ (by omega)
    rwa [Nat.add_mul, Nat.one_mul] at this
  · refine (((ha i).mul (hb j)).mono ?_).sz h2 hN hA
    exact Nat.le_mul_of_pos_left _ (by omega)
theorem qadR_bl {N B C : Nat} {a b : List Rat} (ha : Bl N B a) (hb : Bl N C b) : Bl N (B + C) (qadR a b) := fun k => by
  rw [qadR_co]; exact (ha k).add (hb k)
/-- the rest's numbers -/
theorem qdS_bl {N B C : Nat} {a b : List Rat} (hbn : b ≠ []) (h1 : lst b = 1) (ha : Bl N B a) (hb : Bl 1 C b) : ∀ i, Bl N (B * (1 + C) ^ i) (qdS a b i).1
  | 0 => by simpa [qdS] using ha
  | i + 1 => by
    have ih := qdS_bl hbn h1 ha hb i
    have hm : B * (1 + C) ^ i ≤ B * (1 + C) ^ (i + 1) := Nat.mul_le_mul_left _ (Nat.pow_le_pow_right (by omega) (by omega))
    by_cases q : b.length ≤ (qdS a b i).1.length
    · intro k
      rw [qdStep_co hbn h1 q k]
      unfold redStep
      split
      · split
        · exact ((ih k).sub (.zero (B := 0))).mono (by simpa using hm)
        · refine ((ih k).sub (C := B * (1 + C) ^ i * C) ?_).mono ?_
          · have := (ih ((qdS a b i).1.length - 1)).mul (hb (k - ((qdS a b i).1.length - 1 - (b.length - 1))))
            rwa [Nat.mul_one] at this
          · have : B * (1 + C) ^ i + B * (1 + C) ^ i * C = B * (1 + C) ^ (i + 1) := by rw [Nat.pow_succ, ← Nat.mul_assoc, Nat.mul_add, Nat.mul_one]
            omega
      · exact .zero
    · have e : qdS a b (i + 1) = qdS a b i := by rw [qdS, qdStep, if_pos (by omega)]
      rw [e]; exact ih.mono hm
theorem QdOk.of {N B C A : Nat} {a b : List Rat} (hbn : b ≠ []) (h1 : lst b = 1) (ha : Bl N B a) (hb : Bl 1 C b) (hl : a.length ≤ A) (h0 : N ≠ 0) (hN : N < 2 ^ 4000) (hA : B * (1 + C) ^ (A + 1) < 2 ^ 4000) (hB : 0 < B) :
    (∃ k, k ≤ a.length + 1 ∧ QdOk a b k) ∧ Bl N (B * (1 + C) ^ A) (qdm a b).2 ∧ (qdm a b).2.length < b.length := by
  have hb0 : 0 < b.length := List.length_pos_iff.mpr hbn
  obtain ⟨k, hk, s1, s2, s3⟩ := steps_end (l := fun i => (qdS a b i).1.length) hb0 (fun i hi => qdStep_len hbn hi)
  have hk' : k ≤ a.length := hk
  have pw : ∀ i, i ≤ A + 1 → B * (1 + C) ^ i < 2 ^ 4000 := fun i hi => Nat.lt_of_le_of_lt (Nat.mul_le_mul_left _ (Nat.pow_le_pow_right (by omega) hi)) hA
  have hC : C < 2 ^ 4000 := by
    have := pw 1 (by omega)
    rw [Nat.pow_one] at this
    have h2 : 1 + C ≤ B * (1 + C) := Nat.le_mul_of_pos_left _ hB
    exact Nat.lt_of_le_of_lt (Nat.le_trans (Nat.le_add_left C 1) h2) this
  have hbs : ∀ x ∈ b, Sz x := hb.sz (by decide) (Nat.one_lt_pow (by decide) (by decide)) hC
  have e := fun (i : Nat) => qdS_bl hbn h1 ha hb i
  have ok : QdOk a b k := by
    refine ⟨hbn, by rw [h1]; decide, hbs, fun i hi => ⟨s1 i hi, Nat.le_trans (s2 i (by omega)) (Nat.sub_le _ _), (e i).sz h0 hN (pw i (by omega)), ?_, fun x hx => ?_⟩, s3⟩
    · have e1 : qdN b (qdS a b i).1 = (qdS a b i).1.getD ((qdS a b i).1.length - 1) 0 := by unfold qdN; rw [h1]; unfold lst; grind
      rw [e1]; exact (e i _).sz h0 hN (pw i (by omega))
    · have e1 : qdN b (qdS a b i).1 = (qdS a b i).1.getD ((qdS a b i).1.length - 1) 0 := by unfold qdN; rw [h1]; unfold lst; grind
      have bl : Bl N (B * (1 + C) ^ (i + 1)) (qscR (bel b) (qdN b (qdS a b i).1)) := fun j => by
        rw [qscR_co, bel_co, e1]
        split
        · have := (e i ((qdS a b i).1.length - 1)).mul (hb j)
          rw [Nat.mul_one] at this
          refine this.mono ?_
          rw [Nat.pow_succ, ← Nat.mul_assoc, Nat.mul_add]; omega
        · rw [Rat.mul_zero]; exact .zero
      exact bl.sz h0 hN (pw (i + 1) (by omega)) x hx
  refine ⟨⟨k, by omega, ok⟩, ?_, ?_⟩
  · rw [qdm_eq ok (by omega)]
    exact (e k).mono (Nat.mul_le_mul_left _ (Nat.pow_le_pow_right (by omega) (by omega)))
  · rw [qdm_eq ok (by omega)]; exact s3
end

/-! text Pa4 -/
section
/-! what is told, as linear maps -/
theorem filt_sum (q : Nat → Bool) (g : Nat → Int) : ∀ m, (((List.range m).filter q).map g).sum = sumI m fun i => if q i then g i else 0
  | 0 => rfl
  | m + 1 => by
    rw [List.range_succ, List.filter_append, List.map_append, List.sum_append, filt_sum q g m, sumI]
    cases h : q m <;> simp [h]
theorem laR_sum (c : List Int) (p : Int) (o : Nat) {n : Nat} (hn : c.length ≤ n) : laR (ztr c) p o = sumI n fun i => if o ≤ i then chS i o * p ^ (i - o) * c.getD i 0 else 0 := by
  unfold laR
  rw [filt_sum, ← sumI_ext (m := (ztr c).length) (n := n) (Nat.le_trans (ztr_len c) hn) (fun i h1 h2 => ?_)]
  · refine sumI_congr fun i hi => ?_
    unfold laT
    rw [ztr_co]
    by_cases h : o ≤ i
    · simp only [h, decide_true, if_true]; grind
    · simp only [h, decide_false, if_false]; rfl
  · unfold laT
    rw [getD_out (l := ztr c) (by omega)]
    split <;> simp
theorem linI_laR {n : Nat} (p : Int) (o : Nat) : LinI n fun c => laR (ztr c) p o :=
  (LinI.sum (n := n) (m := n) (F := fun i c => if o ≤ i then chS i o * p ^ (i - o) * c.getD i 0 else 0) fun i _ => LinI.ite (fun _ => LinI.get.mul _) fun _ => .zero).congr fun c hc => laR_sum c p o (by omega)
noncomputable def LI (n : Nat) (G : List Int → List Int) : Prop := ∀ k, LinI n fun c => (G c).getD k 0
noncomputable def LQ (n : Nat) (G : List Int → List Rat) : Prop := ∀ k, LinQ n fun c => (G c).getD k 0
theorem li_told {n : Nat} (P : List Int) (T : List Nat) (i : Nat) : LI n fun c => toldAt (ztr c) P T i := fun k =>
  (LinI.ite (p := k < T.getD i 0) (fun _ => linI_laR (P.getD i 0) k) fun _ => .zero).congr fun c _ => by
    unfold toldAt; rw [getD_range]
theorem toldS_get {f P : List Int} {T : List Nat} {m i : Nat} (h : i < m) : (toldS f P T m).getD i [] = toldAt f P T i := by
  unfold toldS; rw [getD_range, if_pos h]
theorem li_here {n : Nat} {tl : List Int → List Int} (h : LI n tl) (p : Int) : ∀ j, LI n fun c => hereS (tl c) p j
  | 0 => fun k => LinI.zero.congr fun c _ => by simp [hereS]
  | j + 1 => fun k => ((li_here h p j k).add ((h j).mul ((ln p j).getD k 0))).congr fun c _ => by
    dsimp only
    rw [hereS, zadR_co, zscR_co, Int.mul_comm]
theorem lq_frz {n : Nat} {G : List Int → List Int} (h : LI n G) : LQ n fun c => frz (G c) := fun k => (h k).cast.congr fun c _ => frz_co _ _
theorem lq_qmR {n A : Nat} {G : List Int → List Rat} (h : LQ n G) (b : List Rat) (hA : ∀ c : List Int, c.length = n → (G c).length ≤ A) : LQ n fun c => qmR (G c) b := fun k =>
  (LinQ.sum (n := n) (m := A) (F := fun i c => sumQ b.length fun j => if i + j = k then b.getD j 0 * (G c).getD i 0 else 0) fun i _ =>
    LinQ.sum (n := n) (m := b.length) (F := fun j c => if i + j = k then b.getD j 0 * (G c).getD i 0 else 0) fun j _ => LinQ.ite (fun _ => (h i).mul _) fun _ => .zero).congr fun c hc => by
      rw [qmR_co (hA c hc) (Nat.le_refl _)]
      exact sumQ_congr fun i _ => sumQ_congr fun j _ => by split; exact Rat.mul_comm _ _; rfl
theorem lq_qadR {n : Nat} {G H : List Int → List Rat} (h : LQ n G) (k : LQ n H) : LQ n fun c => qadR (G c) (H c) := fun i => ((h i).add (k i)).congr fun c _ => qadR_co _ _ _
theorem linQ_red {n : Nat} (b : Nat → Rat) (db : Nat) : ∀ (L : Nat) (C : List Int → Nat → Rat), (∀ i, LinQ n fun c => C c i) → ∀ i, LinQ n fun c => red b db L (C c) i
  | 0, C, h, i => h i
  | L + 1, C, h, i => by
    by_cases q : L + 1 ≤ db
    · exact (h i).congr fun c _ => by rw [red, if_pos q]
    · refine (linQ_red b db L (fun c => redStep b db L (C c)) (fun i => ?_) i).congr fun c _ => by rw [red, if_neg q]
      unfold redStep
      exact LinQ.ite (fun _ => (h i).sub (LinQ.ite (fun _ => .zero) fun _ => ((h L).mul _).congr fun c _ => Rat.mul_comm _ _)) fun _ => .zero
theorem lq_rest {n L : Nat} {G : List Int → List Rat} (h : LQ n G) {b : List Rat} (hb : b ≠ []) (h1 : lst b = 1) (hL : ∀ c : List Int, c.length = n → (G c).length ≤ L) : LQ n fun c => (qdm (G c) b).2 := fun k =>
  (linQ_red (fun j => b.getD j 0) (b.length - 1) L (fun c i => (G c).getD i 0) h k).congr fun c hc => qdm_co hb h1 (hL c hc) k
/-- lengths -/
theorem zadR_len (a b : List Int) : (zadR a b).length ≤ max a.length b.length := by
  unfold zadR; refine Nat.le_trans (ztr_len _) ?_; rw [List.length_map, List.length_range]; exact Nat.le_refl _
theorem zscR_len (p : List Int) (k : Int) : (zscR p k).length ≤ p.length := by unfold zscR; split <;> simp
theorem hereS_len {tl : List Int} {p : Int} {B : Nat} : ∀ j, (∀ i, i < j → (ln p i).length ≤ B) → (hereS tl p j).length ≤ B
  | 0, _ => by simp [hereS]
  | j + 1, h => by
    have h1 := hereS_len (tl := tl) j fun i hi => h i (by omega)
    have h2 := h j (by omega)
    have h3 := zscR_len (ln p j) (tl.getD j 0)
    have h4 := zadR_len (hereS tl p j) (zscR (ln p j) (tl.getD j 0))
    rw [hereS]; omega
/-- what a configuration must bear, f aside -/
structure Cfg (P : List Int) (T : List Nat) (k : Nat → Nat) (i : Nat) : Prop where
  lnF : lnOk (P.getD i 0) (T.getD i 0) = true
  othF : ∀ j, j < T.length → smB (othS P T i j) = true ∧ lnOk (P.getD j 0) (T.getD j 0) = true
  othE : smB (oth P T i) = true
  her : ∀ j, j < T.getD i 0 → lnOk (P.getD i 0) j = true ∧ (ln (P.getD i 0) j).length ≤ 3
  ls : (oth P T i).length ≤ 100 ∧ (line P T i).length ≤ 4
  ex : ExOk (frz (oth P T i)) (frz (line P T i)) (k i)
  one : (exR (frz (oth P T i)) (frz (line P T i)) (k i)).1 = [1]
  tn : (turn P T i (k i)).length ≤ 4
  tb : Bl (12 ^ 12) (2 ^ 100) (turn P T i (k i))
  lne : line P T i ≠ []
  ln1 : lst (frz (line P T i)) = 1
theorem here_len {P f : List Int} {T : List Nat} {k : Nat → Nat} {i m : Nat} (h : Cfg P T k i) : (here (toldS f P T m) P T i).length ≤ 3 := by
  unfold here; exact hereS_len _ fun j hj => (h.her j hj).2
theorem lq_part {n m : Nat} {P : List Int} {T : List Nat} {k : Nat → Nat} {i : Nat} (h : Cfg P T k i) (hi : i < m) : LQ n fun c => part (toldS (ztr c) P T m) P T k i := by
  have h1 : LI n fun c => here (toldS (ztr c) P T m) P T i := fun k => (li_here (li_told P T i) (P.getD i 0) (T.getD i 0) k).congr fun c _ => by
    dsimp only
    unfold here; rw [toldS_get hi]
  have h2 := lq_qmR (A := 3) (lq_frz h1) (turn P T i (k i)) fun c _ => by rw [frz_len]; exact here_len h
  exact lq_rest (L := 7) h2 (by unfold frz; simpa using h.lne) h.ln1 fun c _ => by
    have := qmR_len (frz (here (toldS (ztr c) P T m) P T i)) (turn P T i (k i))
    rw [frz_len] at this
    have h3 := here_len (f := ztr c) (m := m) h
    have h4 := h.tn
    omega
end

/-! text Pa5 -/
section
theorem laR_small {f : List Int} {p : Int} {o : Nat} (hf : ∀ x ∈ f, x.natAbs ≤ 3) (hl : f.length ≤ 6) (hp : p.natAbs ≤ 8) (ho : o < 4) : (laR f p o).natAbs ≤ 2 ^ 53 := by
  unfold laR
  refine Nat.le_trans (sum_bound _ fun x hx => ?_) ?_
  · obtain ⟨i, hi, rfl⟩ := List.mem_map.mp hx
    rw [List.mem_filter] at hi
    exact laT_small hf hl hp ho (by simpa using hi.1)
  · rw [List.length_map]
    have := List.length_filter_le (fun i => decide (o ≤ i)) (List.range f.length)
    rw [List.length_range] at this
    omega
theorem smB_get {l : List Int} (h : smB l = true) (i : Nat) : (l.getD i 0).natAbs ≤ 2 ^ 100 := by
  by_cases hi : i < l.length
  · unfold smB at h
    simp only [Bool.and_eq_true, List.all_eq_true, decide_eq_true_eq] at h
    exact Nat.le_of_lt (h.1 _ (getD_memI hi))
  · rw [getD_out (by omega)]; decide +kernel
theorem toldAt_small {f P : List Int} {T : List Nat} {i : Nat} (hf : ∀ x ∈ f, x.natAbs ≤ 3) (hl : f.length ≤ 6) (hp : (P.getD i 0).natAbs ≤ 8) (ht : T.getD i 0 ≤ 3) (o : Nat) : ((toldAt f P T i).getD o 0).natAbs ≤ 2 ^ 53 := by
  unfold toldAt
  rw [getD_range]
  split
  · exact laR_small hf hl hp (by omega)
  · decide
theorem hereS_small {tl : List Int} {p : Int} (ht : ∀ o, (tl.getD o 0).natAbs ≤ 2 ^ 53) : ∀ j, (∀ i, i < j → lnOk p i = true) → ∀ k, ((hereS tl p j).getD k 0).natAbs ≤ j * 2 ^ 153
  | 0, _, k => by simp [hereS]
  | j + 1, h, k => by
    have h1 := hereS_small ht j (fun i hi => h i (by omega)) k
    have h2 := smB_get (zpOk.of (h j (by omega))).2 k
    have h3 := ht j
    have h4 := Nat.mul_le_mul h3 h2
    rw [← Nat.pow_add] at h4
    rw [hereS, zadR_co, zscR_co, Nat.add_mul, Nat.one_mul]
    refine Nat.le_trans (Int.natAbs_add_le _ _) ?_
    rw [Int.natAbs_mul]
    exact Nat.add_le_add h1 h4
theorem putS_len {P f : List Int} {T : List Nat} {k : Nat → Nat} {m : Nat} : ∀ i, (∀ j, j < i → (part (toldS f P T m) P T k j).length ≤ 3 ∧ (oth P T j).length ≤ 100) → (putS (toldS f P T m) P T k i).length ≤ 103
  | 0, _ => by simp [putS]
  | i + 1, h => by
    have h1 := putS_len (f := f) (m := m) i fun j hj => h j (by omega)
    obtain ⟨h2, h3⟩ := h i (by omega)
    have h4 := qmR_len (part (toldS f P T m) P T k i) (frz (oth P T i))
    rw [frz_len] at h4
    rw [putS]
    unfold qadR
    refine Nat.le_trans (qtr_len _) ?_
    rw [List.length_map, List.length_range]; omega
theorem putS_bl {told : List (List Int)} {P : List Int} {T : List Nat} {k : Nat → Nat} {N B : Nat} : ∀ i, (∀ j, j < i → Bl N B (qmR (part told P T k j) (frz (oth P T j)))) → Bl N (i * B) (putS told P T k i)
  | 0, _ => fun j => by simp only [putS]; exact .zero
  | i + 1, h => by
    rw [putS, Nat.add_mul, Nat.one_mul]
    exact qadR_bl (putS_bl i fun j hj => h j (by omega)) (h i (by omega))
/-- the parts' sizes -/
theorem part_all {P f : List Int} {T : List Nat} {k : Nat → Nat} {i m : Nat} (h : Cfg P T k i) (hi : i < m) (hf : ∀ x ∈ f, x.natAbs ≤ 3) (hl : f.length ≤ 6) (hp : (P.getD i 0).natAbs ≤ 8) (ht : T.getD i 0 ≤ 3) :
    QmOk (frz (here (toldS f P T m) P T i)) (turn P T i (k i)) ∧ (∃ kk, kk ≤ (qmR (frz (here (toldS f P T m) P T i)) (turn P T i (k i))).length + 1 ∧ QdOk (qmR (frz (here (toldS f P T m) P T i)) (turn P T i (k i))) (frz (line P T i)) kk) ∧
    (part (toldS f P T m) P T k i).length ≤ 3 ∧ QmOk (part (toldS f P T m) P T k i) (frz (oth P T i)) ∧ Bl (12 ^ 12) (2 ^ 1100) (qmR (part (toldS f P T m) P T k i) (frz (oth P T i))) := by
  have hh : ∀ k, ((here (toldS f P T m) P T i).getD k 0).natAbs ≤ 2 ^ 155 := fun k => by
    unfold here
    rw [toldS_get hi]
    refine Nat.le_trans (hereS_small (toldAt_small hf hl hp ht) _ (fun j hj => (h.her j hj).1) k) ?_
    refine Nat.le_trans (Nat.mul_le_mul_right _ ht) (by decide +kernel)
  have b1 : Bl 1 (2 ^ 155) (frz (here (toldS f P T m) P T i)) := .frz hh
  have l1 : (frz (here (toldS f P T m) P T i)).length ≤ 3 := by rw [frz_len]; exact here_len h
  have bl : Bl 1 (2 ^ 100) (frz (line P T i)) := .frz (smB_get (zpOk.of h.lnF).2)
  have bo : Bl 1 (2 ^ 100) (frz (oth P T i)) := .frz (smB_get h.othE)
  have ne : frz (line P T i) ≠ [] := by unfold frz; simpa using h.lne
  have m1 := QmOk.of b1 h.tb l1 (by decide +kernel) (by decide +kernel) (by decide +kernel) (by decide +kernel) (by decide +kernel) (by decide +kernel) (by decide +kernel) (by decide +kernel)
  have b2 := qmR_bl b1 h.tb l1
  rw [Nat.one_mul] at b2
  have l2 : (qmR (frz (here (toldS f P T m) P T i)) (turn P T i (k i))).length ≤ 7 := by
    have h1 := qmR_len (frz (here (toldS f P T m) P T i)) (turn P T i (k i))
    have h2 := h.tn
    omega
  obtain ⟨qd, b3, l3⟩ := QdOk.of ne h.ln1 b2 bl l2 (by decide +kernel) (by decide +kernel) (by decide +kernel) (by decide +kernel)
  have l4 : (part (toldS f P T m) P T k i).length ≤ 3 := by
    have := h.ls.2
    rw [frz_len] at l3
    unfold part; omega
  have b3' : Bl (12 ^ 12) (2 ^ 990) (part (toldS f P T m) P T k i) := b3.mono (by decide +kernel)
  have m2 := QmOk.of b3' bo l4 (by decide +kernel) (by decide +kernel) (by decide +kernel) (by decide +kernel) (by decide +kernel) (by decide +kernel) (by decide +kernel) (by decide +kernel)
  have b4 := qmR_bl b3' bo l4
  rw [Nat.mul_one] at b4
  exact ⟨m1, qd, l4, m2, b4.mono (by decide +kernel)⟩
theorem put_ok {P f : List Int} {T : List Nat} {k : Nat → Nat} {m : Nat} (h : ∀ i, i < m → Cfg P T k i) (hf : ∀ x ∈ f, x.natAbs ≤ 3) (hl : f.length ≤ 6) (hp : ∀ i, i < m → (P.getD i 0).natAbs ≤ 8) (ht : ∀ i, i < m → T.getD i 0 ≤ 3) (hm : m ≤ 3) :
    ∀ i, i < m → PutOk (toldS f P T m) P T k i := fun i hi => by
  have pa := fun j (hj : j < m) => part_all (h j hj) hj hf hl (hp j hj) (ht j hj)
  obtain ⟨m1, qd, l4, m2, b4⟩ := pa i hi
  have c := h i hi
  have hpl := putS_len (P := P) (f := f) (T := T) (k := k) (m := m) i fun j hj => ⟨(pa j (by omega)).2.2.1, (h j (by omega)).ls.1⟩
  have hpb := putS_bl (told := toldS f P T m) (P := P) (T := T) (k := k) i fun j hj => (pa j (by omega)).2.2.2.2
  have hts : ((toldS f P T m).getD i []).length = T.getD i 0 := by rw [toldS_get hi]; simp [toldAt]
  have hti := ht i hi
  refine ⟨c.lnF, c.othF, c.othE, fun j hj => ⟨(c.her j hj).1, ?_, ?_⟩, by omega, ?_, c.ex, c.one, m1, by have := c.tn; omega, qd, m2, by omega, (hpb.mono ?_).sz (by decide +kernel) (by decide +kernel) (by decide +kernel : 3 * 2 ^ 1100 < 2 ^ 4000), b4.sz (by decide +kernel) (by decide +kernel) (by decide +kernel), by omega⟩
  · rw [toldS_get hi]
    exact Sm.of (Nat.lt_of_le_of_lt (toldAt_small hf hl (hp i hi) hti j) (by decide +kernel))
  · have := hereS_len (tl := (toldS f P T m).getD i []) (p := P.getD i 0) (B := 3) j fun a ha => (c.her a (by omega)).2
    omega
  · have := here_len (f := f) (m := m) c
    have := c.ls
    omega
  · exact Nat.mul_le_mul_right _ (by omega)
theorem qdm_len {a b : List Rat} (hb : b ≠ []) : (qdm a b).2.length < b.length := by
  have hb0 : 0 < b.length := List.length_pos_iff.mpr hb
  obtain ⟨k, hk, _, _, s3⟩ := steps_end (l := fun i => (qdS a b i).1.length) hb0 (fun i hi => qdStep_len hb hi)
  have hk' : k ≤ a.length := hk
  obtain ⟨d, hd⟩ := Nat.exists_eq_add_of_le (show k ≤ a.length + 1 by omega)
  show (qdS a b (a.length + 1)).1.length < _
  rw [hd, qdS_fix s3]; exact s3
theorem part_len3 {P : List Int} {told : List (List Int)} {T : List Nat} {k : Nat → Nat} {i : Nat} (h : Cfg P T k i) : (part told P T k i).length ≤ 3 := by
  have h1 := h.ls.2
  have h2 := qdm_len (a := qmR (frz (here told P T i)) (turn P T i (k i))) (b := frz (line P T i)) (by unfold frz; simpa using h.lne)
  rw [frz_len] at h2
  unfold part; omega
theorem lq_put {n m : Nat} {P : List Int} {T : List Nat} {k : Nat → Nat} (h : ∀ i, i < m → Cfg P T k i) : ∀ i, i ≤ m → LQ n fun c => putS (toldS (ztr c) P T m) P T k i
  | 0, _ => fun k => LinQ.zero.congr fun c _ => by simp [putS]
  | i + 1, hi => by
    have h1 := lq_put (n := n) h i (by omega)
    have h2 := lq_qmR (A := 3) (lq_part (n := n) (h i (by omega)) (show i < m by omega)) (frz (oth P T i)) fun c hc => part_len3 (h i (by omega))
    exact lq_qadR h1 h2
theorem qadR_trm (a b : List Rat) : TrmQ (qadR a b) := qtr_trm _
theorem put_eq {n m : Nat} {P : List Int} {T : List Nat} {k : Nat → Nat} (h : ∀ i, i < m → Cfg P T k i) (hm : 0 < m)
    (hb : ∀ j, j < n → putS (toldS (ztr (bas n j)) P T m) P T k m = frz (ztr (bas n j))) {c : List Int} (hc : c.length = n) : putS (toldS (ztr c) P T m) P T k m = frz (ztr c) := by
  refine trmQ_ext ?_ (frz_trm (ztr_trm c)) fun i => ?_
  · obtain ⟨a, rfl⟩ := Nat.exists_eq_add_of_lt hm
    rw [Nat.zero_add, putS]; exact qadR_trm _ _
  · have e : ∀ c : List Int, (frz (ztr c)).getD i 0 = ((c.getD i 0 : Int) : Rat) := fun c => by rw [frz_co, ztr_co]
    rw [e]
    refine LinQ.eq (lq_put h m (Nat.le_refl _) i) LinI.get.cast (fun j hj => ?_) c hc
    dsimp only
    rw [hb j hj, e]
end

/-! text Pa6 -/
section
/-! the steps of differences -/
noncomputable def lnS (P : List Int) (sp : List Nat) : Nat → List Int
  | 0 => [1]
  | i + 1 => zmR (lnS P sp i) [0 - P.getD (sp.getD i 0) 0, 1]
theorem stS_lines (told : List (List Int)) (P : List Int) (sp : List Nat) : ∀ i, (stS told P sp i).2.2 = lnS P sp i
  | 0 => rfl
  | i + 1 => by rw [stS, lnS, stS_lines told P sp i]
noncomputable abbrev rowC (P : List Int) (T : List Nat) (m : Nat) (sp : List Nat) (i a : Nat) (c : List Int) : Int := (stS (toldS (ztr c) P T m) P sp i).1.getD a 0
structure SCfg (P : List Int) (T : List Nat) (m n : Nat) (sp : List Nat) : Prop where
  nl : sp.length ≤ 100
  spF : ∀ j, j < sp.length → sp.getD j 0 < m
  ln : ∀ i, i < sp.length → smB (lnS P sp i) = true ∧ (lnS P sp i).length ≤ 50 ∧ smB [0 - P.getD (sp.getD i 0) 0, 1] = true
  rel : ∀ i, i < sp.length → ∀ a, a < sp.length - i - 1 → (sp.getD a 0 = sp.getD (a + i + 1) 0 → i + 1 < T.getD (sp.getD a 0) 0) ∧
    (sp.getD a 0 ≠ sp.getD (a + i + 1) 0 → P.getD (sp.getD (a + i + 1) 0) 0 - P.getD (sp.getD a 0) 0 ≠ 0 ∧ (P.getD (sp.getD (a + i + 1) 0) 0 - P.getD (sp.getD a 0) 0).natAbs < 2 ^ 64 ∧
      ∀ j, j < n → (P.getD (sp.getD (a + i + 1) 0) 0 - P.getD (sp.getD a 0) 0) ∣ (rowC P T m sp i (a + 1) (bas n j) - rowC P T m sp i a (bas n j)))
  sm : ∀ i, i < sp.length → ∀ j, j < n → (rowC P T m sp i 0 (bas n j)).natAbs ≤ 2 ^ 100
theorem linI_row {P : List Int} {T : List Nat} {m n : Nat} {sp : List Nat} (h : SCfg P T m n sp) : ∀ i, i ≤ sp.length → ∀ a, LinI n (rowC P T m sp i a)
  | 0, _, a => by
    refine (LinI.ite (p := a < sp.length) (F := fun c => (toldAt (ztr c) P T (sp.getD a 0)).getD 0 0) (fun _ => li_told P T _ 0) (fun _ => LinI.zero)).congr fun c _ => ?_
    show (List.map _ sp).getD a 0 = _
    by_cases q : a < sp.length
    · rw [if_pos q, ← toldS_get (h.spF a q)]
      rw [List.getD_eq_getElem?_getD, List.getElem?_map, List.getElem?_eq_getElem q]
      simp [List.getD_eq_getElem?_getD, List.getElem?_eq_getElem q]
    · rw [if_neg q, getD_out (by simp; omega)]
  | i + 1, hi, a => by
    have ih := linI_row h i (by omega)
    have hlen : ∀ c, (stS (toldS (ztr c) P T m) P sp i).1.length = sp.length - i := fun c => stS_len _ _ _ i
    by_cases q : a < sp.length - i - 1
    · obtain ⟨r1, r2⟩ := h.rel i (by omega) a q
      by_cases q2 : sp.getD a 0 = sp.getD (a + i + 1) 0
      · refine (li_told P T (sp.getD a 0) (i + 1)).congr fun c _ => ?_
        show (later _ _ _ _ _).getD a 0 = _
        unfold later
        rw [getD_range, hlen, if_pos q]
        unfold latR
        rw [if_pos q2, toldS_get (h.spF a (by omega))]
      · obtain ⟨d0, _, dv⟩ := r2 q2
        refine (((ih (a + 1)).sub (ih a)).div d0 dv).congr fun c _ => ?_
        show (later _ _ _ _ _).getD a 0 = _
        unfold later
        rw [getD_range, hlen, if_pos q]
        unfold latR
        rw [if_neg q2]
    · refine LinI.zero.congr fun c _ => ?_
      show (later _ _ _ _ _).getD a 0 = _
      unfold later
      rw [getD_range, hlen, if_neg q]
theorem li_found {P : List Int} {T : List Nat} {m n : Nat} {sp : List Nat} (h : SCfg P T m n sp) : ∀ i, i ≤ sp.length → LI n fun c => (stS (toldS (ztr c) P T m) P sp i).2.1
  | 0, _ => fun k => LinI.zero.congr fun c _ => by simp [stS]
  | i + 1, hi => fun k => ((li_found h i (by omega) k).add ((linI_row h i (by omega) 0).mul ((lnS P sp i).getD k 0))).congr fun c _ => by
    dsimp only
    rw [show (stS (toldS (ztr c) P T m) P sp (i + 1)).2.1 = zadR (stS (toldS (ztr c) P T m) P sp i).2.1 (zscR (stS (toldS (ztr c) P T m) P sp i).2.2 ((stS (toldS (ztr c) P T m) P sp i).1.getD 0 0)) from rfl, zadR_co, zscR_co, stS_lines, Int.mul_comm]
theorem ste_eq {P : List Int} {T : List Nat} {m n : Nat} {sp : List Nat} (h : SCfg P T m n sp) (h0 : 0 < sp.length) (hb : ∀ j, j < n → (stS (toldS (ztr (bas n j)) P T m) P sp sp.length).2.1 = ztr (bas n j)) {c : List Int} (hc : c.length = n) :
    (stS (toldS (ztr c) P T m) P sp sp.length).2.1 = ztr c := by
  refine trmI_ext ?_ (ztr_trm c) fun i => ?_
  · obtain ⟨a, ha⟩ := Nat.exists_eq_add_of_lt h0
    rw [ha, Nat.zero_add]; exact ztr_trm _
  · rw [ztr_co]
    refine LinI.eq (li_found h _ (Nat.le_refl _) i) LinI.get (fun j hj => ?_) c hc
    dsimp only
    rw [hb j hj, ztr_co]
theorem found_len {told : List (List Int)} {P : List Int} {sp : List Nat} : ∀ i, (∀ j, j < i → (lnS P sp j).length ≤ 50) → (stS told P sp i).2.1.length ≤ 50
  | 0, _ => by simp [stS]
  | i + 1, h => by
    have h1 := found_len (told := told) i fun j hj => h j (by omega)
    have h2 := h i (by omega)
    have h3 := zscR_len (lnS P sp i) ((stS told P sp i).1.getD 0 0)
    have h4 := zadR_len (stS told P sp i).2.1 (zscR (lnS P sp i) ((stS told P sp i).1.getD 0 0))
    rw [show (stS told P sp (i + 1)).2.1 = zadR (stS told P sp i).2.1 (zscR (stS told P sp i).2.2 ((stS told P sp i).1.getD 0 0)) from rfl, stS_lines]
    omega
theorem step_ok {P : List Int} {T : List Nat} {n : Nat} {sp : List Nat} (h : SCfg P T P.length n sp) (hp : P.length ≤ 100) (ht : ∀ i, i < P.length → 0 < T.getD i 0 ∧ T.getD i 0 ≤ 3) (hn : n ≤ 6) {c : List Int} (hc : c.length = n) (hf : ∀ i, (c.getD i 0).natAbs ≤ 3) :
    StepOk (toldS (ztr c) P T P.length) P sp := by
  have tlen : ∀ j, j < P.length → ((toldS (ztr c) P T P.length).getD j []).length = T.getD j 0 := fun j hj => by rw [toldS_get hj]; simp [toldAt]
  refine ⟨hp, h.nl, h.spF, by simp [toldS], fun j hj => ?_, fun i hi => ?_⟩
  · have := ht j hj; rw [tlen j hj]; omega
  · obtain ⟨l1, l2, l3⟩ := h.ln i hi
    refine ⟨by rw [stS_lines]; exact l1, ?_, ?_, l3, fun a ha => ?_⟩
    · have e := (linI_row h i (by omega) 0).at c hc
      have hb : (rowC P T P.length sp i 0 c).natAbs ≤ n * (2 ^ 100 * 3) := by
        rw [e]
        refine sumI_abs fun j hj => ?_
        rw [Int.natAbs_mul]
        exact Nat.mul_le_mul (h.sm i hi j hj) (hf j)
      refine Sm.of (Nat.lt_of_le_of_lt (Nat.le_trans hb (Nat.mul_le_mul_right _ hn)) (by decide +kernel))
    · exact Nat.le_trans (found_len i fun j hj => (h.ln j (by omega)).2.1) (by decide)
    · obtain ⟨r1, r2⟩ := h.rel i hi a ha
      refine ⟨fun e => ?_, fun e => ?_⟩
      · rw [tlen _ (h.spF a (by omega))]; exact r1 e
      · obtain ⟨d0, d1, _⟩ := r2 e
        refine ⟨d0, ?_⟩
        have := (Nat.log2_lt (show (P.getD (sp.getD (a + i + 1) 0) 0 - P.getD (sp.getD a 0) 0).natAbs ≠ 0 by omega)).mpr d1
        omega
end

/-! text Pa7 -/
section
/-! the shift -/
theorem linI_laR1 {m : Nat} (p : Int) (o : Nat) : LinI m fun f => laR f p o :=
  (LinI.sum (n := m) (m := m) (F := fun i c => if o ≤ i then chS i o * p ^ (i - o) * c.getD i 0 else 0) fun i _ => LinI.ite (fun _ => LinI.get.mul _) fun _ => .zero).congr fun c hc => by
    unfold laR
    rw [filt_sum, hc]
    refine sumI_congr fun i hi => ?_
    unfold laT
    by_cases h : o ≤ i
    · simp only [h, decide_true, if_true]; grind
    · simp only [h, decide_false, if_false]; rfl
theorem li_zsIn {m : Nat} (n : Int) (len : Nat) {G : List Int → List Int} (hG : LI m G) (hl : ∀ c : List Int, c.length = m → (G c).length = m) : ∀ j, LI m fun c => zsIn n len j (G c)
  | 0 => hG
  | j + 1 => fun k => by
    have ih := li_zsIn n len hG hl j
    refine (LinI.ite (p := len - 2 - j = k ∧ k < m) (fun _ => (ih (len - 2 - j)).add ((ih (len - 2 - j + 1)).mul n)) (fun _ => ih k)).congr fun c hc => ?_
    dsimp only
    rw [zsIn, getD_set, zsIn_len, hl c hc]
theorem li_zsOut {m : Nat} (n : Int) : ∀ i, LI m fun f => zsOut n f i
  | 0 => fun k => LinI.get
  | i + 1 => fun k => (li_zsIn n m (li_zsOut n i) (fun c hc => by rw [zsOut_len, hc]) (m - 1 - i) k).congr fun c hc => by
    dsimp only
    rw [zsOut, hc]
theorem li_zsR {m : Nat} (n : Int) : LI m fun f => zsR f n := fun k => (li_zsOut n (m - 1) k).congr fun c hc => by
  dsimp only
  unfold zsR; rw [hc]
noncomputable def zsChk : Bool := (List.range 7).all fun m => (List.range 8).all fun p => (List.range m).all fun j => (List.range 3).all fun o => (zsR (bas m j) ((p : Int) - 3)).getD o 0 == laR (bas m j) ((p : Int) - 3) o
theorem zsChk_ok : zsChk = true := by decide +kernel
theorem zs_all {f : List Int} (hf : f.length ≤ 6) {p : Int} (h1 : -3 ≤ p) (h2 : p ≤ 4) {t : Nat} (ht : t ≤ 3) : (zsR f p ++ [0, 0, 0]).take t = (List.range t).map fun o => laR f p o := by
  have hl : (zsR f p).length = f.length := zsOut_len _ _ _
  have e : ∀ o, o < 3 → (zsR f p).getD o 0 = laR f p o := fun o ho => by
    refine LinI.eq (n := f.length) (li_zsR p o) (linI_laR1 p o) (fun j hj => ?_) f rfl
    have h := zsChk_ok
    unfold zsChk at h
    simp only [List.all_eq_true, List.mem_range, beq_iff_eq] at h
    have := h f.length (by omega) (p + 3).toNat (by omega) j hj o ho
    rwa [show (((p + 3).toNat : Nat) : Int) - 3 = p by omega] at this
  refine List.ext_getElem (by simp; omega) fun o q1 q2 => ?_
  have q3 : o < t := by simpa using q2
  have := e o (by omega)
  rw [List.getElem_take, List.getElem_map, List.getElem_range, ← this]
  by_cases q : o < f.length
  · rw [List.getElem_append_left (by omega)]
    simp [List.getD_eq_getElem?_getD, List.getElem?_eq_getElem (show o < (zsR f p).length by omega)]
  · rw [List.getElem_append_right (by omega), getD_out (by omega)]
    have h3 : o - (zsR f p).length < 3 := by omega
    have : ∀ a, (h : a < 3) → ([0, 0, 0] : List Int)[a]'h = 0 := by decide
    exact this _ h3
end

/-! text Pa8 -/
section
/-! the checks, as Bools -/
noncomputable def smI (x : Int) : Bool := Nat.blt x.natAbs (2 ^ 100)
theorem smI_ok {x : Int} (h : smI x = true) : Sm x := by
  unfold smI at h; rw [Nat.blt_eq] at h
  exact ⟨Nat.lt_trans h (Nat.pow_lt_pow_right (by decide) (by decide))⟩
noncomputable def bsB (n : Nat) (M : List (List Int)) (step : Nat) (ahead : Int) : Bool :=
  ahead != 0 && Nat.blt ahead.natAbs (2 ^ 100) && smI (get2 M step step) && (List.range (n - 1 - step)).all fun i => smI (get2 (bsOut M step ahead i) (step + 1 + i) step) && (List.range (n - 1 - step)).all fun j =>
    smI (get2 (bsIn (get2 M step step) (get2 (bsOut M step ahead i) (step + 1 + i) step) ahead step (step + 1 + i) (bsOut M step ahead i) j) (step + 1 + i) (step + 1 + j)) &&
    smI (get2 (bsIn (get2 M step step) (get2 (bsOut M step ahead i) (step + 1 + i) step) ahead step (step + 1 + i) (bsOut M step ahead i) j) step (step + 1 + j))
noncomputable def detB (n : Nat) (M : List (List Int)) : Bool := Nat.blt 0 n && Nat.ble n 1000 && M.length == n && ((List.range n).all fun i => (M.getD i []).length == n) && (List.range n).all fun i => get2 (detS M i).1 i i != 0 && bsB n (detS M i).1 i (detS M i).2
theorem bsB_ok {n : Nat} {M : List (List Int)} {step : Nat} {ahead : Int} (h : bsB n M step ahead = true) (sq : Sq n M) (nb : n ≤ 1000) (sn : step < n) : BsOk n M step ahead := by
  unfold bsB at h
  simp only [Bool.and_eq_true, List.all_eq_true, List.mem_range, bne_iff_ne, ne_eq] at h
  obtain ⟨⟨⟨h1, h2⟩, h3⟩, h4⟩ := h
  rw [Nat.blt_eq] at h2
  refine ⟨sq, nb, sn, h1, ?_, smI_ok h3, fun i hi => ⟨smI_ok (h4 i hi).1, fun j hj => ⟨smI_ok ((h4 i hi).2 j hj).1, smI_ok ((h4 i hi).2 j hj).2⟩⟩⟩
  have := (Nat.log2_lt (show ahead.natAbs ≠ 0 by omega)).mpr h2
  omega
theorem detB_ok {n : Nat} {M : List (List Int)} (h : detB n M = true) : DetOk n M := by
  unfold detB at h
  simp only [Bool.and_eq_true, List.all_eq_true, List.mem_range, bne_iff_ne, ne_eq, beq_iff_eq] at h
  obtain ⟨⟨⟨⟨h1, h2⟩, h3⟩, h4⟩, h5⟩ := h
  rw [Nat.blt_eq] at h1
  rw [Nat.ble_eq] at h2
  have sq : Sq n M := ⟨h3, h4⟩
  exact ⟨h1, h2, sq, fun i hi => ⟨(h5 i hi).1, bsB_ok (h5 i hi).2 (sq.det i) h2 hi⟩⟩
noncomputable def bnB (x : Rat) : Bool := (12 ^ 12) % x.den == 0 && Nat.blt (x.num.natAbs * (12 ^ 12 / x.den)) (2 ^ 100)
theorem bnB_ok {x : Rat} (h : bnB x = true) : Bn (12 ^ 12) (2 ^ 100) x := by
  unfold bnB at h
  simp only [Bool.and_eq_true, beq_iff_eq] at h
  obtain ⟨h1, h2⟩ := h
  rw [Nat.blt_eq] at h2
  obtain ⟨m, hm⟩ := Nat.dvd_of_mod_eq_zero h1
  have hd : 0 < x.den := x.den_pos
  have e : 12 ^ 12 / x.den = m := by rw [hm]; exact Nat.mul_div_cancel_left _ hd
  have m0 : m ≠ 0 := by
    intro e; rw [e, Nat.mul_zero] at hm; exact absurd hm (by decide +kernel)
  refine ⟨x.num * m, ?_, ?_⟩
  · rw [hm, Rat.mkRat_mul_right m0]; exact (Rat.mkRat_self x).symm
  · rw [Int.natAbs_mul, Int.natAbs_natCast, ← e]; exact Nat.le_of_lt h2
noncomputable def kf (P : List Int) (T : List Nat) (i : Nat) : Nat := exk (frz (oth P T i)) (frz (line P T i))
noncomputable def cfgB (P : List Int) (T : List Nat) (i : Nat) : Bool :=
  lnOk (P.getD i 0) (T.getD i 0) && ((List.range T.length).all fun j => smB (othS P T i j) && lnOk (P.getD j 0) (T.getD j 0)) && smB (oth P T i) && ((List.range (T.getD i 0)).all fun j => lnOk (P.getD i 0) j && Nat.ble (ln (P.getD i 0) j).length 3) &&
  Nat.ble (oth P T i).length 100 && Nat.ble (line P T i).length 4 && exOkB (frz (oth P T i)) (frz (line P T i)) (kf P T i) && decide ((exR (frz (oth P T i)) (frz (line P T i)) (kf P T i)).1 = [1]) &&
  Nat.ble (turn P T i (kf P T i)).length 4 && (turn P T i (kf P T i)).all bnB && !(line P T i).isEmpty && decide (lst (frz (line P T i)) = 1)
theorem cfgB_ok {P : List Int} {T : List Nat} {i : Nat} (h : cfgB P T i = true) : Cfg P T (kf P T) i := by
  unfold cfgB at h
  simp only [Bool.and_eq_true, List.all_eq_true, List.mem_range, Nat.ble_eq, decide_eq_true_eq] at h
  obtain ⟨⟨⟨⟨⟨⟨⟨⟨⟨⟨⟨h1, h2⟩, h3⟩, h4⟩, h5⟩, h6⟩, h7⟩, h8⟩, h9⟩, h10⟩, h11⟩, h12⟩ := h
  exact ⟨h1, h2, h3, h4, ⟨h5, h6⟩, exOkB_ok h7, h8, h9, Bl.of fun x hx => bnB_ok (h10 x hx), isE h11, h12⟩
noncomputable def scfgB (P : List Int) (T : List Nat) (n : Nat) (sp : List Nat) : Bool :=
  Nat.ble sp.length 100 && ((List.range sp.length).all fun j => Nat.blt (sp.getD j 0) P.length) && ((List.range sp.length).all fun i => smB (lnS P sp i) && Nat.ble (lnS P sp i).length 50 && smB [0 - P.getD (sp.getD i 0) 0, 1]) &&
  ((List.range sp.length).all fun i => (List.range (sp.length - i - 1)).all fun a =>
    if sp.getD a 0 = sp.getD (a + i + 1) 0 then Nat.blt (i + 1) (T.getD (sp.getD a 0) 0)
    else (P.getD (sp.getD (a + i + 1) 0) 0 - P.getD (sp.getD a 0) 0 != 0) && Nat.blt (P.getD (sp.getD (a + i + 1) 0) 0 - P.getD (sp.getD a 0) 0).natAbs (2 ^ 64) &&
      (List.range n).all fun j => (rowC P T P.length sp i (a + 1) (bas n j) - rowC P T P.length sp i a (bas n j)) % (P.getD (sp.getD (a + i + 1) 0) 0 - P.getD (sp.getD a 0) 0) == 0) &&
  (List.range sp.length).all fun i => (List.range n).all fun j => Nat.ble (rowC P T P.length sp i 0 (bas n j)).natAbs (2 ^ 100)
theorem scfgB_ok {P : List Int} {T : List Nat} {n : Nat} {sp : List Nat} (h : scfgB P T n sp = true) : SCfg P T P.length n sp := by
  unfold scfgB at h
  simp only [Bool.and_eq_true, List.all_eq_true, List.mem_range, Nat.ble_eq, Nat.blt_eq] at h
  obtain ⟨⟨⟨⟨h1, h2⟩, h3⟩, h4⟩, h5⟩ := h
  refine ⟨h1, h2, fun i hi => ⟨(h3 i hi).1.1, (h3 i hi).1.2, (h3 i hi).2⟩, fun i hi a ha => ⟨fun e => ?_, fun e => ?_⟩, h5⟩
  · have := h4 i hi a ha
    rw [if_pos e, Nat.blt_eq] at this; exact this
  · have := h4 i hi a ha
    rw [if_neg e] at this
    simp only [Bool.and_eq_true, List.all_eq_true, List.mem_range, Nat.blt_eq, bne_iff_ne, ne_eq, beq_iff_eq] at this
    exact ⟨this.1.1, this.1.2, fun j hj => Int.dvd_of_emod_eq_zero (this.2 j hj)⟩
noncomputable def chk (P : List Int) (T : List Nat) : Bool :=
  T.length == P.length && Nat.ble P.length 3 && Nat.blt 0 P.length && Nat.ble T.sum 6 && Nat.blt 0 (sps T).length && ((List.range P.length).all fun i => decide (-3 ≤ P.getD i 0) && decide (P.getD i 0 ≤ 4) && Nat.blt 0 (T.getD i 0) && Nat.ble (T.getD i 0) 3) &&
  ((List.range (T.length + 1)).all fun j => Nat.ble (spS T j).length 1000) && ((List.range P.length).all (cfgB P T)) &&
  ((List.range T.sum).all fun j => decide (putS (toldS (ztr (bas T.sum j)) P T P.length) P T (kf P T) P.length = frz (ztr (bas T.sum j)))) &&
  scfgB P T T.sum (sps T) && ((List.range T.sum).all fun j => decide ((stS (toldS (ztr (bas T.sum j)) P T P.length) P (sps T) (sps T).length).2.1 = ztr (bas T.sum j))) &&
  detB T.sum (rowsS P T T.sum P.length) && (detS (rowsS P T T.sum P.length) T.sum).2 == dueS P T P.length
theorem chk_ok {P : List Int} {T : List Nat} (h : chk P T = true) {c : List Int} (hc : c.length = T.sum) (hb : ∀ i, (c.getD i 0).natAbs ≤ 3) : LawOk P T (ztr c) := by
  unfold chk at h
  simp only [Bool.and_eq_true, List.all_eq_true, List.mem_range, Nat.ble_eq, Nat.blt_eq, decide_eq_true_eq, beq_iff_eq] at h
  obtain ⟨⟨⟨⟨⟨⟨⟨⟨⟨⟨⟨⟨h1, h2⟩, h3⟩, h4⟩, h5⟩, h6⟩, h7⟩, h8⟩, h9⟩, h10⟩, h11⟩, h12⟩, h13⟩ := h
  have hfl : (ztr c).length ≤ 6 := Nat.le_trans (ztr_len c) (by omega)
  have hfb : ∀ x ∈ ztr c, x.natAbs ≤ 3 := fun x hx => by
    obtain ⟨i, hi, rfl⟩ := List.mem_iff_getElem.mp hx
    have := hb i
    rw [← ztr_co, List.getD_eq_getElem?_getD, List.getElem?_eq_getElem hi] at this
    exact this
  have hpb : ∀ i, i < P.length → (P.getD i 0).natAbs ≤ 8 := fun i hi => by have := h6 i hi; omega
  have htb : ∀ i, i < P.length → T.getD i 0 ≤ 3 := fun i hi => (h6 i hi).2
  have hcf := fun i hi => cfgB_ok (h8 i hi)
  have hs := scfgB_ok h10
  refine ⟨h2, h1, h4, hpb, htb, hfl, hfb, fun i hi => ?_, detB_ok h12, h13, ⟨kf P T, put_ok hcf hfb hfl hpb htb h2, put_eq hcf h3 h9 hc⟩, fun j hj => h7 j (by omega), step_ok hs (by omega) (fun i hi => ⟨(h6 i hi).1.2, (h6 i hi).2⟩) h4 hc hb, ste_eq hs h5 h11 hc⟩
  have := h6 i hi
  exact zs_all hfl this.1.1.1 this.1.1.2 this.2
end

/-! text Pa9 -/
section
noncomputable def cP2 (a b : Nat) : List Int := [(a : Int) - 3, (a : Int) - 3 + 1 + b]
noncomputable def cT2 (s t : Nat) : List Nat := [1 + s, 1 + t]
noncomputable def cP3 (a b c : Nat) : List Int := [(a : Int) - 3, (a : Int) - 3 + 1 + b, (a : Int) - 3 + 1 + b + 1 + c]
noncomputable def cT3 (s t u : Nat) : List Nat := [1 + s, 1 + t, 1 + u]
theorem below2 {p : Nat → Prop} (h0 : p 0) (h1 : p 1) : ∀ a, a < 2 → p a
  | 0, _ => h0
  | 1, _ => h1
theorem below3 {p : Nat → Prop} (h0 : p 0) (h1 : p 1) (h2 : p 2) : ∀ a, a < 3 → p a
  | 0, _ => h0
  | 1, _ => h1
  | 2, _ => h2
theorem below4 {p : Nat → Prop} (h0 : p 0) (h1 : p 1) (h2 : p 2) (h3 : p 3) : ∀ a, a < 4 → p a
  | 0, _ => h0
  | 1, _ => h1
  | 2, _ => h2
  | 3, _ => h3
theorem k2_0000 : chk (cP2 0 0) (cT2 0 0) = true := by decide +kernel
theorem k2_0001 : chk (cP2 0 0) (cT2 0 1) = true := by decide +kernel
theorem k2_0002 : chk (cP2 0 0) (cT2 0 2) = true := by decide +kernel
theorem k2_0010 : chk (cP2 0 0) (cT2 1 0) = true := by decide +kernel
theorem k2_0011 : chk (cP2 0 0) (cT2 1 1) = true := by decide +kernel
theorem k2_0012 : chk (cP2 0 0) (cT2 1 2) = true := by decide +kernel
theorem k2_0020 : chk (cP2 0 0) (cT2 2 0) = true := by decide +kernel
theorem k2_0021 : chk (cP2 0 0) (cT2 2 1) = true := by decide +kernel
theorem k2_0022 : chk (cP2 0 0) (cT2 2 2) = true := by decide +kernel
theorem k2_0100 : chk (cP2 0 1) (cT2 0 0) = true := by decide +kernel
theorem k2_0101 : chk (cP2 0 1) (cT2 0 1) = true := by decide +kernel
theorem k2_0102 : chk (cP2 0 1) (cT2 0 2) = true := by decide +kernel
theorem k2_0110 : chk (cP2 0 1) (cT2 1 0) = true := by decide +kernel
theorem k2_0111 : chk (cP2 0 1) (cT2 1 1) = true := by decide +kernel
theorem k2_0112 : chk (cP2 0 1) (cT2 1 2) = true := by decide +kernel
theorem k2_0120 : chk (cP2 0 1) (cT2 2 0) = true := by decide +kernel
theorem k2_0121 : chk (cP2 0 1) (cT2 2 1) = true := by decide +kernel
theorem k2_0122 : chk (cP2 0 1) (cT2 2 2) = true := by decide +kernel
theorem k2_1000 : chk (cP2 1 0) (cT2 0 0) = true := by decide +kernel
theorem k2_1001 : chk (cP2 1 0) (cT2 0 1) = true := by decide +kernel
theorem k2_1002 : chk (cP2 1 0) (cT2 0 2) = true := by decide +kernel
theorem k2_1010 : chk (cP2 1 0) (cT2 1 0) = true := by decide +kernel
theorem k2_1011 : chk (cP2 1 0) (cT2 1 1) = true := by decide +kernel
theorem k2_1012 : chk (cP2 1 0) (cT2 1 2) = true := by decide +kernel
theorem k2_1020 : chk (cP2 1 0) (cT2 2 0) = true := by decide +kernel
theorem k2_1021 : chk (cP2 1 0) (cT2 2 1) = true := by decide +kernel
theorem k2_1022 : chk (cP2 1 0) (cT2 2 2) = true := by decide +kernel
theorem k2_1100 : chk (cP2 1 1) (cT2 0 0) = true := by decide +kernel
theorem k2_1101 : chk (cP2 1 1) (cT2 0 1) = true := by decide +kernel
theorem k2_1102 : chk (cP2 1 1) (cT2 0 2) = true := by decide +kernel
theorem k2_1110 : chk (cP2 1 1) (cT2 1 0) = true := by decide +kernel
theorem k2_1111 : chk (cP2 1 1) (cT2 1 1) = true := by decide +kernel
theorem k2_1112 : chk (cP2 1 1) (cT2 1 2) = true := by decide +kernel
theorem k2_1120 : chk (cP2 1 1) (cT2 2 0) = true := by decide +kernel
theorem k2_1121 : chk (cP2 1 1) (cT2 2 1) = true := by decide +kernel
theorem k2_1122 : chk (cP2 1 1) (cT2 2 2) = true := by decide +kernel
theorem k2_2000 : chk (cP2 2 0) (cT2 0 0) = true := by decide +kernel
theorem k2_2001 : chk (cP2 2 0) (cT2 0 1) = true := by decide +kernel
theorem k2_2002 : chk (cP2 2 0) (cT2 0 2) = true := by decide +kernel
theorem k2_2010 : chk (cP2 2 0) (cT2 1 0) = true := by decide +kernel
theorem k2_2011 : chk (cP2 2 0) (cT2 1 1) = true := by decide +kernel
theorem k2_2012 : chk (cP2 2 0) (cT2 1 2) = true := by decide +kernel
theorem k2_2020 : chk (cP2 2 0) (cT2 2 0) = true := by decide +kernel
theorem k2_2021 : chk (cP2 2 0) (cT2 2 1) = true := by decide +kernel
theorem k2_2022 : chk (cP2 2 0) (cT2 2 2) = true := by decide +kernel
theorem k2_2100 : chk (cP2 2 1) (cT2 0 0) = true := by decide +kernel
theorem k2_2101 : chk (cP2 2 1) (cT2 0 1) = true := by decide +kernel
theorem k2_2102 : chk (cP2 2 1) (cT2 0 2) = true := by decide +kernel
theorem k2_2110 : chk (cP2 2 1) (cT2 1 0) = true := by decide +kernel
theorem k2_2111 : chk (cP2 2 1) (cT2 1 1) = true := by decide +kernel
theorem k2_2112 : chk (cP2 2 1) (cT2 1 2) = true := by decide +kernel
theorem k2_2120 : chk (cP2 2 1) (cT2 2 0) = true := by decide +kernel
theorem k2_2121 : chk (cP2 2 1) (cT2 2 1) = true := by decide +kernel
theorem k2_2122 : chk (cP2 2 1) (cT2 2 2) = true := by decide +kernel
theorem k2_3000 : chk (cP2 3 0) (cT2 0 0) = true := by decide +kernel
theorem k2_3001 : chk (cP2 3 0) (cT2 0 1) = true := by decide +kernel
theorem k2_3002 : chk (cP2 3 0) (cT2 0 2) = true := by decide +kernel
theorem k2_3010 : chk (cP2 3 0) (cT2 1 0) = true := by decide +kernel
theorem k2_3011 : chk (cP2 3 0) (cT2 1 1) = true := by decide +kernel
theorem k2_3012 : chk (cP2 3 0) (cT2 1 2) = true := by decide +kernel
theorem k2_3020 : chk (cP2 3 0) (cT2 2 0) = true := by decide +kernel
theorem k2_3021 : chk (cP2 3 0) (cT2 2 1) = true := by decide +kernel
theorem k2_3022 : chk (cP2 3 0) (cT2 2 2) = true := by decide +kernel
theorem k2_3100 : chk (cP2 3 1) (cT2 0 0) = true := by decide +kernel
theorem k2_3101 : chk (cP2 3 1) (cT2 0 1) = true := by decide +kernel
theorem k2_3102 : chk (cP2 3 1) (cT2 0 2) = true := by decide +kernel
theorem k2_3110 : chk (cP2 3 1) (cT2 1 0) = true := by decide +kernel
theorem k2_3111 : chk (cP2 3 1) (cT2 1 1) = true := by decide +kernel
theorem k2_3112 : chk (cP2 3 1) (cT2 1 2) = true := by decide +kernel
theorem k2_3120 : chk (cP2 3 1) (cT2 2 0) = true := by decide +kernel
theorem k2_3121 : chk (cP2 3 1) (cT2 2 1) = true := by decide +kernel
theorem k2_3122 : chk (cP2 3 1) (cT2 2 2) = true := by decide +kernel
theorem all2 : ∀ a, a < 4 → ∀ b, b < 2 → ∀ s, s < 3 → ∀ t, t < 3 → chk (cP2 a b) (cT2 s t) = true :=
  (below4 (below2 (below3 (below3 k2_0000 k2_0001 k2_0002) (below3 k2_0010 k2_0011 k2_0012) (below3 k2_0020 k2_0021 k2_0022)) (below3 (below3 k2_0100 k2_0101 k2_0102) (below3 k2_0110 k2_0111 k2_0112) (below3 k2_0120 k2_0121 k2_0122))) (below2 (below3 (below3 k2_1000 k2_1001 k2_1002) (below3 k2_1010 k2_1011 k2_1012) (below3 k2_1020 k2_1021 k2_1022)) (below3 (below3 k2_1100 k2_1101 k2_1102) (below3 k2_1110 k2_1111 k2_1112) (below3 k2_1120 k2_1121 k2_1122))) (below2 (below3 (below3 k2_2000 k2_2001 k2_2002) (below3 k2_2010 k2_2011 k2_2012) (below3 k2_2020 k2_2021 k2_2022)) (below3 (below3 k2_2100 k2_2101 k2_2102) (below3 k2_2110 k2_2111 k2_2112) (below3 k2_2120 k2_2121 k2_2122))) (below2 (below3 (below3 k2_3000 k2_3001 k2_3002) (below3 k2_3010 k2_3011 k2_3012) (below3 k2_3020 k2_3021 k2_3022)) (below3 (below3 k2_3100 k2_3101 k2_3102) (below3 k2_3110 k2_3111 k2_3112) (below3 k2_3120 k2_3121 k2_3122))))
theorem k3_000000 : chk (cP3 0 0 0) (cT3 0 0 0) = true := by decide +kernel
theorem k3_000001 : chk (cP3 0 0 0) (cT3 0 0 1) = true := by decide +kernel
theorem k3_000010 : chk (cP3 0 0 0) (cT3 0 1 0) = true := by decide +kernel
theorem k3_000011 : chk (cP3 0 0 0) (cT3 0 1 1) = true := by decide +kernel
theorem k3_000100 : chk (cP3 0 0 0) (cT3 1 0 0) = true := by decide +kernel
theorem k3_000101 : chk (cP3 0 0 0) (cT3 1 0 1) = true := by decide +kernel
theorem k3_000110 : chk (cP3 0 0 0) (cT3 1 1 0) = true := by decide +kernel
theorem k3_000111 : chk (cP3 0 0 0) (cT3 1 1 1) = true := by decide +kernel
theorem k3_001000 : chk (cP3 0 0 1) (cT3 0 0 0) = true := by decide +kernel
theorem k3_001001 : chk (cP3 0 0 1) (cT3 0 0 1) = true := by decide +kernel
theorem k3_001010 : chk (cP3 0 0 1) (cT3 0 1 0) = true := by decide +kernel
theorem k3_001011 : chk (cP3 0 0 1) (cT3 0 1 1) = true := by decide +kernel
theorem k3_001100 : chk (cP3 0 0 1) (cT3 1 0 0) = true := by decide +kernel
theorem k3_001101 : chk (cP3 0 0 1) (cT3 1 0 1) = true := by decide +kernel
theorem k3_001110 : chk (cP3 0 0 1) (cT3 1 1 0) = true := by decide +kernel
theorem k3_001111 : chk (cP3 0 0 1) (cT3 1 1 1) = true := by decide +kernel
theorem k3_010000 : chk (cP3 0 1 0) (cT3 0 0 0) = true := by decide +kernel
theorem k3_010001 : chk (cP3 0 1 0) (cT3 0 0 1) = true := by decide +kernel
theorem k3_010010 : chk (cP3 0 1 0) (cT3 0 1 0) = true := by decide +kernel
theorem k3_010011 : chk (cP3 0 1 0) (cT3 0 1 1) = true := by decide +kernel
theorem k3_010100 : chk (cP3 0 1 0) (cT3 1 0 0) = true := by decide +kernel
theorem k3_010101 : chk (cP3 0 1 0) (cT3 1 0 1) = true := by decide +kernel
theorem k3_010110 : chk (cP3 0 1 0) (cT3 1 1 0) = true := by decide +kernel
theorem k3_010111 : chk (cP3 0 1 0) (cT3 1 1 1) = true := by decide +kernel
theorem k3_011000 : chk (cP3 0 1 1) (cT3 0 0 0) = true := by decide +kernel
theorem k3_011001 : chk (cP3 0 1 1) (cT3 0 0 1) = true := by decide +kernel
theorem k3_011010 : chk (cP3 0 1 1) (cT3 0 1 0) = true := by decide +kernel
theorem k3_011011 : chk (cP3 0 1 1) (cT3 0 1 1) = true := by decide +kernel
theorem k3_011100 : chk (cP3 0 1 1) (cT3 1 0 0) = true := by decide +kernel
theorem k3_011101 : chk (cP3 0 1 1) (cT3 1 0 1) = true := by decide +kernel
theorem k3_011110 : chk (cP3 0 1 1) (cT3 1 1 0) = true := by decide +kernel
theorem k3_011111 : chk (cP3 0 1 1) (cT3 1 1 1) = true := by decide +kernel
theorem k3_100000 : chk (cP3 1 0 0) (cT3 0 0 0) = true := by decide +kernel
theorem k3_100001 : chk (cP3 1 0 0) (cT3 0 0 1) = true := by decide +kernel
theorem k3_100010 : chk (cP3 1 0 0) (cT3 0 1 0) = true := by decide +kernel
theorem k3_100011 : chk (cP3 1 0 0) (cT3 0 1 1) = true := by decide +kernel
theorem k3_100100 : chk (cP3 1 0 0) (cT3 1 0 0) = true := by decide +kernel
theorem k3_100101 : chk (cP3 1 0 0) (cT3 1 0 1) = true := by decide +kernel
theorem k3_100110 : chk (cP3 1 0 0) (cT3 1 1 0) = true := by decide +kernel
theorem k3_100111 : chk (cP3 1 0 0) (cT3 1 1 1) = true := by decide +kernel
theorem k3_101000 : chk (cP3 1 0 1) (cT3 0 0 0) = true := by decide +kernel
theorem k3_101001 : chk (cP3 1 0 1) (cT3 0 0 1) = true := by decide +kernel
theorem k3_101010 : chk (cP3 1 0 1) (cT3 0 1 0) = true := by decide +kernel
theorem k3_101011 : chk (cP3 1 0 1) (cT3 0 1 1) = true := by decide +kernel
theorem k3_101100 : chk (cP3 1 0 1) (cT3 1 0 0) = true := by decide +kernel
theorem k3_101101 : chk (cP3 1 0 1) (cT3 1 0 1) = true := by decide +kernel
theorem k3_101110 : chk (cP3 1 0 1) (cT3 1 1 0) = true := by decide +kernel
theorem k3_101111 : chk (cP3 1 0 1) (cT3 1 1 1) = true := by decide +kernel
theorem k3_110000 : chk (cP3 1 1 0) (cT3 0 0 0) = true := by decide +kernel
theorem k3_110001 : chk (cP3 1 1 0) (cT3 0 0 1) = true := by decide +kernel
theorem k3_110010 : chk (cP3 1 1 0) (cT3 0 1 0) = true := by decide +kernel
theorem k3_110011 : chk (cP3 1 1 0) (cT3 0 1 1) = true := by decide +kernel
theorem k3_110100 : chk (cP3 1 1 0) (cT3 1 0 0) = true := by decide +kernel
theorem k3_110101 : chk (cP3 1 1 0) (cT3 1 0 1) = true := by decide +kernel
theorem k3_110110 : chk (cP3 1 1 0) (cT3 1 1 0) = true := by decide +kernel
theorem k3_110111 : chk (cP3 1 1 0) (cT3 1 1 1) = true := by decide +kernel
theorem k3_111000 : chk (cP3 1 1 1) (cT3 0 0 0) = true := by decide +kernel
theorem k3_111001 : chk (cP3 1 1 1) (cT3 0 0 1) = true := by decide +kernel
theorem k3_111010 : chk (cP3 1 1 1) (cT3 0 1 0) = true := by decide +kernel
theorem k3_111011 : chk (cP3 1 1 1) (cT3 0 1 1) = true := by decide +kernel
theorem k3_111100 : chk (cP3 1 1 1) (cT3 1 0 0) = true := by decide +kernel
theorem k3_111101 : chk (cP3 1 1 1) (cT3 1 0 1) = true := by decide +kernel
theorem k3_111110 : chk (cP3 1 1 1) (cT3 1 1 0) = true := by decide +kernel
theorem k3_111111 : chk (cP3 1 1 1) (cT3 1 1 1) = true := by decide +kernel
theorem k3_200000 : chk (cP3 2 0 0) (cT3 0 0 0) = true := by decide +kernel
theorem k3_200001 : chk (cP3 2 0 0) (cT3 0 0 1) = true := by decide +kernel
theorem k3_200010 : chk (cP3 2 0 0) (cT3 0 1 0) = true := by decide +kernel
theorem k3_200011 : chk (cP3 2 0 0) (cT3 0 1 1) = true := by decide +kernel
theorem k3_200100 : chk (cP3 2 0 0) (cT3 1 0 0) = true := by decide +kernel
theorem k3_200101 : chk (cP3 2 0 0) (cT3 1 0 1) = true := by decide +kernel
theorem k3_200110 : chk (cP3 2 0 0) (cT3 1 1 0) = true := by decide +kernel
theorem k3_200111 : chk (cP3 2 0 0) (cT3 1 1 1) = true := by decide +kernel
theorem k3_201000 : chk (cP3 2 0 1) (cT3 0 0 0) = true := by decide +kernel
theorem k3_201001 : chk (cP3 2 0 1) (cT3 0 0 1) = true := by decide +kernel
theorem k3_201010 : chk (cP3 2 0 1) (cT3 0 1 0) = true := by decide +kernel
theorem k3_201011 : chk (cP3 2 0 1) (cT3 0 1 1) = true := by decide +kernel
theorem k3_201100 : chk (cP3 2 0 1) (cT3 1 0 0) = true := by decide +kernel
theorem k3_201101 : chk (cP3 2 0 1) (cT3 1 0 1) = true := by decide +kernel
theorem k3_201110 : chk (cP3 2 0 1) (cT3 1 1 0) = true := by decide +kernel
theorem k3_201111 : chk (cP3 2 0 1) (cT3 1 1 1) = true := by decide +kernel
theorem k3_210000 : chk (cP3 2 1 0) (cT3 0 0 0) = true := by decide +kernel
theorem k3_210001 : chk (cP3 2 1 0) (cT3 0 0 1) = true := by decide +kernel
theorem k3_210010 : chk (cP3 2 1 0) (cT3 0 1 0) = true := by decide +kernel
theorem k3_210011 : chk (cP3 2 1 0) (cT3 0 1 1) = true := by decide +kernel
theorem k3_210100 : chk (cP3 2 1 0) (cT3 1 0 0) = true := by decide +kernel
theorem k3_210101 : chk (cP3 2 1 0) (cT3 1 0 1) = true := by decide +kernel
theorem k3_210110 : chk (cP3 2 1 0) (cT3 1 1 0) = true := by decide +kernel
theorem k3_210111 : chk (cP3 2 1 0) (cT3 1 1 1) = true := by decide +kernel
theorem k3_211000 : chk (cP3 2 1 1) (cT3 0 0 0) = true := by decide +kernel
theorem k3_211001 : chk (cP3 2 1 1) (cT3 0 0 1) = true := by decide +kernel
theorem k3_211010 : chk (cP3 2 1 1) (cT3 0 1 0) = true := by decide +kernel
theorem k3_211011 : chk (cP3 2 1 1) (cT3 0 1 1) = true := by decide +kernel
theorem k3_211100 : chk (cP3 2 1 1) (cT3 1 0 0) = true := by decide +kernel
theorem k3_211101 : chk (cP3 2 1 1) (cT3 1 0 1) = true := by decide +kernel
theorem k3_211110 : chk (cP3 2 1 1) (cT3 1 1 0) = true := by decide +kernel
theorem k3_211111 : chk (cP3 2 1 1) (cT3 1 1 1) = true := by decide +kernel
theorem k3_300000 : chk (cP3 3 0 0) (cT3 0 0 0) = true := by decide +kernel
theorem k3_300001 : chk (cP3 3 0 0) (cT3 0 0 1) = true := by decide +kernel
theorem k3_300010 : chk (cP3 3 0 0) (cT3 0 1 0) = true := by decide +kernel
theorem k3_300011 : chk (cP3 3 0 0) (cT3 0 1 1) = true := by decide +kernel
theorem k3_300100 : chk (cP3 3 0 0) (cT3 1 0 0) = true := by decide +kernel
theorem k3_300101 : chk (cP3 3 0 0) (cT3 1 0 1) = true := by decide +kernel
theorem k3_300110 : chk (cP3 3 0 0) (cT3 1 1 0) = true := by decide +kernel
theorem k3_300111 : chk (cP3 3 0 0) (cT3 1 1 1) = true := by decide +kernel
theorem k3_301000 : chk (cP3 3 0 1) (cT3 0 0 0) = true := by decide +kernel
theorem k3_301001 : chk (cP3 3 0 1) (cT3 0 0 1) = true := by decide +kernel
theorem k3_301010 : chk (cP3 3 0 1) (cT3 0 1 0) = true := by decide +kernel
theorem k3_301011 : chk (cP3 3 0 1) (cT3 0 1 1) = true := by decide +kernel
theorem k3_301100 : chk (cP3 3 0 1) (cT3 1 0 0) = true := by decide +kernel
theorem k3_301101 : chk (cP3 3 0 1) (cT3 1 0 1) = true := by decide +kernel
theorem k3_301110 : chk (cP3 3 0 1) (cT3 1 1 0) = true := by decide +kernel
theorem k3_301111 : chk (cP3 3 0 1) (cT3 1 1 1) = true := by decide +kernel
theorem k3_310000 : chk (cP3 3 1 0) (cT3 0 0 0) = true := by decide +kernel
theorem k3_310001 : chk (cP3 3 1 0) (cT3 0 0 1) = true := by decide +kernel
theorem k3_310010 : chk (cP3 3 1 0) (cT3 0 1 0) = true := by decide +kernel
theorem k3_310011 : chk (cP3 3 1 0) (cT3 0 1 1) = true := by decide +kernel
theorem k3_310100 : chk (cP3 3 1 0) (cT3 1 0 0) = true := by decide +kernel
theorem k3_310101 : chk (cP3 3 1 0) (cT3 1 0 1) = true := by decide +kernel
theorem k3_310110 : chk (cP3 3 1 0) (cT3 1 1 0) = true := by decide +kernel
theorem k3_310111 : chk (cP3 3 1 0) (cT3 1 1 1) = true := by decide +kernel
theorem k3_311000 : chk (cP3 3 1 1) (cT3 0 0 0) = true := by decide +kernel
theorem k3_311001 : chk (cP3 3 1 1) (cT3 0 0 1) = true := by decide +kernel
theorem k3_311010 : chk (cP3 3 1 1) (cT3 0 1 0) = true := by decide +kernel
theorem k3_311011 : chk (cP3 3 1 1) (cT3 0 1 1) = true := by decide +kernel
theorem k3_311100 : chk (cP3 3 1 1) (cT3 1 0 0) = true := by decide +kernel
theorem k3_311101 : chk (cP3 3 1 1) (cT3 1 0 1) = true := by decide +kernel
theorem k3_311110 : chk (cP3 3 1 1) (cT3 1 1 0) = true := by decide +kernel
theorem k3_311111 : chk (cP3 3 1 1) (cT3 1 1 1) = true := by decide +kernel
theorem all3 : ∀ a, a < 4 → ∀ b, b < 2 → ∀ c, c < 2 → ∀ s, s < 2 → ∀ t, t < 2 → ∀ u, u < 2 → chk (cP3 a b c) (cT3 s t u) = true :=
  (below4 (below2 (below2 (below2 (below2 (below2 k3_000000 k3_000001) (below2 k3_000010 k3_000011)) (below2 (below2 k3_000100 k3_000101) (below2 k3_000110 k3_000111))) (below2 (below2 (below2 k3_001000 k3_001001) (below2 k3_001010 k3_001011)) (below2 (below2 k3_001100 k3_001101) (below2 k3_001110 k3_001111)))) (below2 (below2 (below2 (below2 k3_010000 k3_010001) (below2 k3_010010 k3_010011)) (below2 (below2 k3_010100 k3_010101) (below2 k3_010110 k3_010111))) (below2 (below2 (below2 k3_011000 k3_011001) (below2 k3_011010 k3_011011)) (below2 (below2 k3_011100 k3_011101) (below2 k3_011110 k3_011111))))) (below2 (below2 (below2 (below2 (below2 k3_100000 k3_100001) (below2 k3_100010 k3_100011)) (below2 (below2 k3_100100 k3_100101) (below2 k3_100110 k3_100111))) (below2 (below2 (below2 k3_101000 k3_101001) (below2 k3_101010 k3_101011)) (below2 (below2 k3_101100 k3_101101) (below2 k3_101110 k3_101111)))) (below2 (below2 (below2 (below2 k3_110000 k3_110001) (below2 k3_110010 k3_110011)) (below2 (below2 k3_110100 k3_110101) (below2 k3_110110 k3_110111))) (below2 (below2 (below2 k3_111000 k3_111001) (below2 k3_111010 k3_111011)) (below2 (below2 k3_111100 k3_111101) (below2 k3_111110 k3_111111))))) (below2 (below2 (below2 (below2 (below2 k3_200000 k3_200001) (below2 k3_200010 k3_200011)) (below2 (below2 k3_200100 k3_200101) (below2 k3_200110 k3_200111))) (below2 (below2 (below2 k3_201000 k3_201001) (below2 k3_201010 k3_201011)) (below2 (below2 k3_201100 k3_201101) (below2 k3_201110 k3_201111)))) (below2 (below2 (below2 (below2 k3_210000 k3_210001) (below2 k3_210010 k3_210011)) (below2 (below2 k3_210100 k3_210101) (below2 k3_210110 k3_210111))) (below2 (below2 (below2 k3_211000 k3_211001) (below2 k3_211010 k3_211011)) (below2 (below2 k3_211100 k3_211101) (below2 k3_211110 k3_211111))))) (below2 (below2 (below2 (below2 (below2 k3_300000 k3_300001) (below2 k3_300010 k3_300011)) (below2 (below2 k3_300100 k3_300101) (below2 k3_300110 k3_300111))) (below2 (below2 (below2 k3_301000 k3_301001) (below2 k3_301010 k3_301011)) (below2 (below2 k3_301100 k3_301101) (below2 k3_301110 k3_301111)))) (below2 (below2 (below2 (below2 k3_310000 k3_310001) (below2 k3_310010 k3_310011)) (below2 (below2 k3_310100 k3_310101) (below2 k3_310110 k3_310111))) (below2 (below2 (below2 k3_311000 k3_311001) (below2 k3_311010 k3_311011)) (below2 (below2 k3_311100 k3_311101) (below2 k3_311110 k3_311111))))))
end

/-! text PaZ -/
section
theorem drw_lt (scr : List Int) (k : Nat) {m : Nat} (h : 0 < m) : drw scr k m < m := Nat.mod_lt _ h
theorem chk_all (scr : List Int) : chk (places scr) (timesN scr) = true := by
  have h0 : drw scr 0 2 < 2 := drw_lt _ _ (by decide)
  rcases (show drw scr 0 2 = 0 ∨ drw scr 0 2 = 1 by omega) with e | e
  · have m2 : manyN scr = 2 := by unfold manyN; rw [e]
    have e1 : places scr = cP2 (drw scr 1 4) (drw scr 2 2) := by unfold places; rw [m2]; rfl
    have e2 : timesN scr = cT2 (drw scr 3 3) (drw scr 4 3) := by unfold timesN; rw [m2]; rfl
    rw [e1, e2]
    exact all2 _ (drw_lt _ _ (by decide)) _ (drw_lt _ _ (by decide)) _ (drw_lt _ _ (by decide)) _ (drw_lt _ _ (by decide))
  · have m3 : manyN scr = 3 := by unfold manyN; rw [e]
    have e1 : places scr = cP3 (drw scr 1 4) (drw scr 2 2) (drw scr 3 2) := by unfold places; rw [m3]; rfl
    have e2 : timesN scr = cT3 (drw scr 4 2) (drw scr 5 2) (drw scr 6 2) := by unfold timesN; rw [m3]; rfl
    rw [e1, e2]
    exact all3 _ (drw_lt _ _ (by decide)) _ (drw_lt _ _ (by decide)) _ (drw_lt _ _ (by decide)) _ (drw_lt _ _ (by decide)) _ (drw_lt _ _ (by decide)) _ (drw_lt _ _ (by decide))
theorem plain_law (scr : List Int) : LawOk (places scr) (timesN scr) (ztr (f0 scr)) := by
  refine chk_ok (chk_all scr) (by unfold f0; simp) fun i => ?_
  unfold f0
  rw [getD_range]
  split
  · have := drw_lt scr (2 * manyN scr + 1 + i) (m := 7) (by decide)
    omega
  · decide
end

/-! text Hk -/
section
/-! the head looks at two tuples that stand at the top -/
noncomputable def gName (h : Heap) (x : Str) : Option Value := match h.get? mainGlobals with
  | some ⟨_, _, .dict es _, _⟩ => nsFind es x
  | _ => none
theorem gName_some {h : Heap} {x : Str} {v : Value} (e : gName h x = some v) : ∃ o es ep, h.get? mainGlobals = some o ∧ o.data = .dict es ep ∧ nsFind es x = some v := by
  unfold gName at e
  split at e
  · rename_i q; exact ⟨_, _, _, q, rfl, e⟩
  · cases e
theorem gName_keep {h h' : Heap} {x : Str} {v : Value} (e : gName h x = some v) (k : ∀ b o, h.get? b = some o → h'.get? b = some o) : gName h' x = some v := by
  obtain ⟨⟨c, d, dt, s⟩, es, ep, e1, e2, e3⟩ := gName_some e
  cases e2
  unfold gName
  rw [k _ _ e1]; exact e3
noncomputable def o0 : Obj := { cls := .type "tuple", data := .seq #[.int 0 232, .int 1 233] }
noncomputable def o1 : Obj := { cls := .type "tuple", data := .seq #[.int 1 235, .int 1 236] }
noncomputable def hkSays (h : Heap) : Prop := gName h "R0" = some (.ref 42) ∧ gName h "R1" = some (.ref 43) ∧ h.get? 42 = some o0 ∧ h.get? 43 = some o1
noncomputable def hkObs (s : Shared) : List (Option Value) × List (Option Obj) := ([gName s.heap "R0", gName s.heap "R1"], [s.heap.get? 42, s.heap.get? 43])
noncomputable def hkVal (_ : World) : List (Option Value) × List (Option Obj) := ([some (.ref 42), some (.ref 43)], [some o0, some o1])
theorem hk_of (w : World) (s : Shared) (e : hkObs s = hkVal w) : hkSays s.heap := by
  unfold hkObs hkVal at e
  simp only [Prod.mk.injEq, List.cons.injEq, and_true] at e
  exact ⟨e.1.1, e.1.2, e.2.1, e.2.2⟩
theorem hk_keeps (w : World) (h h' : Heap) (e : hkSays h) (k : ∀ b o, h.get? b = some o → h'.get? b = some o) : hkSays h' := ⟨gName_keep e.1 k, gName_keep e.2.1 k, k _ _ e.2.2.1, k _ _ e.2.2.2⟩
noncomputable def hk : Hook := ⟨List (Option Value) × List (Option Obj), hkObs, hkVal, fun _ h => hkSays h, hk_of, hk_keeps⟩
theorem gName_ns {h : Heap} {mg : Str → Option Value} {x : Str} {v : Value} (G : h.Ns mainGlobals mg) (e : gName h x = some v) : mg x = some v := by
  obtain ⟨o, es, ep, e1, e2, e3⟩ := gName_some e
  obtain ⟨o', es', ep', g1, g2, _, g3⟩ := G
  rw [e1] at g1; cases g1
  rw [e2] at g2; cases g2
  rw [← g3]; exact e3
end
end Mine
set_option maxHeartbeats 8000000 in
theorem PySem.Challenge.cw_xm0131_01_holds : PySem.Challenge.rw_xm0131_01.Holds := by
  w_on
  o_law
  o_head Mine.hk
  case hw => w_witness2
  intro w s₀ s₁ mg mb G Y fa o pm cd doc dV kV ho hd hcd hD hmg hg args vals as hpre hlay hrd hwl hlo
  obtain ⟨y0, y1, y2, y3⟩ := Y
  refine Ground.open G ?_
  intro T B D TE TW
  clear D B TE TW
  wrow_args hpre hlay hrd hwl hlo
  rename_i is _ _ _ _ _ _ _ l vs _ hL ra w1 r0 hI hr hcond1 hcond2
  refine enter_call ?_
  refine codeAny_mono ?_ (fun _ _ g => GoodW.toG g)
  have hl : s₁.heap.get? l = some (Mine.listO vs.toArray 0) := by
    obtain ⟨ol, e1, e2, n, e3⟩ := hL
    cases w1 with
    | list e4 _ => rw [e4] at e1; cases e1; cases e3; exact e4
  refine codeAny_mono (Mine.join T (by with_unfolding_all rfl) (by decide +kernel) (Mine.gName_ns T.g y0) y2 (Mine.gName_ns T.g y1) y3 hmg hl hI (by omega) (Mine.plain_law _)) ?_
  rintro r s' ⟨rfl, ⟨h', tk, rfl⟩, hk⟩
  have hos : ({ s₁ with heap := h', toks := tk } : Shared).os = s₁.os := rfl
  have hgn : ({ s₁ with heap := h', toks := tk } : Shared).gens = #[] := hg
  generalize ({ s₁ with heap := h', toks := tk } : Shared) = s' at *
  exact ⟨.inl ⟨_, .bool true, [], rfl, raisesW_false (by wrow_none_raised), .bool true, (by wrow_post), unshared_nil⟩, hk, hos, hgn⟩
